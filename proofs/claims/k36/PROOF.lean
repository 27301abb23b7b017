import PyProof.Rows.All
import Wide.All
import OpenK.AllK
import Wide.FinOn
import HandS.ForMost
import HandS.ForExc
import HandS.Zip
import HandS.Wide
import HandS.TupMul
import HandS.TupAny
import HandS.TupLe
import HandS.IsInst
import HandS.Style
import HandS.Conv
import KE.KDictKeyed
import HandS.TupLen
import KE.DataEq
import KE.KxIndex
import KE.KSortTupG
import HandS.Sort
import HandS.SortRule
import KE.SortData
import HandS.More
import HandS.SlotsOwn
import HandS.SortKw
import KE.DataMinMax
import PyProof.Claim2Refuses
import KE.GoesEnum
import KE.DataCmp
import KE.KDictDisplayH
import HandS.Deep
import PySem.Challenge.RW_deltamill_k36_whole_least_forms
set_option Elab.async false
set_option linter.all false
set_option maxRecDepth 100000
set_option exponentiation.threshold 5000
set_option maxHeartbeats 4000000
set_option pp.maxSteps 2000
/-! DL0: values by their contents (D), what stands for what (Den), slots (Sl), states (Rel), steps (Tr). -/
namespace DL
open PySem PySem.Spec PyProof.Rows L2
/-- the world whose hashes stand in dicts with nested keys -/
class HW where
  w : World

def Ex (H H' : Hp) : Prop := ∀ a o, H a = some o → H' a = some o
theorem Ex.refl (H : Hp) : Ex H H := fun _ _ h => h
theorem Ex.trans {H H1 H2 : Hp} (a : Ex H H1) (b : Ex H1 H2) : Ex H H2 := fun x o h => b x o (a x o h)
theorem Ex.new {H : Hp} {p : Addr} {o : HO} (h : H p = none) : Ex H (upd H p o) := fun a u e => by
  rw [upd_ne (ne_of_none e h)]; exact e
theorem Ex.free {H H' : Hp} (e : Ex H H') {p : Addr} (h : H' p = none) : H p = none := by
  cases q : H p with
  | none => rfl
  | some o => rw [e p o q] at h; cases h
theorem Ex.rd {H H' : Hp} {a : Addr} {u : HO} (e : Ex H H') (h : Rd H a u) : Rd H' a u := by
  rcases h with h | ⟨o, h⟩
  · exact .inl (e a _ h)
  · exact .inr ⟨o, e a _ h⟩
theorem Ex.l {K : PySem.W.Frag} {H H' : Hp} {a : Addr} {xs : List V} (e : Ex H H') (h : SqL K H a xs) : SqL K H' a xs := by
  rcases h with h | h
  · exact .inl (e.rd h)
  · exact .inr h
theorem Ex.t {K : PySem.W.Frag} {H H' : Hp} {a : Addr} {xs : List V} (e : Ex H H') (h : SqT K H a xs) : SqT K H' a xs := by
  rcases h with h | h
  · exact .inl (e.rd h)
  · exact .inr h
theorem Ex.upd2 {S H : Hp} {p : Addr} {o : HO} (e : Ex S H) (h : H p = none) : Ex (upd S p o) (upd H p o) := fun a u q => by
  by_cases ha : a = p
  · subst ha; rw [upd_same] at q ⊢; exact q
  · rw [upd_ne ha] at q ⊢; exact e a u q

/-- where the class of a name stands -/
def ClsAt (K : PySem.W.Frag) (cn : Str) (C : Addr) : Prop := PySem.W.nsIn K mainGlobals cn = some (some (.ref C))
theorem ClsAt.uniq {K : PySem.W.Frag} {cn : Str} {C C' : Addr} (h : ClsAt K cn C) (h' : ClsAt K cn C') : C = C' := by
  have := h.symm.trans h'
  cases this
  rfl

/-- a value by its contents -/
inductive D where
  | non | bl (b : Bool) | int (i : Int) | str (s : Str) | ty (n : String) | ref (a : Addr)
  | tup (xs : List D) | lst (xs : List D)
  /-- a list that is only read (the script) -/
  | rol (xs : List D)
  | dT (ks : List (List Key)) (vs : List D)
  | dK (ks : List Key) (vs : List D)
  /-- a dict whose keys are tuples, nested or not -/
  | dN (ks : List D) (vs : List D)
  /-- an instance of the class of that name -/
  | obj (cn : Str) (ns : List Str) (vs : List D)
  /-- a class of the program -/
  | cls (cn : Str)

mutual
def nk : D → Option NestedKey
  | .non => some .none
  | .bl b => some (.num (if b = true then 1 else 0))
  | .int i => some (.num i)
  | .str x => some (.text x)
  | .tup ds => (nks ds).map .tup
  | _ => none
def nks : List D → Option (List NestedKey)
  | [] => some []
  | d :: ds => (nk d).bind fun k => (nks ds).map fun ks => k :: ks
end
def nkT : D → Option NestedKey
  | .tup ds => nk (.tup ds)
  | _ => none
/-- the dict at a: its keys, where they stand, what they lead to -/
def GoodN [HW] (kvs : List (NestedKey × Addr × V)) (a : Addr) (h : Heap) : Prop := kvs.length ≤ sizeLine ∧ (a == sysModules) = false ∧ ∃ xs : List (NestedKey × Addr × Value),
  Paired (fun (p : NestedKey × Addr × V) (q : NestedKey × Addr × Value) => p.1 = q.1 ∧ p.2.1 = q.2.1 ∧ RelV p.2.2 q.2.2) kvs xs ∧
  ∃ o es ep, h.get? a = some o ∧ o.ExactDict ∧ o.data = .dict es ep ∧ es.toList = xs.map (fun x => (⟨x.1.hash HW.w, .ref x.2.1, x.2.2⟩ : DictEntry)) ∧ (xs.map (·.1)).Nodup ∧ ∀ x ∈ xs, x.1.depth ≤ 8
def HoN [HW] (a : Addr) (kvs : List (NestedKey × Addr × V)) : HO := .ext fun h => GoodN kvs a h
variable [HW]
mutual
inductive Den (K : PySem.W.Frag) (H : Hp) : V → D → Prop
  | non : Den K H .non .non
  | bl (b : Bool) : Den K H (.bl b) (.bl b)
  | int (i : Int) : Den K H (.int i) (.int i)
  | str (x : Str) : Den K H (.str x) (.str x)
  | ty (n : String) : Den K H (.ty n) (.ty n)
  | ref (a : Addr) : Den K H (.ref a) (.ref a)
  | tup {a : Addr} {xs : List V} {ds : List D} : H a = some (.tup xs) → Dens K H xs ds → Den K H (.ref a) (.tup ds)
  | lst {a : Addr} {xs : List V} {ds : List D} : H a = some (.lst xs) → Dens K H xs ds → Den K H (.ref a) (.lst ds)
  | rol {a : Addr} {xs : List V} {ds : List D} : SqL K H a xs → Dens K H xs ds → Den K H (.ref a) (.rol ds)
  | dT {a : Addr} {kvs : List (List Key × V)} {ks : List (List Key)} {ds : List D} : Rd H a (.dT kvs) → ks = kvs.map (·.1) → Dens K H (kvs.map (·.2)) ds → Den K H (.ref a) (.dT ks ds)
  | dK {a : Addr} {kvs : List (Key × V)} {ks : List Key} {ds : List D} : Rd H a (.dK kvs) → ks = kvs.map (·.1) → Dens K H (kvs.map (·.2)) ds → Den K H (.ref a) (.dK ks ds)
  | dN {a b : Addr} {kvs : List (NestedKey × Addr × V)} {ks ds : List D} : Rd H a (HoN b kvs) → Dens K H (kvs.map fun q => V.ref q.2.1) ks → ks.map nk = kvs.map (fun q => some q.1) → Dens K H (kvs.map fun q => q.2.2) ds → Den K H (.ref a) (.dN ks ds)
  | obj {a C dx : Addr} {cn : Str} {fs : List (Str × V)} {ns : List Str} {ds : List D} : ClsAt K cn C → H a = some (.ins C dx fs) → ns = fs.map (·.1) → Dens K H (fs.map (·.2)) ds → Den K H (.ref a) (.obj cn ns ds)
  | cls {C : Addr} {cn : Str} : ClsAt K cn C → Den K H (.ref C) (.cls cn)
inductive Dens (K : PySem.W.Frag) (H : Hp) : List V → List D → Prop
  | nil : Dens K H [] []
  | cons {v : V} {vs : List V} {d : D} {ds : List D} : Den K H v d → Dens K H vs ds → Dens K H (v :: vs) (d :: ds)
end

section
variable {K : PySem.W.Frag} {H H' : Hp}
mutual
theorem Den.mono (e : Ex H H') : ∀ {v : V} {d : D}, Den K H v d → Den K H' v d
  | _, _, .non => .non
  | _, _, .bl b => .bl b
  | _, _, .int i => .int i
  | _, _, .str x => .str x
  | _, _, .ty n => .ty n
  | _, _, .ref a => .ref a
  | _, _, .tup h t => .tup (e _ _ h) (Dens.mono e t)
  | _, _, .lst h t => .lst (e _ _ h) (Dens.mono e t)
  | _, _, .rol h t => .rol (e.l h) (Dens.mono e t)
  | _, _, .dT h q t => .dT (e.rd h) q (Dens.mono e t)
  | _, _, .dK h q t => .dK (e.rd h) q (Dens.mono e t)
  | _, _, .dN h t q u => .dN (e.rd h) (Dens.mono e t) q (Dens.mono e u)
  | _, _, .obj c h q t => .obj c (e _ _ h) q (Dens.mono e t)
  | _, _, .cls c => .cls c
theorem Dens.mono (e : Ex H H') : ∀ {vs : List V} {ds : List D}, Dens K H vs ds → Dens K H' vs ds
  | _, _, .nil => .nil
  | _, _, .cons h t => .cons (Den.mono e h) (Dens.mono e t)
end
theorem Dens.length : ∀ {vs : List V} {ds : List D}, Dens K H vs ds → vs.length = ds.length
  | _, _, .nil => rfl
  | _, _, .cons _ t => by rw [List.length_cons, List.length_cons, Dens.length t]
theorem Dens.get : ∀ {vs : List V} {ds : List D} {i : Nat} {d : D}, Dens K H vs ds → ds[i]? = some d → ∃ v, vs[i]? = some v ∧ Den K H v d
  | _, _, _, _, .nil, e => by simp at e
  | _, _, 0, _, .cons h _, e => by simp at e; subst e; exact ⟨_, rfl, h⟩
  | _, _, i + 1, d, .cons _ t, e => by
    obtain ⟨v, h1, h2⟩ := Dens.get (i := i) (d := d) t (by simpa using e)
    exact ⟨v, by simpa using h1, h2⟩
theorem Dens.getV : ∀ {vs : List V} {ds : List D} {i : Nat} {v : V}, Dens K H vs ds → vs[i]? = some v → ∃ d, ds[i]? = some d ∧ Den K H v d
  | _, _, _, _, .nil, e => by simp at e
  | _, _, 0, _, .cons h _, e => by simp at e; subst e; exact ⟨_, rfl, h⟩
  | _, _, i + 1, v, .cons _ t, e => by
    obtain ⟨d, h1, h2⟩ := Dens.getV (i := i) (v := v) t (by simpa using e)
    exact ⟨d, by simpa using h1, h2⟩
theorem Dens.append : ∀ {vs ws : List V} {ds es : List D}, Dens K H vs ds → Dens K H ws es → Dens K H (vs ++ ws) (ds ++ es)
  | _, _, _, _, .nil, s => s
  | _, _, _, _, .cons h t, s => .cons h (Dens.append t s)
theorem Dens.take : ∀ {vs : List V} {ds : List D} (n : Nat), Dens K H vs ds → Dens K H (vs.take n) (ds.take n)
  | _, _, 0, _ => .nil
  | _, _, _ + 1, .nil => .nil
  | _, _, n + 1, .cons h t => .cons h (Dens.take n t)
theorem Dens.drop : ∀ {vs : List V} {ds : List D} (n : Nat), Dens K H vs ds → Dens K H (vs.drop n) (ds.drop n)
  | _, _, 0, r => r
  | _, _, _ + 1, .nil => .nil
  | _, _, n + 1, .cons _ t => Dens.drop n t
theorem Dens.set {v : V} {d : D} (r : Den K H v d) : ∀ {vs : List V} {ds : List D} (i : Nat), Dens K H vs ds → Dens K H (vs.set i v) (ds.set i d)
  | _, _, _, .nil => .nil
  | _, _, 0, .cons _ t => .cons r t
  | _, _, i + 1, .cons q t => .cons q (Dens.set r i t)
theorem Dens.one {v : V} {d : D} (h : Den K H v d) : Dens K H [v] [d] := .cons h .nil
theorem Dens.ints : ∀ ns : List Int, Dens K H (ns.map V.int) (ns.map D.int)
  | [] => .nil
  | n :: ns => .cons (.int n) (Dens.ints ns)
theorem Dens.ints_inv : ∀ {ns : List Int} {vs : List V}, Dens K H vs (ns.map D.int) → vs = ns.map V.int
  | [], _, .nil => rfl
  | n :: ns, _, .cons h t => by cases h; rw [Dens.ints_inv t]; rfl
theorem Dens.snoc {vs : List V} {ds : List D} {v : V} {d : D} (t : Dens K H vs ds) (h : Den K H v d) : Dens K H (vs ++ [v]) (ds ++ [d]) := t.append (.one h)
end

/-! ### slots -/
inductive Sl where
  | non | val (d : D) | own (d : D)

/-- an object by its contents -/
def HOD (K : PySem.W.Frag) (S : Hp) : HO → D → Prop
  | .lst vs, .lst ds => Dens K S vs ds
  | .dT kvs, .dT ks ds => ks = kvs.map (·.1) ∧ Dens K S (kvs.map (·.2)) ds
  | .dK kvs, .dK ks ds => ks = kvs.map (·.1) ∧ Dens K S (kvs.map (·.2)) ds
  | .ext φ, .dN ks ds => ∃ b kvs, HO.ext φ = HoN b kvs ∧ Dens K S (kvs.map fun q => V.ref q.2.1) ks ∧ ks.map nk = kvs.map (fun q => some q.1) ∧ Dens K S (kvs.map fun q => q.2.2) ds
  | .ins C _ fs, .obj cn ns ds => ClsAt K cn C ∧ ns = fs.map (·.1) ∧ Dens K S (fs.map (·.2)) ds
  | _, _ => False
theorem HOD.mono {K : PySem.W.Frag} {S S' : Hp} (e : Ex S S') {o : HO} {d : D} (h : HOD K S o d) : HOD K S' o d := by
  unfold HOD at h ⊢
  split at h
  · exact h.mono e
  · exact ⟨h.1, h.2.mono e⟩
  · exact ⟨h.1, h.2.mono e⟩
  · obtain ⟨b, kvs, e1, e2, e3, e4⟩ := h
    exact ⟨b, kvs, e1, e2.mono e, e3, e4.mono e⟩
  · exact ⟨h.1, h.2.1, h.2.2.mono e⟩
  · exact h.elim
theorem HOD.den {K : PySem.W.Frag} {S : Hp} {o : HO} {d : D} {p : Addr} (h : HOD K S o d) (hp : S p = some o) : Den K S (.ref p) d := by
  unfold HOD at h
  split at h
  · exact .lst hp h
  · exact .dT (.inl hp) h.1 h.2
  · exact .dK (.inl hp) h.1 h.2
  · obtain ⟨b, kvs, e1, e2, e3, e4⟩ := h
    rw [e1] at hp
    exact .dN (.inl hp) e2 e3 e4
  · obtain ⟨e, n, q⟩ := h
    exact .obj e hp n q
  · exact h.elim

theorem HOD.notup {K : PySem.W.Frag} {S : Hp} {xs : List V} {d : D} (h : HOD K S (.tup xs) d) : False := by
  cases d <;> exact h

structure Rel (K : PySem.W.Frag) (fi : List Nat) (fa : Nat → Addr) (σ : L2.St) (H S : Hp) (ρ : List Sl) : Prop where
  ex : Ex S H
  len : ρ.length = σ.length
  val : ∀ (i : Nat) (d : D), ρ[i]? = some (.val d) → ∃ v, σ[i]? = some (some v) ∧ Den K S v d
  own : ∀ (i : Nat) (d : D), ρ[i]? = some (.own d) → ∃ p o, σ[i]? = some (some (.ref p)) ∧ S p = none ∧ H p = some o ∧ HOD K S o d
  dis : ∀ (i j : Nat) (d e : D) (p : Addr), ρ[i]? = some (.own d) → ρ[j]? = some (.own e) → σ[i]? = some (some (.ref p)) → σ[j]? = some (some (.ref p)) → i = j
  fix : ∀ i ∈ fi, σ[i]? = some (some (.ref (fa i)))

def Owned (σ : L2.St) (ρ : List Sl) (a : Addr) : Prop := ∃ (i : Nat) (d : D), ρ[i]? = some (.own d) ∧ σ[i]? = some (some (.ref a))

structure Tr (σ : L2.St) (H S : Hp) (ρ : List Sl) (σ' : L2.St) (H' S' : Hp) (ρ' : List Sl) : Prop where
  exS : Ex S S'
  keep : ∀ a o, H a = some o → ¬ Owned σ ρ a → H' a = some o
  owned : ∀ a, Owned σ' ρ' a → Owned σ ρ a ∨ H a = none
  new : ∀ a, S' a ≠ none → S a ≠ none ∨ H a = none ∨ Owned σ ρ a ∨ ∃ xs, H a = some (.tup xs)
  dom : ∀ a, H' a = none → H a = none

section
variable {σ σ' σ'' : L2.St} {H H' H'' S S' S'' : Hp} {ρ ρ' ρ'' : List Sl}
theorem Tr.refl (σ : L2.St) (H S : Hp) (ρ : List Sl) : Tr σ H S ρ σ H S ρ := ⟨Ex.refl S, fun _ _ h _ => h, fun _ h => .inl h, fun _ h => .inl h, fun _ h => h⟩
theorem Tr.trans (a : Tr σ H S ρ σ' H' S' ρ') (b : Tr σ' H' S' ρ' σ'' H'' S'' ρ'') : Tr σ H S ρ σ'' H'' S'' ρ'' where
  exS := a.exS.trans b.exS
  keep := fun x o h n => b.keep x o (a.keep x o h n) fun q => (a.owned x q).elim n fun z => by rw [z] at h; cases h
  owned := fun x q => (b.owned x q).elim (a.owned x) fun z => .inr (a.dom x z)
  new := fun x h => by
    rcases b.new x h with z | z | z | ⟨xs, z⟩
    · exact a.new x z
    · exact .inr (.inl (a.dom x z))
    · rcases a.owned x z with y | y
      · exact .inr (.inr (.inl y))
      · exact .inr (.inl y)
    · by_cases ho : Owned σ ρ x
      · exact .inr (.inr (.inl ho))
      · cases hx : H x with
        | none => exact .inr (.inl rfl)
        | some o =>
          have := a.keep x o hx ho
          rw [z] at this
          cases this
          exact .inr (.inr (.inr ⟨xs, rfl⟩))
  dom := fun x h => a.dom x (b.dom x h)
end

/-- growth: new objects alone -/
structure Gr (S H S' H' : Hp) : Prop where
  s : Ex S S'
  h : Ex H H'
  sh : Ex S' H'
  new : ∀ a, S' a ≠ none → S a ≠ none ∨ H a = none ∨ ∃ xs, H a = some (.tup xs)
section
variable {S H S' H' S'' H'' : Hp}
theorem Gr.refl (e : Ex S H) : Gr S H S H := ⟨Ex.refl S, Ex.refl H, e, fun _ h => .inl h⟩
theorem Gr.trans (a : Gr S H S' H') (b : Gr S' H' S'' H'') : Gr S H S'' H'' := ⟨a.s.trans b.s, a.h.trans b.h, b.sh, fun x h => by
  rcases b.new x h with z | z | ⟨xs, z⟩
  · exact a.new x z
  · exact .inr (.inl (a.h.free z))
  · cases hx : H x with
    | none => exact .inr (.inl rfl)
    | some o =>
      have := a.h x o hx
      rw [z] at this
      cases this
      exact .inr (.inr ⟨xs, rfl⟩)⟩
theorem Gr.one {p : Addr} {o : HO} (e : Ex S H) (h : H p = none) : Gr S H (upd S p o) (upd H p o) :=
  ⟨Ex.new (e.free h), Ex.new h, e.upd2 h, fun a q => by
    by_cases ha : a = p
    · subst ha; exact .inr (.inl h)
    · rw [upd_ne ha] at q; exact .inl q⟩
/-- an object that the stable heap does not take in -/
theorem Gr.hid {p : Addr} {o : HO} (e : Ex S H) (h : H p = none) : Gr S H S (upd H p o) := ⟨Ex.refl S, Ex.new h, e.trans (Ex.new h), fun _ q => .inl q⟩
end

section
variable {K : PySem.W.Frag} {fi : List Nat} {fa : Nat → Addr} {σ : L2.St} {H S H' S' : Hp} {ρ : List Sl}
theorem Rel.grow (r : Rel K fi fa σ H S ρ) (g : Gr S H S' H') : Rel K fi fa σ H' S' ρ where
  ex := g.sh
  len := r.len
  val := fun i d h => by
    obtain ⟨v, e, q⟩ := r.val i d h
    exact ⟨v, e, q.mono g.s⟩
  own := fun i d h => by
    obtain ⟨p, o, e, hs, hp, q⟩ := r.own i d h
    refine ⟨p, o, e, ?_, g.h p o hp, q.mono g.s⟩
    cases z : S' p with
    | none => rfl
    | some u =>
      rcases g.new p (by rw [z]; intro q; cases q) with y | y | ⟨xs, y⟩
      · exact absurd hs y
      · rw [hp] at y; cases y
      · rw [hp] at y; cases y; exact q.notup.elim
  dis := r.dis
  fix := r.fix
theorem Gr.tr (g : Gr S H S' H') : Tr σ H S ρ σ H' S' ρ := ⟨g.s, fun a o h _ => g.h a o h, fun _ h => .inl h, fun a h => (g.new a h).elim .inl fun z => .inr (z.elim .inl fun y => .inr (.inr y)), fun a h => g.h.free h⟩
end

/-! ### judgements -/
abbrev FE := List Sl → (D → List Sl → Prop) → Prop
abbrev FT := List Sl → (Bool → List Sl → Prop) → Prop
abbrev FA := List Sl → (List D → List Sl → Prop) → Prop
inductive Fl where
  | nx (ρ : List Sl) | bk (ρ : List Sl) | ct (ρ : List Sl) | rt (d : D) (ρ : List Sl)
  /-- a new object is handed back -/
  | rf (d : D) (ρ : List Sl)
abbrev FS := List Sl → (Fl → Prop) → Prop

section
variable (K : PySem.W.Frag) (fi : List Nat) (fa : Nat → Addr)
def OkE (te : TE) (f : FE) : Prop := ∀ (σ : L2.St) (H S : Hp) (ρ : List Sl) (P : D → List Sl → Prop) (Q : VK), Rel K fi fa σ H S ρ → f ρ P →
  (∀ v H' S' d ρ', P d ρ' → Rel K fi fa σ H' S' ρ' → Tr σ H S ρ σ H' S' ρ' → Den K S' v d → Q v H') → te σ H Q
/-- new since, or owned then -/
def Nw (σ : L2.St) (ρ : List Sl) (H : Hp) (a : Addr) : Prop := H a = none ∨ Owned σ ρ a
/-- such an object, not in the stable heap, no slot's -/
def Fresh (σ : L2.St) (H S : Hp) (ρ : List Sl) (W : Addr → Prop) (v : V) (d : D) : Prop := ∃ p o, v = .ref p ∧ W p ∧ S p = none ∧ ¬ Owned σ ρ p ∧ H p = some o ∧ HOD K S o d
def OkF (te : TE) (f : FE) : Prop := ∀ (σ : L2.St) (H S : Hp) (ρ : List Sl) (P : D → List Sl → Prop) (Q : VK), Rel K fi fa σ H S ρ → f ρ P →
  (∀ v H' S' d ρ', P d ρ' → Rel K fi fa σ H' S' ρ' → Tr σ H S ρ σ H' S' ρ' → Fresh K σ H' S' ρ' (Nw σ ρ H) v d → Q v H') → te σ H Q
def OkT (tt : TT) (f : FT) : Prop := ∀ (σ : L2.St) (H S : Hp) (ρ : List Sl) (P : Bool → List Sl → Prop) (Q : Bool → Hp → Prop), Rel K fi fa σ H S ρ → f ρ P →
  (∀ b H' S' ρ', P b ρ' → Rel K fi fa σ H' S' ρ' → Tr σ H S ρ σ H' S' ρ' → Q b H') → tt σ H Q
def OkA (ta : TA) (f : FA) : Prop := ∀ (σ : L2.St) (H S : Hp) (ρ : List Sl) (P : List D → List Sl → Prop) (Q : List V → Hp → Prop), Rel K fi fa σ H S ρ → f ρ P →
  (∀ vs H' S' ds ρ', P ds ρ' → Rel K fi fa σ H' S' ρ' → Tr σ H S ρ σ H' S' ρ' → Dens K S' vs ds → Q vs H') → ta σ H Q
/-- what is known behind a statement -/
def Beh (σ : L2.St) (H S : Hp) (ρ : List Sl) (P : Fl → Prop) (E : Ends) : Prop :=
  (∀ σ' H' S' ρ', P (.nx ρ') → Rel K fi fa σ' H' S' ρ' → Tr σ H S ρ σ' H' S' ρ' → E.nx σ' H') ∧
  (∀ σ' H' S' ρ', P (.bk ρ') → Rel K fi fa σ' H' S' ρ' → Tr σ H S ρ σ' H' S' ρ' → E.bk σ' H') ∧
  (∀ σ' H' S' ρ', P (.ct ρ') → Rel K fi fa σ' H' S' ρ' → Tr σ H S ρ σ' H' S' ρ' → E.ct σ' H') ∧
  (∀ v d σ' H' S' ρ', P (.rt d ρ') → Rel K fi fa σ' H' S' ρ' → Tr σ H S ρ σ' H' S' ρ' → Den K S' v d → E.rt v H') ∧
  (∀ v d σ' H' S' ρ', P (.rf d ρ') → Rel K fi fa σ' H' S' ρ' → Tr σ H S ρ σ' H' S' ρ' → Fresh K σ' H' S' ρ' (Nw σ ρ H) v d → E.rt v H')
def OkS (ts : TS) (f : FS) : Prop := ∀ (σ : L2.St) (H S : Hp) (ρ : List Sl) (P : Fl → Prop) (E : Ends), Rel K fi fa σ H S ρ → f ρ P → Beh K fi fa σ H S ρ P E → ts E σ H
end

section
variable (X : Cx) (fi : List Nat) (fa : Nat → Addr)
def PED (e : Expr) (f : FE) : Prop := ∃ t, PE X e t ∧ OkE X.K fi fa t f
def PEF (e : Expr) (f : FE) : Prop := ∃ t, PE X e t ∧ OkF X.K fi fa t f
def PTD (e : Expr) (f : FT) : Prop := ∃ t, PT X e t ∧ OkT X.K fi fa t f
def PAD (es : List Expr) (f : FA) : Prop := ∃ t, PA X es t ∧ OkA X.K fi fa t f
def PSD (st : Stmt) (f : FS) : Prop := ∃ t, PS X st t ∧ OkS X.K fi fa t f
def PSsD (st : List Stmt) (f : FS) : Prop := ∃ t, PSs X st t ∧ OkS X.K fi fa t f
end
end DL

/-! DL1: names, constants, operators, tests, arguments, displays, statements. -/
namespace DL
open PySem PySem.Spec PyProof.Rows L2
variable [HW]

section
variable {K : PySem.W.Frag} {fi : List Nat} {fa : Nat → Addr} {σ : L2.St} {H S : Hp} {ρ : List Sl}
/-- an object becomes stable -/
theorem Rel.take {p : Addr} {o : HO} (r : Rel K fi fa σ H S ρ) (hp : H p = some o) (hs : S p = none) (ho : ¬ Owned σ ρ p) : Rel K fi fa σ H (upd S p o) ρ where
  ex := fun a u h => by
    by_cases ha : a = p
    · subst ha; rw [upd_same] at h; cases h; exact hp
    · rw [upd_ne ha] at h; exact r.ex a u h
  len := r.len
  val := fun i d h => by
    obtain ⟨v, e, q⟩ := r.val i d h
    exact ⟨v, e, q.mono (Ex.new hs)⟩
  own := fun i d h => by
    obtain ⟨q, u, e, h1, h2, h3⟩ := r.own i d h
    refine ⟨q, u, e, ?_, h2, h3.mono (Ex.new hs)⟩
    rw [upd_ne (fun z => ho ⟨i, d, h, by rw [e, z]⟩)]; exact h1
  dis := r.dis
  fix := r.fix
theorem Tr.take {p : Addr} {o : HO} (hs : S p = none) (h0 : Owned σ ρ p) : Tr σ H S ρ σ H (upd S p o) ρ :=
  ⟨Ex.new hs, fun _ _ h _ => h, fun _ h => .inl h, fun a h => by
    by_cases ha : a = p
    · subst ha; exact .inr (.inr (.inl h0))
    · rw [upd_ne ha] at h; exact .inl h, fun _ h => h⟩
theorem get_set_eq {α : Type} {l : List α} {i : Nat} {x y : α} (h : (l.set i x)[i]? = some y) : y = x := by
  rw [List.getElem?_set] at h
  rw [if_pos rfl] at h
  split at h
  · exact (Option.some.inj h).symm
  · cases h
theorem get_set_ne {α : Type} {l : List α} {i j : Nat} {x : α} (h : j ≠ i) : (l.set i x)[j]? = l[j]? := List.getElem?_set_ne (Ne.symm h)
/-- one slot's knowledge is replaced by a value's -/
theorem Rel.setVal {i : Nat} {v : V} {d : D} (r : Rel K fi fa σ H S ρ) (hv : σ[i]? = some (some v)) (hd : Den K S v d) : Rel K fi fa σ H S (ρ.set i (.val d)) where
  ex := r.ex
  len := by rw [List.length_set]; exact r.len
  val := fun j e h => by
    by_cases hj : j = i
    · subst hj
      have := get_set_eq h
      cases this
      exact ⟨v, hv, hd⟩
    · rw [get_set_ne hj] at h; exact r.val j e h
  own := fun j e h => by
    by_cases hj : j = i
    · subst hj
      have := get_set_eq h
      cases this
    · rw [get_set_ne hj] at h; exact r.own j e h
  dis := fun j k e f p h1 h2 => by
    have hj : j ≠ i := fun z => by subst z; have := get_set_eq h1; cases this
    have hk : k ≠ i := fun z => by subst z; have := get_set_eq h2; cases this
    rw [get_set_ne hj] at h1
    rw [get_set_ne hk] at h2
    exact r.dis j k e f p h1 h2
  fix := r.fix
theorem owned_set_val {i : Nat} {d : D} {a : Addr} (h : Owned σ (ρ.set i (.val d)) a) : Owned σ ρ a := by
  obtain ⟨j, e, h1, h2⟩ := h
  have hj : j ≠ i := fun z => by subst z; have := get_set_eq h1; cases this
  rw [get_set_ne hj] at h1
  exact ⟨j, e, h1, h2⟩
theorem owned_set_non {i : Nat} {a : Addr} (h : Owned σ (ρ.set i .non) a) : Owned σ ρ a := by
  obtain ⟨j, e, h1, h2⟩ := h
  have hj : j ≠ i := fun z => by subst z; have := get_set_eq h1; cases this
  rw [get_set_ne hj] at h1
  exact ⟨j, e, h1, h2⟩
end

section
variable {X : Cx} {fi : List Nat} {fa : Nat → Addr} {e a b : Expr} {f fx fy : FE} {pos : Pos}

/-- a new object as a value -/
theorem Tr.takeNew {K : PySem.W.Frag} {σ σ' : L2.St} {H S H' S' : Hp} {ρ ρ' : List Sl} {p : Addr} {o : HO} (t : Tr σ H S ρ σ' H' S' ρ') (h0 : Nw σ ρ H p) (hs : S' p = none) : Tr σ H S ρ σ' H' (upd S' p o) ρ' :=
  ⟨t.exS.trans (Ex.new hs), t.keep, t.owned, fun a q => by
    by_cases ha : a = p
    · subst ha; exact .inr (h0.imp id .inl)
    · rw [upd_ne ha] at q; exact t.new a q, t.dom⟩
theorem PEF.val (h : PEF X fi fa e f) : PED X fi fa e f := by
  obtain ⟨t, pe, ok⟩ := h
  refine ⟨t, pe, fun σ H S ρ P Q r hf k => ok σ H S ρ P Q r hf fun v H' S' d ρ' hP r' tr ⟨p, o, ev, h0, hs, no, hp, hd⟩ => ?_⟩
  subst ev
  exact k _ H' (upd S' p o) d ρ' hP (r'.take hp hs no) (tr.takeNew (K := X.K) h0 hs) ((hd.mono (Ex.new hs)).den upd_same)

/-! ### names, constants -/
def fVar (i : Nat) : FE := fun ρ P => match ρ[i]? with
  | some (.val d) => P d ρ
  | some (.own d) => P d (ρ.set i (.val d))
  | _ => False
theorem ok_var (K : PySem.W.Frag) (i : Nat) : OkE K fi fa (tVar i) (fVar i) := fun σ H S ρ P Q r hf k => by
  unfold fVar at hf
  split at hf
  · rename_i d hd
    obtain ⟨v, e, q⟩ := r.val i d hd
    exact ⟨v, e, k v H S d ρ hf r (Tr.refl σ H S ρ) q⟩
  · rename_i d hd
    obtain ⟨p, o, e, hs, hp, ho⟩ := r.own i d hd
    have den : Den K (upd S p o) (.ref p) d := (ho.mono (Ex.new hs)).den upd_same
    have r' : Rel K fi fa σ H (upd S p o) (ρ.set i (.val d)) := by
      refine ⟨fun a u h => ?_, by rw [List.length_set]; exact r.len, fun j e' h => ?_, fun j e' h => ?_, fun j l e1 e2 q h1 h2 => ?_, r.fix⟩
      · by_cases ha : a = p
        · subst ha; rw [upd_same] at h; cases h; exact hp
        · rw [upd_ne ha] at h; exact r.ex a u h
      · by_cases hj : j = i
        · subst hj
          have := get_set_eq h
          cases this
          exact ⟨_, e, den⟩
        · rw [get_set_ne hj] at h
          obtain ⟨v, e1, q1⟩ := r.val j e' h
          exact ⟨v, e1, q1.mono (Ex.new hs)⟩
      · have hj : j ≠ i := fun z => by subst z; have := get_set_eq h; cases this
        rw [get_set_ne hj] at h
        obtain ⟨q, u, e1, h1, h2, h3⟩ := r.own j e' h
        refine ⟨q, u, e1, ?_, h2, h3.mono (Ex.new hs)⟩
        have : q ≠ p := fun z => hj (r.dis j i e' d p h hd (by rw [e1, z]) e)
        rw [upd_ne this]; exact h1
      · have hj : j ≠ i := fun z => by subst z; have := get_set_eq h1; cases this
        have hl : l ≠ i := fun z => by subst z; have := get_set_eq h2; cases this
        rw [get_set_ne hj] at h1
        rw [get_set_ne hl] at h2
        exact r.dis j l e1 e2 q h1 h2
    refine ⟨_, e, k _ H _ d _ hf r' ⟨Ex.new hs, fun _ _ h _ => h, fun a h => .inl (owned_set_val h), fun a h => ?_, fun _ h => h⟩ den⟩
    by_cases ha : a = p
    · subst ha; exact .inr (.inr (.inl ⟨i, d, hd, e⟩))
    · rw [upd_ne ha] at h; exact .inl h
  · exact hf.elim
theorem pd_v (i : Nat) {x : Str} (hN : X.N[i]? = some x := by rfl) (hv : Vis X.env.scope x := by first | exact Or.inl rfl | exact Or.inr (Or.inl rfl) | exact Or.inr (Or.inr rfl)) (hd : (x == ("__debug__" : Str)) = false := by decide)
    (hcd : (x == ("__classdict__" : Str)) = false := by decide) : PED X fi fa (.Name x pos) (fVar i) := ⟨_, pv i hN hv hd hcd, ok_var X.K i⟩
def fC (d : D) : FE := fun ρ P => P d ρ
theorem ok_c {K : PySem.W.Frag} {v : V} {d : D} (h : ∀ S, Den K S v d) : OkE K fi fa (tC v) (fC d) := fun σ H S ρ P Q r hf k => k v H S d ρ hf r (Tr.refl σ H S ρ) (h S)
theorem pd_int {i j} : PED X fi fa (.Constant (.int i) j pos) (fC (.int i)) := ⟨_, pe_int, ok_c fun _ => .int i⟩
theorem pd_bl {i j} : PED X fi fa (.Constant (.bool i) j pos) (fC (.bl i)) := ⟨_, pe_bl, ok_c fun _ => .bl i⟩
theorem pd_non {j} : PED X fi fa (.Constant .none j pos) (fC .non) := ⟨_, pe_non, ok_c fun _ => .non⟩
theorem pd_str {i j} : PED X fi fa (.Constant (.str i) j pos) (fC (.str i)) := ⟨_, pe_str, ok_c fun _ => .str i⟩
/-- a module's int constant -/
theorem pd_globI {x : Str} {i : Int} {t : Tok} (hg : Gl X x) (hm : X.mg x = some (.int i t)) (hd : (x == ("__debug__" : Str)) = false := by decide) : PED X fi fa (.Name x pos) (fC (.int i)) := ⟨_, pe_glob (v := .int i) hg hm ⟨t, rfl⟩ hd, ok_c fun _ => .int i⟩
theorem pd_globR {x : Str} {a : Addr} (hg : Gl X x) (hm : X.mg x = some (.ref a)) (hd : (x == ("__debug__" : Str)) = false := by decide) : PED X fi fa (.Name x pos) (fC (.ref a)) := ⟨_, pe_glob (v := .ref a) hg hm rfl hd, ok_c fun _ => .ref a⟩
theorem pd_ty {x : Str} {n : String} (hg : Gl X x) (hm : X.mg x = none) (hv : bootBuiltins x = some (.type n) := by decide +kernel) (hn : x ≠ "__name__" := by decide) (hd : (x == ("__debug__" : Str)) = false := by decide) : PED X fi fa (.Name x pos) (fC (.ty n)) :=
  ⟨_, pe_bltn hg hm hv (v := .ty n) rfl hn hd, ok_c fun _ => .ty n⟩

/-! ### operators -/
def OpD (X : Cx) (o : Value → Value → Sem Value) (g : D → D → (D → Prop) → Prop) : Prop := ∃ r : R2, OpR X o r ∧ ∀ (x y : V) (dx dy : D) (S H : Hp) (P : D → Prop) (Q : VK), Ex S H → Den X.K S x dx → Den X.K S y dy → g dx dy P →
  (∀ v S' H' d, P d → Gr S H S' H' → Den X.K S' v d → Q v H') → r x y H Q
def fOp (g : D → D → (D → Prop) → Prop) (fx fy : FE) : FE := fun ρ P => fx ρ fun x ρ1 => fy ρ1 fun y ρ2 => g x y fun z => P z ρ2
theorem ok_op {o : Value → Value → Sem Value} {g : D → D → (D → Prop) → Prop} {r : R2} {tx ty : TE}
    (hr : ∀ (x y : V) (dx dy : D) (S H : Hp) (P : D → Prop) (Q : VK), Ex S H → Den X.K S x dx → Den X.K S y dy → g dx dy P → (∀ v S' H' d, P d → Gr S H S' H' → Den X.K S' v d → Q v H') → r x y H Q)
    (hx : OkE X.K fi fa tx fx) (hy : OkE X.K fi fa ty fy) : OkE X.K fi fa (tOp r tx ty) (fOp g fx fy) := fun σ H S ρ P Q rr hf k =>
  hx σ H S ρ _ _ rr hf fun v H1 S1 d ρ1 hf1 r1 t1 d1 => hy σ H1 S1 ρ1 _ _ r1 hf1 fun u H2 S2 d' ρ2 hf2 r2 t2 d2 =>
    hr v u d d' S2 H2 _ Q r2.ex (d1.mono t2.exS) d2 hf2 fun z S3 H3 dz hP g3 dd => k z H3 S3 dz ρ2 hP (r2.grow g3) ((t1.trans t2).trans g3.tr) dd
theorem pd_op {op : Operator} {g : D → D → (D → Prop) → Prop} (ho : OpD X (binaryOp op) g) (ha : PED X fi fa a fx) (hb : PED X fi fa b fy) : PED X fi fa (.BinOp a op b pos) (fOp g fx fy) := by
  obtain ⟨r, h1, h2⟩ := ho
  obtain ⟨tx, px, ox⟩ := ha
  obtain ⟨ty, py, oy⟩ := hb
  exact ⟨_, pe_op h1 px py, ok_op (o := binaryOp op) h2 ox oy⟩
theorem pd_cmp {op : CmpOp} {g : D → D → (D → Prop) → Prop} (ho : OpD X (compareOp op) g) (ha : PED X fi fa a fx) (hb : PED X fi fa b fy) (hm : behindInMarks op b = false := by first | exact nomark _ | rfl) : PED X fi fa (.Compare a [op] [b] pos) (fOp g fx fy) := by
  obtain ⟨r, h1, h2⟩ := ho
  obtain ⟨tx, px, ox⟩ := ha
  obtain ⟨ty, py, oy⟩ := hb
  exact ⟨_, pe_cmpR h1 px py hm, ok_op (o := compareOp op) h2 ox oy⟩
/-- what a bool is asked -/
def asB (d : D) (P : Bool → Prop) : Prop := match d with
  | .bl b => P b
  | _ => False
def fTst (f : FE) : FT := fun ρ P => f ρ fun d ρ1 => asB d fun b => P b ρ1
theorem asB_inv {d : D} {P : Bool → Prop} (h : asB d P) : ∃ b, d = .bl b ∧ P b := by
  unfold asB at h
  split at h
  · exact ⟨_, rfl, h⟩
  · exact h.elim
theorem den_bl {K : PySem.W.Frag} {S : Hp} {v : V} {b : Bool} (h : Den K S v (.bl b)) : v = .bl b := by cases h; rfl
theorem den_int {K : PySem.W.Frag} {S : Hp} {v : V} {i : Int} (h : Den K S v (.int i)) : v = .int i := by cases h; rfl
theorem den_str {K : PySem.W.Frag} {S : Hp} {v : V} {i : Str} (h : Den K S v (.str i)) : v = .str i := by cases h; rfl
theorem den_ty {K : PySem.W.Frag} {S : Hp} {v : V} {i : String} (h : Den K S v (.ty i)) : v = .ty i := by cases h; rfl
theorem den_non {K : PySem.W.Frag} {S : Hp} {v : V} (h : Den K S v .non) : v = .non := by cases h; rfl
theorem den_tup {K : PySem.W.Frag} {S : Hp} {v : V} {ds : List D} (h : Den K S v (.tup ds)) : ∃ a xs, v = .ref a ∧ S a = some (.tup xs) ∧ Dens K S xs ds := by cases h with | tup h t => exact ⟨_, _, rfl, h, t⟩
theorem den_lst {K : PySem.W.Frag} {S : Hp} {v : V} {ds : List D} (h : Den K S v (.lst ds)) : ∃ a xs, v = .ref a ∧ S a = some (.lst xs) ∧ Dens K S xs ds := by cases h with | lst h t => exact ⟨_, _, rfl, h, t⟩
theorem den_rol {K : PySem.W.Frag} {S : Hp} {v : V} {ds : List D} (h : Den K S v (.rol ds)) : ∃ a xs, v = .ref a ∧ SqL K S a xs ∧ Dens K S xs ds := by cases h with | rol h t => exact ⟨_, _, rfl, h, t⟩
theorem den_dT {K : PySem.W.Frag} {S : Hp} {v : V} {ks : List (List Key)} {ds : List D} (h : Den K S v (.dT ks ds)) : ∃ a kvs, v = .ref a ∧ Rd S a (.dT kvs) ∧ ks = kvs.map (·.1) ∧ Dens K S (kvs.map (·.2)) ds := by cases h with | dT h q t => exact ⟨_, _, rfl, h, q, t⟩
theorem den_dK {K : PySem.W.Frag} {S : Hp} {v : V} {ks : List Key} {ds : List D} (h : Den K S v (.dK ks ds)) : ∃ a kvs, v = .ref a ∧ Rd S a (.dK kvs) ∧ ks = kvs.map (·.1) ∧ Dens K S (kvs.map (·.2)) ds := by cases h with | dK h q t => exact ⟨_, _, rfl, h, q, t⟩
theorem den_obj {K : PySem.W.Frag} {S : Hp} {v : V} {cn : Str} {ns : List Str} {ds : List D} (h : Den K S v (.obj cn ns ds)) : ∃ a C dx fs, v = .ref a ∧ ClsAt K cn C ∧ S a = some (.ins C dx fs) ∧ ns = fs.map (·.1) ∧ Dens K S (fs.map (·.2)) ds := by cases h with | obj c h q t => exact ⟨_, _, _, _, rfl, c, h, q, t⟩
theorem den_cls {K : PySem.W.Frag} {S : Hp} {v : V} {cn : Str} (h : Den K S v (.cls cn)) : ∃ C, v = .ref C ∧ ClsAt K cn C := by cases h with | cls c => exact ⟨_, rfl, c⟩
theorem pt_cmpD {op : CmpOp} {g : D → D → (D → Prop) → Prop} (ho : OpD X (compareOp op) g) (ha : PED X fi fa a fx) (hb : PED X fi fa b fy) (hm : behindInMarks op b = false := by first | exact nomark _ | rfl) : PTD X fi fa (.Compare a [op] [b] pos) (fTst (fOp g fx fy)) := by
  obtain ⟨r, h1, h2⟩ := ho
  obtain ⟨tx, px, ox⟩ := ha
  obtain ⟨ty, py, oy⟩ := hb
  refine ⟨_, pt_cmpR h1 px py hm, fun σ H S ρ P Q rr hf k => ok_op (o := compareOp op) h2 ox oy σ H S ρ _ _ rr hf fun v H1 S1 d ρ1 hq r1 t1 d1 => ?_⟩
  obtain ⟨c, rfl, hp⟩ := asB_inv hq
  exact ⟨c, den_bl d1, k c H1 S1 ρ1 hp r1 t1⟩
/-- an expression that gives a bool, as a test -/
theorem pt_valD (h : PED X fi fa e f) (he : ∀ whole, isTrue e X.env whole = (do let v ← whole; standAt e.pos; holding [v] (truthy v)) := by intro _; rfl) : PTD X fi fa e (fTst f) := by
  obtain ⟨t, pe, ok⟩ := h
  refine ⟨_, pt_val pe he, fun σ H S ρ P Q rr hf k => ok σ H S ρ _ _ rr hf fun v H1 S1 d ρ1 hq r1 t1 d1 => ?_⟩
  obtain ⟨c, rfl, hp⟩ := asB_inv hq
  exact ⟨c, den_bl d1, k c H1 S1 ρ1 hp r1 t1⟩

/-! ### and, or, not -/
def PWD (X : Cx) (fi : List Nat) (fa : Nat → Addr) (e : Expr) (f : FT) : Prop := ∃ t, PW X e t ∧ OkT X.K fi fa t f
theorem PWD.pt {t : FT} (h : PWD X fi fa e t) : PTD X fi fa e t := let ⟨u, p, o⟩ := h; ⟨u, p.pt, o⟩
variable {ft fu : FT} {rest : List Expr}
def fAnd (t u : FT) : FT := fun ρ P => t ρ fun b ρ1 => if b = true then u ρ1 P else P false ρ1
def fOr (t u : FT) : FT := fun ρ P => t ρ fun b ρ1 => if b = true then P true ρ1 else u ρ1 P
def fNot (t : FT) : FT := fun ρ P => t ρ fun b ρ1 => P (!b) ρ1
theorem pwd_and1 (h : PTD X fi fa a ft) : PWD X fi fa (.BoolOp .And [a] pos) ft := let ⟨u, p, o⟩ := h; ⟨u, pw_and1 p, o⟩
theorem pwd_or1 (h : PTD X fi fa a ft) : PWD X fi fa (.BoolOp .Or [a] pos) ft := let ⟨u, p, o⟩ := h; ⟨u, pw_or1 p, o⟩
theorem pwd_and (h1 : PTD X fi fa a ft) (h2 : PWD X fi fa (.BoolOp .And (b :: rest) pos) fu) : PWD X fi fa (.BoolOp .And (a :: b :: rest) pos) (fAnd ft fu) := by
  obtain ⟨t, pt, ot⟩ := h1
  obtain ⟨u, pu, ou⟩ := h2
  refine ⟨_, pw_and pt pu, fun σ H S ρ P Q rr hf k => ot σ H S ρ _ _ rr hf fun c H1 S1 ρ1 hq r1 t1 => ?_⟩
  cases c with
  | true => exact iteT (ou σ H1 S1 ρ1 P Q r1 (by simpa using hq) fun c H2 S2 ρ2 hp r2 t2 => k c H2 S2 ρ2 hp r2 (t1.trans t2))
  | false => exact iteF (k false H1 S1 ρ1 (by simpa using hq) r1 t1)
theorem pwd_or (h1 : PTD X fi fa a ft) (h2 : PWD X fi fa (.BoolOp .Or (b :: rest) pos) fu) : PWD X fi fa (.BoolOp .Or (a :: b :: rest) pos) (fOr ft fu) := by
  obtain ⟨t, pt, ot⟩ := h1
  obtain ⟨u, pu, ou⟩ := h2
  refine ⟨_, pw_or pt pu, fun σ H S ρ P Q rr hf k => ot σ H S ρ _ _ rr hf fun c H1 S1 ρ1 hq r1 t1 => ?_⟩
  cases c with
  | false => exact iteF (ou σ H1 S1 ρ1 P Q r1 (by simpa using hq) fun c H2 S2 ρ2 hp r2 t2 => k c H2 S2 ρ2 hp r2 (t1.trans t2))
  | true => exact iteT (k true H1 S1 ρ1 (by simpa using hq) r1 t1)
theorem pt_notD (h : PTD X fi fa a ft) : PTD X fi fa (.UnaryOp .Not a pos) (fNot ft) := by
  obtain ⟨t, pt, ot⟩ := h
  exact ⟨_, pt_not pt, fun σ H S ρ P Q rr hf k => ot σ H S ρ _ _ rr hf fun c H1 S1 ρ1 hq r1 t1 => k (!c) H1 S1 ρ1 hq r1 t1⟩
def fAndV (f g : FE) : FE := fun ρ P => f ρ fun d ρ1 => asB d fun b => if b = true then g ρ1 P else P (.bl false) ρ1
def fOrV (f g : FE) : FE := fun ρ P => f ρ fun d ρ1 => asB d fun b => if b = true then P (.bl true) ρ1 else g ρ1 P
def fNotV (f : FE) : FE := fun ρ P => f ρ fun d ρ1 => asB d fun b => P (.bl (!b)) ρ1
theorem pd_one {op} (h : PED X fi fa a fx) : PED X fi fa (.BoolOp op [a] pos) fx := let ⟨u, p, o⟩ := h; ⟨u, pe_one p, o⟩
theorem pd_and (h1 : PED X fi fa a fx) (h2 : PED X fi fa (.BoolOp .And (b :: rest) pos) fy) : PED X fi fa (.BoolOp .And (a :: b :: rest) pos) (fAndV fx fy) := by
  obtain ⟨t, pt, ot⟩ := h1
  obtain ⟨u, pu, ou⟩ := h2
  refine ⟨_, pe_and pt pu, fun σ H S ρ P Q rr hf k => ot σ H S ρ _ _ rr hf fun v H1 S1 d ρ1 hq r1 t1 d1 => ?_⟩
  obtain ⟨c, rfl, hp⟩ := asB_inv hq
  refine ⟨c, den_bl d1, ?_⟩
  cases c with
  | true => exact iteT (ou σ H1 S1 ρ1 P Q r1 (by simpa using hp) fun v H2 S2 d ρ2 hp r2 t2 d2 => k v H2 S2 d ρ2 hp r2 (t1.trans t2) d2)
  | false => exact iteF (k _ H1 S1 _ ρ1 (by simpa using hp) r1 t1 (.bl false))
theorem pd_or (h1 : PED X fi fa a fx) (h2 : PED X fi fa (.BoolOp .Or (b :: rest) pos) fy) : PED X fi fa (.BoolOp .Or (a :: b :: rest) pos) (fOrV fx fy) := by
  obtain ⟨t, pt, ot⟩ := h1
  obtain ⟨u, pu, ou⟩ := h2
  refine ⟨_, pe_or pt pu, fun σ H S ρ P Q rr hf k => ot σ H S ρ _ _ rr hf fun v H1 S1 d ρ1 hq r1 t1 d1 => ?_⟩
  obtain ⟨c, rfl, hp⟩ := asB_inv hq
  refine ⟨c, den_bl d1, ?_⟩
  cases c with
  | false => exact iteF (ou σ H1 S1 ρ1 P Q r1 (by simpa using hp) fun v H2 S2 d ρ2 hp r2 t2 d2 => k v H2 S2 d ρ2 hp r2 (t1.trans t2) d2)
  | true => exact iteT (k _ H1 S1 _ ρ1 (by simpa using hp) r1 t1 (.bl true))
theorem pd_not (h1 : PED X fi fa a fx) : PED X fi fa (.UnaryOp .Not a pos) (fNotV fx) := by
  obtain ⟨t, pt, ot⟩ := h1
  refine ⟨_, pe_not pt, fun σ H S ρ P Q rr hf k => ot σ H S ρ _ _ rr hf fun v H1 S1 d ρ1 hq r1 t1 d1 => ?_⟩
  obtain ⟨c, rfl, hp⟩ := asB_inv hq
  exact ⟨c, den_bl d1, k _ H1 S1 _ ρ1 hp r1 t1 (.bl _)⟩
def fIf (t : FT) (f g : FE) : FE := fun ρ P => t ρ fun b ρ1 => if b = true then f ρ1 P else g ρ1 P
theorem pd_ifExp {c : Expr} (h0 : PTD X fi fa c ft) (h1 : PED X fi fa a fx) (h2 : PED X fi fa b fy) : PED X fi fa (.IfExp c a b pos) (fIf ft fx fy) := by
  obtain ⟨t, pt, ot⟩ := h0
  obtain ⟨tx, px, ox⟩ := h1
  obtain ⟨ty, py, oy⟩ := h2
  refine ⟨_, pe_ifExp pt px py, fun σ H S ρ P Q rr hf k => ot σ H S ρ _ _ rr hf fun c H1 S1 ρ1 hq r1 t1 => ?_⟩
  cases c with
  | true => exact iteT (ox σ H1 S1 ρ1 P Q r1 (by simpa using hq) fun v H2 S2 d ρ2 hp r2 t2 d2 => k v H2 S2 d ρ2 hp r2 (t1.trans t2) d2)
  | false => exact iteF (oy σ H1 S1 ρ1 P Q r1 (by simpa using hq) fun v H2 S2 d ρ2 hp r2 t2 d2 => k v H2 S2 d ρ2 hp r2 (t1.trans t2) d2)
def UnD (X : Cx) (o : Value → Sem Value) (g : D → (D → Prop) → Prop) : Prop := ∃ r, UnR X o r ∧ ∀ (x : V) (dx : D) (S H : Hp) (P : D → Prop) (Q : VK), Ex S H → Den X.K S x dx → g dx P →
  (∀ v S' H' d, P d → Gr S H S' H' → Den X.K S' v d → Q v H') → r x H Q
def fUn (g : D → (D → Prop) → Prop) (fx : FE) : FE := fun ρ P => fx ρ fun x ρ1 => g x fun z => P z ρ1
theorem pd_un {op : UnaryOp} {g : D → (D → Prop) → Prop} (ho : UnD X (unaryOp op) g) (ha : PED X fi fa a fx) : PED X fi fa (.UnaryOp op a pos) (fUn g fx) := by
  obtain ⟨r, h1, h2⟩ := ho
  obtain ⟨tx, px, ox⟩ := ha
  exact ⟨_, pe_un h1 px, fun σ H S ρ P Q rr hf k => ox σ H S ρ _ _ rr hf fun v H1 S1 d ρ1 hf1 r1 t1 d1 =>
    h2 v d S1 H1 _ Q r1.ex d1 hf1 fun z S3 H3 dz hP g3 dd => k z H3 S3 dz ρ1 hP (r1.grow g3) (t1.trans g3.tr) dd⟩

/-! ### argument lists, built-ins, displays -/
variable {es : List Expr} {fs : FA}
def fNil : FA := fun ρ P => P [] ρ
def fCons (f : FE) (fs : FA) : FA := fun ρ P => f ρ fun d ρ1 => fs ρ1 fun ds ρ2 => P (d :: ds) ρ2
theorem pad_nil : PAD X fi fa [] fNil := ⟨_, pa_nil, fun σ H S ρ P Q r hf k => k [] H S [] ρ hf r (Tr.refl σ H S ρ) .nil⟩
theorem pad_cons (h : PED X fi fa e f) (hr : PAD X fi fa es fs) (hs : starEach (e :: es) X.env = (false, eval e X.env) :: starEach es X.env := by rfl) : PAD X fi fa (e :: es) (fCons f fs) := by
  obtain ⟨t, p, o⟩ := h
  obtain ⟨u, q, w⟩ := hr
  exact ⟨_, pa_cons p q hs, fun σ H S ρ P Q r hf k => o σ H S ρ _ _ r hf fun v H1 S1 d ρ1 hf1 r1 t1 d1 => w σ H1 S1 ρ1 _ _ r1 hf1 fun vs H2 S2 ds ρ2 hf2 r2 t2 d2 => k _ H2 S2 _ ρ2 hf2 r2 (t1.trans t2) (.cons (d1.mono t2.exS) d2)⟩
def fTup (fs : FA) : FE := fun ρ P => fs ρ fun ds ρ1 => ds.length ≤ 100000 ∧ P (.tup ds) ρ1
def fLst (fs : FA) : FE := fun ρ P => fs ρ fun ds ρ1 => ds.length ≤ 100000 ∧ P (.lst ds) ρ1
theorem sz_of {n : Nat} (h : n ≤ 100000) : n ≤ sizeLine := Nat.le_trans h (by decide)
theorem sz_lt {n : Nat} (h : n < 100000) : n < sizeLine := Nat.lt_of_lt_of_le h (by decide)
theorem pd_tup {x1} (h : PAD X fi fa es fs) : PED X fi fa (.Tuple es x1 pos) (fTup fs) := by
  obtain ⟨u, q, w⟩ := h
  refine ⟨_, pe_tup q, fun σ H S ρ P Q r hf k => w σ H S ρ _ _ r hf fun vs H1 S1 ds ρ1 hf1 r1 t1 d1 => ⟨sz_of (by rw [d1.length]; exact hf1.1), fun p hp => ?_⟩⟩
  have g := Gr.one (o := .tup vs) r1.ex hp
  exact k _ _ _ _ ρ1 hf1.2 (r1.grow g) (t1.trans g.tr) (.tup upd_same (d1.mono g.s))
theorem ok_new {σ : L2.St} {H S H1 S1 : Hp} {ρ ρ1 : List Sl} {p : Addr} {o : HO} {d : D} {K : PySem.W.Frag} (t1 : Tr σ H S ρ σ H1 S1 ρ1) (r1 : Rel K fi fa σ H1 S1 ρ1) (hp : H1 p = none) (hd : HOD K S1 o d) :
    Rel K fi fa σ (upd H1 p o) S1 ρ1 ∧ Tr σ H S ρ σ (upd H1 p o) S1 ρ1 ∧ Fresh K σ (upd H1 p o) S1 ρ1 (Nw σ ρ H) (.ref p) d := by
  have g : Gr S1 H1 S1 (upd H1 p o) := Gr.hid r1.ex hp
  refine ⟨r1.grow g, t1.trans g.tr, p, o, rfl, .inl (t1.dom p hp), r1.ex.free hp, fun ⟨i, e, h1, h2⟩ => ?_, upd_same, hd⟩
  obtain ⟨q, u, e1, _, e2, _⟩ := r1.own i e h1
  rw [h2] at e1
  cases e1
  rw [hp] at e2
  cases e2
theorem pf_lst (h : PAD X fi fa es fs) : PEF X fi fa (.List es pos) (fLst fs) := by
  obtain ⟨u, q, w⟩ := h
  refine ⟨_, pe_lst q, fun σ H S ρ P Q r hf k => w σ H S ρ _ _ r hf fun vs H1 S1 ds ρ1 hf1 r1 t1 d1 => ⟨sz_of (by rw [d1.length]; exact hf1.1), fun p hp => ?_⟩⟩
  obtain ⟨a1, a2, a3⟩ := ok_new (o := .lst vs) (d := .lst ds) t1 r1 hp d1
  exact k _ _ _ _ ρ1 hf1.2 a1 a2 a3
theorem pd_lst (h : PAD X fi fa es fs) : PED X fi fa (.List es pos) (fLst fs) := (pf_lst h).val
/-- a built-in called on values -/
def CallD (X : Cx) (c : Value) (g : List D → (D → Prop) → Prop) : Prop := ∃ r, CallR X c r ∧ ∀ (xs : List V) (ds : List D) (S H : Hp) (P : D → Prop) (Q : VK), Ex S H → Dens X.K S xs ds → g ds P →
  (∀ v S' H' d, P d → Gr S H S' H' → Den X.K S' v d → Q v H') → r xs H Q
/-- .. whose answer is a new object -/
def CallF (X : Cx) (c : Value) (g : List D → (D → Prop) → Prop) : Prop := ∃ r, CallR X c r ∧ ∀ (xs : List V) (ds : List D) (S H : Hp) (P : D → Prop) (Q : VK), Ex S H → Dens X.K S xs ds → g ds P →
  (∀ p S' H' o d, P d → H p = none → Gr S H S' H' → S' p = none → H' p = some o → HOD X.K S' o d → Q (.ref p) H') → r xs H Q
def fCall (g : List D → (D → Prop) → Prop) (fs : FA) : FE := fun ρ P => fs ρ fun ds ρ1 => g ds fun d => P d ρ1
variable {x : Str} {p : Pos} {g : List D → (D → Prop) → Prop} {id T : String}
theorem pd_b (hc : CallD X (.builtin id) g) (hg : Gl X x) (hm : X.mg x = none) (ha : PAD X fi fa (e :: es) fs) (hv : bootBuiltins x = some (.builtin id) := by decide +kernel) (hn : x ≠ "__name__" := by decide) (hdb : (x == ("__debug__" : Str)) = false := by decide)
    (he : starEach (e :: es) X.env = (false, eval e X.env) :: starEach es X.env := by rfl) (hpl : (backTo pos (starEach es X.env)).any (·.1) = false := by rfl) : PED X fi fa (.Call (.Name x p) (e :: es) [] pos) (fCall g fs) := by
  obtain ⟨r, h1, h2⟩ := hc
  obtain ⟨u, q, w⟩ := ha
  exact ⟨_, pe_callB h1 hg hm hv q hn hdb he hpl, fun σ H S ρ P Q rr hf k => w σ H S ρ _ _ rr hf fun vs H1 S1 ds ρ1 hf1 r1 t1 d1 =>
    h2 vs ds S1 H1 _ Q r1.ex d1 hf1 fun v S2 H2 d hP g2 dd => k v H2 S2 d ρ1 hP (r1.grow g2) (t1.trans g2.tr) dd⟩
theorem pd_t (hc : CallD X (.type T) g) (hg : Gl X x) (hm : X.mg x = none) (ha : PAD X fi fa (e :: es) fs) (hv : bootBuiltins x = some (.type T) := by decide +kernel) (hn : x ≠ "__name__" := by decide) (hdb : (x == ("__debug__" : Str)) = false := by decide)
    (he : starEach (e :: es) X.env = (false, eval e X.env) :: starEach es X.env := by rfl) (hpl : (backTo pos (starEach es X.env)).any (·.1) = false := by rfl) : PED X fi fa (.Call (.Name x p) (e :: es) [] pos) (fCall g fs) := by
  obtain ⟨r, h1, h2⟩ := hc
  obtain ⟨u, q, w⟩ := ha
  exact ⟨_, pe_callTy h1 hg hm hv q hn hdb he hpl, fun σ H S ρ P Q rr hf k => w σ H S ρ _ _ rr hf fun vs H1 S1 ds ρ1 hf1 r1 t1 d1 =>
    h2 vs ds S1 H1 _ Q r1.ex d1 hf1 fun v S2 H2 d hP g2 dd => k v H2 S2 d ρ1 hP (r1.grow g2) (t1.trans g2.tr) dd⟩
theorem fresh_of {K : PySem.W.Frag} {σ : L2.St} {H0 H S H1 S1 : Hp} {ρ0 ρ : List Sl} {q : Addr} {o : HO} {d : D} (r : Rel K fi fa σ H S ρ) (t : Tr σ H0 S1 ρ0 σ H S ρ) (h0 : H q = none) (S2 H2 : Hp) (hs : S2 q = none) (h2 : H2 q = some o) (hd : HOD K S2 o d) : Fresh K σ H2 S2 ρ (Nw σ ρ0 H0) (.ref q) d := by
  refine ⟨q, o, rfl, .inl (t.dom q h0), hs, fun ⟨i, e, e1, e2⟩ => ?_, h2, hd⟩
  obtain ⟨q', u, e3, _, e4, _⟩ := r.own i e e1
  rw [e2] at e3
  cases e3
  rw [h0] at e4
  cases e4
theorem pf_b (hc : CallF X (.builtin id) g) (hg : Gl X x) (hm : X.mg x = none) (ha : PAD X fi fa (e :: es) fs) (hv : bootBuiltins x = some (.builtin id) := by decide +kernel) (hn : x ≠ "__name__" := by decide) (hdb : (x == ("__debug__" : Str)) = false := by decide)
    (he : starEach (e :: es) X.env = (false, eval e X.env) :: starEach es X.env := by rfl) (hpl : (backTo pos (starEach es X.env)).any (·.1) = false := by rfl) : PEF X fi fa (.Call (.Name x p) (e :: es) [] pos) (fCall g fs) := by
  obtain ⟨r, h1, h2⟩ := hc
  obtain ⟨u, q, w⟩ := ha
  exact ⟨_, pe_callB h1 hg hm hv q hn hdb he hpl, fun σ H S ρ P Q rr hf k => w σ H S ρ _ _ rr hf fun vs H1 S1 ds ρ1 hf1 r1 t1 d1 =>
    h2 vs ds S1 H1 _ Q r1.ex d1 hf1 fun p S2 H2 o d hP h0 g2 hs hh dd => k _ H2 S2 d ρ1 hP (r1.grow g2) (t1.trans g2.tr) (fresh_of (H1 := H1) r1 t1 h0 S2 H2 hs hh dd)⟩
theorem pf_t (hc : CallF X (.type T) g) (hg : Gl X x) (hm : X.mg x = none) (ha : PAD X fi fa (e :: es) fs) (hv : bootBuiltins x = some (.type T) := by decide +kernel) (hn : x ≠ "__name__" := by decide) (hdb : (x == ("__debug__" : Str)) = false := by decide)
    (he : starEach (e :: es) X.env = (false, eval e X.env) :: starEach es X.env := by rfl) (hpl : (backTo pos (starEach es X.env)).any (·.1) = false := by rfl) : PEF X fi fa (.Call (.Name x p) (e :: es) [] pos) (fCall g fs) := by
  obtain ⟨r, h1, h2⟩ := hc
  obtain ⟨u, q, w⟩ := ha
  exact ⟨_, pe_callTy h1 hg hm hv q hn hdb he hpl, fun σ H S ρ P Q rr hf k => w σ H S ρ _ _ rr hf fun vs H1 S1 ds ρ1 hf1 r1 t1 d1 =>
    h2 vs ds S1 H1 _ Q r1.ex d1 hf1 fun p S2 H2 o d hP h0 g2 hs hh dd => k _ H2 S2 d ρ1 hP (r1.grow g2) (t1.trans g2.tr) (fresh_of (H1 := H1) r1 t1 h0 S2 H2 hs hh dd)⟩
/-- a name's own object, handed on; the name is forgotten -/
def fVarF (i : Nat) : FE := fun ρ P => match ρ[i]? with
  | some (.own d) => P d (ρ.set i .non)
  | _ => False
theorem pf_v (i : Nat) {x : Str} (hN : X.N[i]? = some x := by rfl) (hv : Vis X.env.scope x := by first | exact Or.inl rfl | exact Or.inr (Or.inl rfl) | exact Or.inr (Or.inr rfl)) (hd : (x == ("__debug__" : Str)) = false := by decide)
    (hcd : (x == ("__classdict__" : Str)) = false := by decide) : PEF X fi fa (.Name x pos) (fVarF i) := by
  refine ⟨_, pv i hN hv hd hcd, fun σ H S ρ P Q r hf k => ?_⟩
  unfold fVarF at hf
  split at hf
  · rename_i d hd
    obtain ⟨p, o, e, hs, hp, ho⟩ := r.own i d hd
    have r' : Rel X.K fi fa σ H S (ρ.set i .non) := by
      refine ⟨r.ex, by rw [List.length_set]; exact r.len, fun j e' h => ?_, fun j e' h => ?_, fun j l e1 e2 q h1 h2 => ?_, r.fix⟩
      · have hj : j ≠ i := fun z => by subst z; have := get_set_eq h; cases this
        rw [get_set_ne hj] at h
        exact r.val j e' h
      · have hj : j ≠ i := fun z => by subst z; have := get_set_eq h; cases this
        rw [get_set_ne hj] at h
        exact r.own j e' h
      · have hj : j ≠ i := fun z => by subst z; have := get_set_eq h1; cases this
        have hl : l ≠ i := fun z => by subst z; have := get_set_eq h2; cases this
        rw [get_set_ne hj] at h1
        rw [get_set_ne hl] at h2
        exact r.dis j l e1 e2 q h1 h2
    refine ⟨_, e, k _ H S d _ hf r' ⟨Ex.refl S, fun _ _ h _ => h, fun a h => .inl (owned_set_non h), fun a h => .inl h, fun _ h => h⟩ ⟨p, o, rfl, .inr ⟨i, d, hd, e⟩, hs, fun ⟨j, e', h1, h2⟩ => ?_, hp, ho⟩⟩
    have hj : j ≠ i := fun z => by subst z; have := get_set_eq h1; cases this
    rw [get_set_ne hj] at h1
    exact hj (r.dis j i e' d p h1 hd h2 e)
  · exact hf.elim
end
end DL

/-! DL2: statements, targets, loops, comprehensions. -/
namespace DL
open PySem PySem.Spec PyProof.Rows L2
variable [HW]

/-! ### one reading for all contexts -/
section
variable (K : PySem.W.Frag) (fi : List Nat) (fa : Nat → Addr)
def uE (f : FE) : TE := fun σ H Q => ∃ (S : Hp) (ρ : List Sl) (P : D → List Sl → Prop), Rel K fi fa σ H S ρ ∧ f ρ P ∧ ∀ v H' S' d ρ', P d ρ' → Rel K fi fa σ H' S' ρ' → Tr σ H S ρ σ H' S' ρ' → Den K S' v d → Q v H'
def uT (f : FT) : TT := fun σ H Q => ∃ (S : Hp) (ρ : List Sl) (P : Bool → List Sl → Prop), Rel K fi fa σ H S ρ ∧ f ρ P ∧ ∀ b H' S' ρ', P b ρ' → Rel K fi fa σ H' S' ρ' → Tr σ H S ρ σ H' S' ρ' → Q b H'
end
section
variable {X : Cx} {fi : List Nat} {fa : Nat → Addr} {e a b : Expr} {f fx fy : FE} {ft : FT} {pos : Pos}
theorem PED.uni (h : PED X fi fa e f) : PE X e (uE X.K fi fa f) := by
  obtain ⟨t, p, ok⟩ := h
  refine ⟨fun pins s σ H Q I hw => p.run pins s σ H Q I ?_⟩
  obtain ⟨S, ρ, P, r, hf, k⟩ := hw
  exact ok σ H S ρ P Q r hf k
theorem PTD.uni (h : PTD X fi fa e ft) : PT X e (uT X.K fi fa ft) := by
  obtain ⟨t, p, ok⟩ := h
  refine ⟨fun pins s σ H Q I hw => p.run pins s σ H Q I ?_⟩
  obtain ⟨S, ρ, P, r, hf, k⟩ := hw
  exact ok σ H S ρ P Q r hf k

/-! ### a scalar is reckoned and nothing is changed: what the def owns is read only -/
def frz : Sl → Sl
  | .own d => .val d
  | s => s
def scalD : D → Bool
  | .non => true | .bl _ => true | .int _ => true | .str _ => true | .ty _ => true | _ => false
def fPure (f : FE) : FE := fun ρ P => f (ρ.map frz) fun d _ => scalD d = true ∧ P d ρ
theorem den_scal {K : PySem.W.Frag} {S S' : Hp} {v : V} {d : D} (h : Den K S v d) (hs : scalD d = true) : Den K S' v d := by
  cases h with
  | non => exact .non
  | bl b => exact .bl b
  | int i => exact .int i
  | str x => exact .str x
  | ty n => exact .ty n
  | ref a => cases hs
  | tup _ _ => cases hs
  | lst _ _ => cases hs
  | rol _ _ => cases hs
  | dT _ _ _ => cases hs
  | dN _ _ _ _ => cases hs
  | dK _ _ _ => cases hs
  | obj _ _ _ _ => cases hs
  | cls _ => cases hs
/-- the stable heap with all that the slots own -/
noncomputable def allS (σ : L2.St) (ρ : List Sl) (S H : Hp) : Hp := fun a => open Classical in if Owned σ ρ a then H a else S a
theorem rel_frz {K : PySem.W.Frag} {σ : L2.St} {H S : Hp} {ρ : List Sl} (r : Rel K fi fa σ H S ρ) : Rel K fi fa σ H (allS σ ρ S H) (ρ.map frz) := by
  have e1 : Ex S (allS σ ρ S H) := fun a o h => by
    unfold allS
    by_cases ho : Owned σ ρ a
    · rw [if_pos ho]; exact r.ex a o h
    · rw [if_neg ho]; exact h
  refine ⟨fun a o h => ?_, by rw [List.length_map]; exact r.len, fun i d h => ?_, fun i d h => ?_, fun i j d e p h => ?_, r.fix⟩
  · unfold allS at h
    by_cases ho : Owned σ ρ a
    · rw [if_pos ho] at h; exact h
    · rw [if_neg ho] at h; exact r.ex a o h
  · rw [List.getElem?_map] at h
    cases hρ : ρ[i]? with
    | none => rw [hρ] at h; cases h
    | some s =>
      rw [hρ] at h
      cases s with
      | non => cases h
      | val d' =>
        cases h
        obtain ⟨v, q1, q2⟩ := r.val i d hρ
        exact ⟨v, q1, q2.mono e1⟩
      | own d' =>
        cases h
        obtain ⟨p, o, q1, q2, q3, q4⟩ := r.own i d hρ
        refine ⟨_, q1, (q4.mono e1).den ?_⟩
        unfold allS
        rw [if_pos ⟨i, d, hρ, q1⟩]; exact q3
  · rw [List.getElem?_map] at h
    cases hρ : ρ[i]? with
    | none => rw [hρ] at h; cases h
    | some s => rw [hρ] at h; cases s <;> cases h
  · rw [List.getElem?_map] at h
    cases hρ : ρ[i]? with
    | none => rw [hρ] at h; cases h
    | some s => rw [hρ] at h; cases s <;> cases h
theorem no_owned {σ : L2.St} {ρ : List Sl} {a : Addr} (h : Owned σ (ρ.map frz) a) : False := by
  obtain ⟨i, d, h, _⟩ := h
  rw [List.getElem?_map] at h
  cases hρ : ρ[i]? with
  | none => rw [hρ] at h; cases h
  | some s => rw [hρ] at h; cases s <;> cases h
theorem pd_pure (h : PED X fi fa e f) : PED X fi fa e (fPure f) := by
  obtain ⟨t, p, ok⟩ := h
  refine ⟨t, p, fun σ H S ρ P Q r hf k => ok σ H (allS σ ρ S H) (ρ.map frz) _ Q (rel_frz r) hf fun v H' S' d ρ' ⟨hs, hP⟩ r' tr den => ?_⟩
  have g : Gr S H S H' := ⟨Ex.refl S, fun a o h => tr.keep a o h no_owned, fun a o h => tr.keep a o (r.ex a o h) no_owned, fun _ h => .inl h⟩
  exact k v H' S d ρ hP (r.grow g) g.tr (den_scal den hs)
def fPureT (f : FT) : FT := fun ρ P => f (ρ.map frz) fun b _ => P b ρ
theorem pt_pure (h : PTD X fi fa e ft) : PTD X fi fa e (fPureT ft) := by
  obtain ⟨t, p, ok⟩ := h
  refine ⟨t, p, fun σ H S ρ P Q r hf k => ok σ H (allS σ ρ S H) (ρ.map frz) _ Q (rel_frz r) hf fun v H' S' ρ' hP r' tr => ?_⟩
  have g : Gr S H S H' := ⟨Ex.refl S, fun a o h => tr.keep a o h no_owned, fun a o h => tr.keep a o (r.ex a o h) no_owned, fun _ h => .inl h⟩
  exact k v H' S ρ hP (r.grow g) g.tr
end

/-! ### stores to slots -/
section
variable {K : PySem.W.Frag} {fi : List Nat} {fa : Nat → Addr} {σ : L2.St} {H S : Hp} {ρ : List Sl}
theorem Rel.storeVal {i : Nat} {v : V} {d : D} (r : Rel K fi fa σ H S ρ) (hd : Den K S v d) (hi : i ∉ fi) : Rel K fi fa (σ.set i (some v)) H S (ρ.set i (.val d)) where
  ex := r.ex
  len := by rw [List.length_set, List.length_set]; exact r.len
  val := fun j e h => by
    by_cases hj : j = i
    · subst hj
      have := get_set_eq h
      cases this
      refine ⟨v, ?_, hd⟩
      have hl : j < ρ.length := by
        have := (List.getElem?_eq_some_iff.mp h).1
        rw [List.length_set] at this; exact this
      rw [List.getElem?_set_self (by rw [← r.len]; exact hl)]
    · rw [get_set_ne hj] at h
      rw [get_set_ne hj]; exact r.val j e h
  own := fun j e h => by
    have hj : j ≠ i := fun z => by subst z; have := get_set_eq h; cases this
    rw [get_set_ne hj] at h
    rw [get_set_ne hj]; exact r.own j e h
  dis := fun j k e f p h1 h2 h3 h4 => by
    have hj : j ≠ i := fun z => by subst z; have := get_set_eq h1; cases this
    have hk : k ≠ i := fun z => by subst z; have := get_set_eq h2; cases this
    rw [get_set_ne hj] at h1 h3
    rw [get_set_ne hk] at h2 h4
    exact r.dis j k e f p h1 h2 h3 h4
  fix := fun j hj => by
    have : j ≠ i := fun z => hi (z ▸ hj)
    rw [get_set_ne this]; exact r.fix j hj
theorem Tr.storeVal {i : Nat} {v : V} {d : D} : Tr σ H S ρ (σ.set i (some v)) H S (ρ.set i (.val d)) :=
  ⟨Ex.refl S, fun _ _ h _ => h, fun a ⟨j, e, h1, h2⟩ => by
    have hj : j ≠ i := fun z => by subst z; have := get_set_eq h1; cases this
    rw [get_set_ne hj] at h1 h2
    exact .inl ⟨j, e, h1, h2⟩, fun _ h => .inl h, fun _ h => h⟩
theorem Rel.storeOwn {i : Nat} {v : V} {d : D} {W : Addr → Prop} (r : Rel K fi fa σ H S ρ) (hd : Fresh K σ H S ρ W v d) (hi : i ∉ fi) : Rel K fi fa (σ.set i (some v)) H S (ρ.set i (.own d)) := by
  obtain ⟨p, o, rfl, h0, hs, no, hp, ho⟩ := hd
  refine ⟨r.ex, by rw [List.length_set, List.length_set]; exact r.len, fun j e h => ?_, fun j e h => ?_, fun j k e f q h1 h2 h3 h4 => ?_, fun j hj => ?_⟩
  · have hj : j ≠ i := fun z => by subst z; have := get_set_eq h; cases this
    rw [get_set_ne hj] at h
    rw [get_set_ne hj]; exact r.val j e h
  · by_cases hj : j = i
    · subst hj
      have := get_set_eq h
      cases this
      have hl : j < ρ.length := by
        have := (List.getElem?_eq_some_iff.mp h).1
        rw [List.length_set] at this; exact this
      exact ⟨p, o, List.getElem?_set_self (by rw [← r.len]; exact hl), hs, hp, ho⟩
    · rw [get_set_ne hj] at h
      rw [get_set_ne hj]; exact r.own j e h
  · by_cases hj : j = i
    · by_cases hk : k = i
      · rw [hj, hk]
      · subst hj
        rw [get_set_ne hk] at h2 h4
        have : some (some (V.ref q)) = some (some (V.ref p)) := by
          rw [← h3]
          have hl : j < σ.length := by
            have := (List.getElem?_eq_some_iff.mp h3).1
            rw [List.length_set] at this; exact this
          exact List.getElem?_set_self hl
        cases this
        exact (no ⟨k, f, h2, h4⟩).elim
    · by_cases hk : k = i
      · subst hk
        rw [get_set_ne hj] at h1 h3
        have : some (some (V.ref q)) = some (some (V.ref p)) := by
          rw [← h4]
          have hl : k < σ.length := by
            have := (List.getElem?_eq_some_iff.mp h4).1
            rw [List.length_set] at this; exact this
          exact List.getElem?_set_self hl
        cases this
        exact (no ⟨j, e, h1, h3⟩).elim
      · rw [get_set_ne hj] at h1 h3
        rw [get_set_ne hk] at h2 h4
        exact r.dis j k e f q h1 h2 h3 h4
  · have : j ≠ i := fun z => hi (z ▸ hj)
    rw [get_set_ne this]; exact r.fix j hj
theorem Tr.storeOwn {i : Nat} {v : V} {d : D} {σ0 : L2.St} {H0 S0 : Hp} {ρ0 : List Sl} (t : Tr σ0 H0 S0 ρ0 σ H S ρ) (hd : Fresh K σ H S ρ (Nw σ0 ρ0 H0) v d) : Tr σ0 H0 S0 ρ0 (σ.set i (some v)) H S (ρ.set i (.own d)) :=
  ⟨t.exS, t.keep, fun a ⟨j, e, h1, h2⟩ => by
    by_cases hj : j = i
    · subst hj
      obtain ⟨p, o, rfl, h0, _⟩ := hd
      have hl : j < σ.length := by
        have := (List.getElem?_eq_some_iff.mp h2).1
        rw [List.length_set] at this; exact this
      rw [List.getElem?_set_self hl] at h2
      cases h2
      exact h0.symm
    · rw [get_set_ne hj] at h1 h2
      exact t.owned a ⟨j, e, h1, h2⟩, t.new, t.dom⟩
/-- an owned object is changed -/
theorem Rel.upd {i : Nat} {p : Addr} {o' : HO} {d d' : D} (r : Rel K fi fa σ H S ρ) (hi : ρ[i]? = some (.own d)) (hp : σ[i]? = some (some (.ref p))) (ho : HOD K S o' d') : Rel K fi fa σ (upd H p o') S (ρ.set i (.own d')) := by
  have sp : S p = none := by
    obtain ⟨q, o, e, hs, _⟩ := r.own i d hi
    rw [hp] at e; cases e; exact hs
  refine ⟨fun a u h => ?_, by rw [List.length_set]; exact r.len, fun j e h => ?_, fun j e h => ?_, fun j k e f q h1 h2 h3 h4 => ?_, r.fix⟩
  · have : a ≠ p := fun z => by subst z; rw [sp] at h; cases h
    rw [upd_ne this]; exact r.ex a u h
  · have hj : j ≠ i := fun z => by subst z; have := get_set_eq h; cases this
    rw [get_set_ne hj] at h
    exact r.val j e h
  · by_cases hj : j = i
    · subst hj
      have := get_set_eq h
      cases this
      exact ⟨p, o', hp, sp, upd_same, ho⟩
    · rw [get_set_ne hj] at h
      obtain ⟨q, u, e1, e2, e3, e4⟩ := r.own j e h
      have : q ≠ p := fun z => hj (r.dis j i e d p h hi (by rw [e1, z]) hp)
      exact ⟨q, u, e1, e2, by rw [upd_ne this]; exact e3, e4⟩
  · have o1 : ∃ e', ρ[j]? = some (.own e') := by
      by_cases hj : j = i
      · subst hj; exact ⟨d, hi⟩
      · rw [get_set_ne hj] at h1; exact ⟨e, h1⟩
    have o2 : ∃ e', ρ[k]? = some (.own e') := by
      by_cases hk : k = i
      · subst hk; exact ⟨d, hi⟩
      · rw [get_set_ne hk] at h2; exact ⟨f, h2⟩
    obtain ⟨e1, g1⟩ := o1
    obtain ⟨e2, g2⟩ := o2
    exact r.dis j k e1 e2 q g1 g2 h3 h4
theorem Tr.upd {i : Nat} {p : Addr} {o' : HO} {d d' : D} (hi : ρ[i]? = some (.own d)) (hp : σ[i]? = some (some (.ref p))) : Tr σ H S ρ σ (L2.upd H p o') S (ρ.set i (.own d')) :=
  ⟨Ex.refl S, fun a o h n => by
    have : a ≠ p := fun z => by subst z; exact n ⟨i, d, hi, hp⟩
    rw [upd_ne this]; exact h, fun a ⟨j, e, h1, h2⟩ => by
    by_cases hj : j = i
    · subst hj; exact .inl ⟨j, d, hi, h2⟩
    · rw [get_set_ne hj] at h1; exact .inl ⟨j, e, h1, h2⟩, fun _ h => .inl h, fun a h => by
    by_cases ha : a = p
    · subst ha; rw [upd_same] at h; cases h
    · rw [upd_ne ha] at h; exact h⟩
theorem fresh_lt {i j : Nat} (h : fi.contains i = false) : i ∉ fi := fun z => by
  have : fi.contains i = true := List.contains_iff_mem.mpr z
  rw [h] at this; cases this
end

/-! ### statements -/
section
variable {X : Cx} {fi : List Nat} {fa : Nat → Addr} {e a b : Expr} {f fx fy : FE} {ft : FT} {pos : Pos} {st : Stmt} {sts : List Stmt} {F G : FS}
section
variable {K : PySem.W.Frag} {σ σ1 : L2.St} {H S H1 S1 : Hp} {ρ ρ1 : List Sl} {P : Fl → Prop} {E : Ends}
theorem Fresh.back {σ' : L2.St} {H' S' : Hp} {ρ' : List Sl} {v : V} {d : D} (h : Fresh K σ' H' S' ρ' (Nw σ1 ρ1 H1) v d) (t : Tr σ H S ρ σ1 H1 S1 ρ1) : Fresh K σ' H' S' ρ' (Nw σ ρ H) v d := by
  obtain ⟨p, o, e, h0, r⟩ := h
  exact ⟨p, o, e, h0.elim (fun z => .inl (t.dom p z)) fun z => (t.owned p z).symm, r⟩
theorem Beh.after (k : Beh K fi fa σ H S ρ P E) (t : Tr σ H S ρ σ1 H1 S1 ρ1) : Beh K fi fa σ1 H1 S1 ρ1 P E :=
  ⟨fun σ' H' S' ρ' hP r' t' => k.1 σ' H' S' ρ' hP r' (t.trans t'), fun σ' H' S' ρ' hP r' t' => k.2.1 σ' H' S' ρ' hP r' (t.trans t'), fun σ' H' S' ρ' hP r' t' => k.2.2.1 σ' H' S' ρ' hP r' (t.trans t'),
    fun v d σ' H' S' ρ' hP r' t' hd => k.2.2.2.1 v d σ' H' S' ρ' hP r' (t.trans t') hd, fun v d σ' H' S' ρ' hP r' t' hd => k.2.2.2.2 v d σ' H' S' ρ' hP r' (t.trans t') (hd.back t)⟩
end
def fNext : FS := fun ρ P => P (.nx ρ)
def andThen (F : FS) (P : Fl → Prop) : Fl → Prop
  | .nx ρ => F ρ P
  | fl => P fl
def fSeq (F G : FS) : FS := fun ρ P => F ρ (andThen G P)
theorem pssd_nil : PSsD X fi fa [] fNext := ⟨_, pss_nil, fun σ H S ρ P E r hf k => k.1 σ H S ρ hf r (Tr.refl _ _ _ _)⟩
theorem pssd_cons (h1 : PSD X fi fa st F) (h2 : PSsD X fi fa sts G) : PSsD X fi fa (st :: sts) (fSeq F G) := by
  obtain ⟨t, p, ok⟩ := h1
  obtain ⟨u, q, ok2⟩ := h2
  refine ⟨_, pss_cons p q, fun σ H S ρ P E r hf k => ok σ H S ρ _ _ r hf ⟨fun σ' H' S' ρ' hP r' t' => ok2 σ' H' S' ρ' P E r' hP (k.after t'), ?_, ?_, ?_, ?_⟩⟩
  · exact fun σ' H' S' ρ' hP r' t' => k.2.1 σ' H' S' ρ' hP r' t'
  · exact fun σ' H' S' ρ' hP r' t' => k.2.2.1 σ' H' S' ρ' hP r' t'
  · exact fun v d σ' H' S' ρ' hP r' t' hd => k.2.2.2.1 v d σ' H' S' ρ' hP r' t' hd
  · exact fun v d σ' H' S' ρ' hP r' t' hd => k.2.2.2.2 v d σ' H' S' ρ' hP r' t' hd
theorem pssd_one (h1 : PSD X fi fa st F) : PSsD X fi fa [st] F := by
  obtain ⟨t, p, ok⟩ := h1
  exact ⟨_, pss_one p, ok⟩
def fBrk : FS := fun ρ P => P (.bk ρ)
def fCnt : FS := fun ρ P => P (.ct ρ)
theorem psd_pass : PSD X fi fa (.Pass pos) fNext := ⟨_, ps_pass, fun σ H S ρ P E r hf k => k.1 σ H S ρ hf r (Tr.refl _ _ _ _)⟩
theorem psd_break : PSD X fi fa (.Break pos) fBrk := ⟨_, ps_break, fun σ H S ρ P E r hf k => k.2.1 σ H S ρ hf r (Tr.refl _ _ _ _)⟩
theorem psd_cont : PSD X fi fa (.Continue pos) fCnt := ⟨_, ps_continue, fun σ H S ρ P E r hf k => k.2.2.1 σ H S ρ hf r (Tr.refl _ _ _ _)⟩
theorem psd_doc {x j pos pos'} : PSD X fi fa (.Expr (.Constant (.str x) j pos) pos') fNext := ⟨_, ps_doc, fun σ H S ρ P E r hf k => k.1 σ H S ρ hf r (Tr.refl _ _ _ _)⟩
def fDrop (f : FE) : FS := fun ρ P => f ρ fun _ ρ1 => P (.nx ρ1)
theorem psd_expr (h : PED X fi fa e f) (hs : swapsWith e none pos.line X.env = pure false := by rfl) : PSD X fi fa (.Expr e pos) (fDrop f) := by
  obtain ⟨t, p, ok⟩ := h
  exact ⟨_, ps_expr p hs, fun σ H S ρ P E r hf k => ok σ H S ρ _ _ r hf fun v H' S' d ρ' hP r' t' _ => k.1 σ H' S' ρ' hP r' t'⟩
def fRet (f : FE) : FS := fun ρ P => f ρ fun d ρ1 => P (.rt d ρ1)
def fRetF (f : FE) : FS := fun ρ P => f ρ fun d ρ1 => P (.rf d ρ1)
theorem psd_ret (h : PED X fi fa e f) : PSD X fi fa (.Return (some e) pos) (fRet f) := by
  obtain ⟨t, p, ok⟩ := h
  exact ⟨_, ps_ret p, fun σ H S ρ P E r hf k => ok σ H S ρ _ _ r hf fun v H' S' d ρ' hP r' t' hd => k.2.2.2.1 v d σ H' S' ρ' hP r' t' hd⟩
theorem psd_retF (h : PEF X fi fa e f) : PSD X fi fa (.Return (some e) pos) (fRetF f) := by
  obtain ⟨t, p, ok⟩ := h
  exact ⟨_, ps_ret p, fun σ H S ρ P E r hf k => ok σ H S ρ _ _ r hf fun v H' S' d ρ' hP r' t' hd => k.2.2.2.2 v d σ H' S' ρ' hP r' t' hd⟩
def fRetN : FS := fun ρ P => P (.rt .non ρ)
theorem psd_retN : PSD X fi fa (.Return none pos) fRetN := ⟨_, ps_retN, fun σ H S ρ P E r hf k => k.2.2.2.1 _ _ σ H S ρ hf r (Tr.refl _ _ _ _) .non⟩
def fIfS (t : FT) (F G : FS) : FS := fun ρ P => t ρ fun b ρ1 => if b = true then F ρ1 P else G ρ1 P
theorem psd_if {c : Expr} {u v : List Stmt} (h0 : PTD X fi fa c ft) (h1 : PSsD X fi fa u F) (h2 : PSsD X fi fa v G) : PSD X fi fa (.If c u v pos) (fIfS ft F G) := by
  obtain ⟨t, p, ok⟩ := h0
  obtain ⟨t1, p1, ok1⟩ := h1
  obtain ⟨t2, p2, ok2⟩ := h2
  refine ⟨_, ps_if p p1 p2, fun σ H S ρ P E r hf k => ok σ H S ρ _ _ r hf fun c H' S' ρ' hP r' t' => ?_⟩
  cases c with
  | true => exact iteT (ok1 σ H' S' ρ' P E r' (by simpa using hP) (k.after t'))
  | false => exact iteF (ok2 σ H' S' ρ' P E r' (by simpa using hP) (k.after t'))
def fSet (i : Nat) (f : FE) : FS := fun ρ P => f ρ fun d ρ1 => P (.nx (ρ1.set i (.val d)))
def fSetF (i : Nat) (f : FE) : FS := fun ρ P => f ρ fun d ρ1 => P (.nx (ρ1.set i (.own d)))
theorem psd_set (i : Nat) {x : Str} {pos' : Pos} (h : PED X fi fa e f) (hN : X.N.Nodup) (hi : X.N[i]? = some x := by rfl) (hx : Loc X.env.scope x := by first | exact Or.inl rfl | exact Or.inr rfl) (hf : fi.contains i = false := by rfl) (hs : swapsWith e (some (.Name x pos')) pos.line X.env = pure false := by rfl)
    (hfn : X.fn x = true ∨ X.env.scope.names.lookup x = some .local := by first | exact .inl rfl | exact .inr rfl) : PSD X fi fa (.Assign [.Name x pos'] e pos) (fSet i f) := by
  obtain ⟨t, p, ok⟩ := h
  exact ⟨_, ps_set hN hi hx p hs hfn, fun σ H S ρ P E r h k => ok σ H S ρ _ _ r h fun v H' S' d ρ' hP r' t' hd => k.1 _ H' S' _ hP (r'.storeVal hd (fresh_lt (j := 0) hf)) (t'.trans Tr.storeVal)⟩
theorem psd_setF (i : Nat) {x : Str} {pos' : Pos} (h : PEF X fi fa e f) (hN : X.N.Nodup) (hi : X.N[i]? = some x := by rfl) (hx : Loc X.env.scope x := by first | exact Or.inl rfl | exact Or.inr rfl) (hf : fi.contains i = false := by rfl) (hs : swapsWith e (some (.Name x pos')) pos.line X.env = pure false := by rfl)
    (hfn : X.fn x = true ∨ X.env.scope.names.lookup x = some .local := by first | exact .inl rfl | exact .inr rfl) : PSD X fi fa (.Assign [.Name x pos'] e pos) (fSetF i f) := by
  obtain ⟨t, p, ok⟩ := h
  exact ⟨_, ps_set hN hi hx p hs hfn, fun σ H S ρ P E r h k => ok σ H S ρ _ _ r h fun v H' S' d ρ' hP r' t' hd => k.1 _ H' S' _ hP (r'.storeOwn hd (fresh_lt (j := 0) hf)) (t'.storeOwn hd)⟩

/-! ### targets -/
abbrev FG := D → List Sl → (List Sl → Prop) → Prop
abbrev FGs := List D → List Sl → (List Sl → Prop) → Prop
def SameBut (ws : List Nat) (σ σ' : L2.St) : Prop := σ'.length = σ.length ∧ ∀ j, j ∉ ws → σ'[j]? = σ[j]?
def OkG (K : PySem.W.Frag) (fi : List Nat) (fa : Nat → Addr) (ws : List Nat) (g : TG) (f : FG) : Prop := ∀ (σ : L2.St) (H S : Hp) (ρ : List Sl) (v : V) (d : D) (P : List Sl → Prop) (Q : L2.St → Hp → Prop), Rel K fi fa σ H S ρ → Den K S v d → f d ρ P →
  (∀ σ' H' S' ρ', P ρ' → Rel K fi fa σ' H' S' ρ' → Tr σ H S ρ σ' H' S' ρ' → SameBut ws σ σ' → Q σ' H') → g v σ H Q
def OkGs (K : PySem.W.Frag) (fi : List Nat) (fa : Nat → Addr) (ws : List Nat) (g : TGs) (f : FGs) : Prop := ∀ (σ : L2.St) (H S : Hp) (ρ : List Sl) (vs : List V) (ds : List D) (P : List Sl → Prop) (Q : L2.St → Hp → Prop), Rel K fi fa σ H S ρ → Dens K S vs ds → f ds ρ P →
  (∀ σ' H' S' ρ', P ρ' → Rel K fi fa σ' H' S' ρ' → Tr σ H S ρ σ' H' S' ρ' → SameBut ws σ σ' → Q σ' H') → g vs σ H Q
def PGD (X : Cx) (fi : List Nat) (fa : Nat → Addr) (tg : Expr) (ws : List Nat) (f : FG) : Prop := ∃ g, PG X tg g ∧ OkG X.K fi fa ws g f
def PGsD (X : Cx) (fi : List Nat) (fa : Nat → Addr) (tg : List Expr) (ws : List Nat) (f : FGs) : Prop := ∃ g, PGs X tg g ∧ OkGs X.K fi fa ws g f
def gdName (i : Nat) : FG := fun d ρ P => P (ρ.set i (.val d))
theorem pgd_name (i : Nat) {x : Str} (hN : X.N.Nodup) (hi : X.N[i]? = some x := by rfl) (hx : Loc X.env.scope x := by first | exact Or.inl rfl | exact Or.inr rfl) (hf : fi.contains i = false := by rfl)
    (hfn : X.fn x = true ∨ X.env.scope.names.lookup x = some .local := by first | exact .inl rfl | exact .inr rfl) : PGD X fi fa (.Name x pos) [i] (gdName i) :=
  ⟨_, pg_name hN hi hx hfn, fun σ H S ρ v d P Q r hd hP k => k _ H S _ hP (r.storeVal hd (fresh_lt (j := 0) hf)) Tr.storeVal ⟨List.length_set, fun j hj => get_set_ne (fun z => hj (by simp [z]))⟩⟩
def gdNil : FGs := fun ds ρ P => ds = [] ∧ P ρ
def gdCons (f : FG) (fs : FGs) : FGs := fun ds ρ P => ∃ d r, ds = d :: r ∧ f d ρ fun ρ1 => fs r ρ1 P
theorem pgsd_nil : PGsD X fi fa [] [] gdNil := ⟨_, pgs_nil, fun σ H S ρ vs ds P Q r hd hP k => by
  obtain ⟨rfl, hP⟩ := hP
  cases hd
  exact ⟨rfl, k σ H S ρ hP r (Tr.refl _ _ _ _) ⟨rfl, fun _ _ => rfl⟩⟩⟩
theorem pgsd_cons {es : List Expr} {ws us : List Nat} {f : FG} {fs : FGs} (h1 : PGD X fi fa e ws f) (h2 : PGsD X fi fa es us fs)
    (hs : (assignEach (e :: es) X.env).map (·.2) = assign e X.env :: (assignEach es X.env).map (·.2) := by rfl) : PGsD X fi fa (e :: es) (ws ++ us) (gdCons f fs) := by
  obtain ⟨g, p, ok⟩ := h1
  obtain ⟨gs, q, ok2⟩ := h2
  refine ⟨_, pgs_cons p q hs, fun σ H S ρ vs ds P Q r hd hP k => ?_⟩
  obtain ⟨d, rs, rfl, hP⟩ := hP
  cases hd with
  | cons h t =>
    refine ⟨_, _, rfl, ok σ H S ρ _ d _ _ r h hP fun σ' H' S' ρ' hP' r' t' sb => ok2 σ' H' S' ρ' _ rs P _ r' (t.mono t'.exS) hP' fun σ2 H2 S2 ρ2 hP2 r2 t2 sb2 => k σ2 H2 S2 ρ2 hP2 r2 (t'.trans t2) ⟨sb2.1.trans sb.1, fun j hj => ?_⟩⟩
    rw [List.mem_append] at hj
    rw [sb2.2 j (fun z => hj (.inr z)), sb.2 j (fun z => hj (.inl z))]
def gdTup (n : Nat) (fs : FGs) : FG := fun d ρ P => match d with
  | .tup ds => ds.length = n ∧ fs ds ρ P
  | _ => False
theorem pgd_tup {es : List Expr} {n k : Nat} {ws : List Nat} {fs : FGs} (hc : X.calm = true) (h : PGsD X fi fa es ws fs)
    (hn : (assignEach es X.env).length = n := by rfl) (hst : (assignEach es X.env).findIdx? (·.1) = none := by rfl) : PGD X fi fa (.Tuple es k pos) ws (gdTup n fs) := by
  obtain ⟨g, p, ok⟩ := h
  refine ⟨_, pg_tup hc p hn hst, fun σ H S ρ v d P Q r hd hP kk => ?_⟩
  unfold gdTup at hP
  split at hP
  · obtain ⟨a, xs, rfl, hS, hx⟩ := den_tup hd
    exact ⟨a, xs, rfl, SqT.of (r.ex _ _ hS), by rw [hx.length]; exact hP.1, ok σ H S ρ xs _ P Q r hx hP.2 kk⟩
  · exact hP.elim
end
end DL

/-! DL3: what is walked, for, comprehensions, defs and their calls. -/
namespace DL
open PySem PySem.Spec PyProof.Rows L2
variable [HW]

/-! ### what is walked -/
abbrev FI := List Sl → (List D → List Sl → Prop) → Prop
def ItD (K : PySem.W.Frag) (J : It) (S : Hp) (ds : List D) : Prop := ∀ (i : Nat) (S' H' : Hp), Ex S S' → Ex S' H' →
  (ds.length ≤ i → J.stop i H') ∧ ∀ d, ds[i]? = some d → J.go i H' ∧ ∀ x H'', J.yld i H' x H'' → ∃ S'', Gr S' H' S'' H'' ∧ Den K S'' x d
def OkI (K : PySem.W.Frag) (fi : List Nat) (fa : Nat → Addr) (ti : TI) (f : FI) : Prop := ∀ (σ : L2.St) (H S : Hp) (ρ : List Sl) (P : List D → List Sl → Prop) (R : It → Hp → Prop), Rel K fi fa σ H S ρ → f ρ P →
  (∀ J H' S' ds ρ', P ds ρ' → Rel K fi fa σ H' S' ρ' → Tr σ H S ρ σ H' S' ρ' → ItD K J S' ds → R J H') → ti σ H R
def PID (X : Cx) (fi : List Nat) (fa : Nat → Addr) (tg e : Expr) (f : FI) : Prop := ∃ t, PI X tg e t ∧ OkI X.K fi fa t f

section
variable {X : Cx} {fi : List Nat} {fa : Nat → Addr} {e a b tg iter : Expr} {f fx fy : FE} {ft : FT} {pos : Pos} {st : Stmt} {sts : List Stmt} {F G : FS}
/-- the items of a list or a tuple -/
def seqD (d : D) (P : List D → Prop) : Prop := match d with
  | .lst ds => P ds
  | .tup ds => P ds
  | .rol ds => P ds
  | _ => False
def fSeqI (f : FE) : FI := fun ρ P => f ρ fun d ρ1 => seqD d fun ds => P ds ρ1
theorem itd_list {K : PySem.W.Frag} {S : Hp} {a : Addr} {xs : List V} {ds : List D} (h : SqL K S a xs) (hd : Dens K S xs ds) : ItD K (Itl K a) S ds := fun i S' H' e1 e2 =>
  ⟨fun hl => ⟨xs, (e1.trans e2).l h, by rw [hd.length]; exact hl⟩, fun d he => by
    obtain ⟨v, hv, den⟩ := hd.get he
    refine ⟨⟨xs, v, (e1.trans e2).l h, hv⟩, fun x H'' ⟨e, hx⟩ => ?_⟩
    subst e
    have := hx xs ((e1.trans e2).l h)
    rw [hv] at this
    cases this
    exact ⟨S', Gr.refl e2, den.mono e1⟩⟩
theorem itd_tup {K : PySem.W.Frag} {S : Hp} {a : Addr} {xs : List V} {ds : List D} (h : SqT K S a xs) (hd : Dens K S xs ds) : ItD K (Itt K a) S ds := fun i S' H' e1 e2 =>
  ⟨fun hl => ⟨xs, (e1.trans e2).t h, by rw [hd.length]; exact hl⟩, fun d he => by
    obtain ⟨v, hv, den⟩ := hd.get he
    refine ⟨⟨xs, v, (e1.trans e2).t h, hv⟩, fun x H'' ⟨e, hx⟩ => ?_⟩
    subst e
    have := hx xs ((e1.trans e2).t h)
    rw [hv] at this
    cases this
    exact ⟨S', Gr.refl e2, den.mono e1⟩⟩
def lstD (d : D) (P : List D → Prop) : Prop := match d with
  | .lst ds => P ds
  | .rol ds => P ds
  | _ => False
def tupD (d : D) (P : List D → Prop) : Prop := match d with
  | .tup ds => P ds
  | _ => False
theorem lstD_inv {d : D} {P : List D → Prop} (h : lstD d P) : ∃ ds, (d = .lst ds ∨ d = .rol ds) ∧ P ds := by
  unfold lstD at h
  split at h
  · exact ⟨_, .inl rfl, h⟩
  · exact ⟨_, .inr rfl, h⟩
  · exact h.elim
theorem den_lstR {K : PySem.W.Frag} {S : Hp} {v : V} {d : D} {ds : List D} (e : d = .lst ds ∨ d = .rol ds) (h : Den K S v d) : ∃ a xs, v = .ref a ∧ SqL K S a xs ∧ Dens K S xs ds := by
  rcases e with rfl | rfl
  · obtain ⟨a, xs, e, h1, h2⟩ := den_lst h
    exact ⟨a, xs, e, SqL.of h1, h2⟩
  · exact den_rol h
theorem tupD_inv {d : D} {P : List D → Prop} (h : tupD d P) : ∃ ds, d = .tup ds ∧ P ds := by
  unfold tupD at h
  split at h
  · exact ⟨_, rfl, h⟩
  · exact h.elim
def fLstI (f : FE) : FI := fun ρ P => f ρ fun d ρ1 => lstD d fun ds => P ds ρ1
def fTupI (f : FE) : FI := fun ρ P => f ρ fun d ρ1 => tupD d fun ds => P ds ρ1
theorem pid_l (h : PED X fi fa e f) : PID X fi fa tg e (fLstI f) := by
  obtain ⟨t, p, ok⟩ := h
  refine ⟨_, pi_list p, fun σ H S ρ P R r hf k => ok σ H S ρ _ _ r hf fun v H' S' d ρ' hP r' t' hd => ?_⟩
  obtain ⟨ds, ed, hP⟩ := lstD_inv hP
  obtain ⟨a, xs, rfl, h1, h2⟩ := den_lstR ed hd
  exact ⟨a, rfl, ⟨xs, r'.ex.l h1⟩, k _ H' S' _ ρ' hP r' t' (itd_list h1 h2)⟩
theorem pid_t (h : PED X fi fa e f) : PID X fi fa tg e (fTupI f) := by
  obtain ⟨t, p, ok⟩ := h
  refine ⟨_, pi_tup p, fun σ H S ρ P R r hf k => ok σ H S ρ _ _ r hf fun v H' S' d ρ' hP r' t' hd => ?_⟩
  obtain ⟨ds, rfl, hP⟩ := tupD_inv hP
  obtain ⟨a, xs, rfl, h1, h2⟩ := den_tup hd
  exact ⟨a, rfl, ⟨xs, SqT.of (r'.ex _ _ h1)⟩, k _ H' S' _ ρ' hP r' t' (itd_tup (SqT.of h1) h2)⟩
/-- range(n), range(a, b) -/
def rangeD (lo : Int) (n : Nat) : List D := (List.range n).map fun i => .int (lo + (i : Nat))
theorem itd_range {K : PySem.W.Frag} {S : Hp} {lo : Int} {n : Nat} : ItD K (Itr lo n) S (rangeD lo n) := fun i S' H' e1 e2 =>
  ⟨fun hl => by
    have : (rangeD lo n).length = n := by unfold rangeD; rw [List.length_map, List.length_range]
    show n ≤ i
    omega, fun d he => by
    unfold rangeD at he
    rw [List.getElem?_map] at he
    have hi : i < n := by
      cases q : (List.range n)[i]? with
      | none => rw [q] at he; cases he
      | some j =>
        have := (List.getElem?_eq_some_iff.mp q).1
        rw [List.length_range] at this; exact this
    rw [List.getElem?_range hi] at he
    cases he
    refine ⟨hi, fun x H'' ⟨e, hx⟩ => ?_⟩
    subst e
    subst hx
    exact ⟨S', Gr.refl e2, .int _⟩⟩
def intsD : List D → (List Int → Prop) → Prop
  | [], P => P []
  | .int i :: ds, P => intsD ds fun is => P (i :: is)
  | _, _ => False
theorem intsD_inv {K : PySem.W.Frag} {S : Hp} : ∀ {ds : List D} {P : List Int → Prop} {vs : List V}, intsD ds P → Dens K S vs ds → ∃ is, vs = is.map V.int ∧ ds = is.map D.int ∧ P is
  | [], P, _, h, .nil => ⟨[], rfl, rfl, h⟩
  | .int i :: ds, P, _, h, .cons h1 h2 => by
    obtain ⟨is, e1, e2, hp⟩ := intsD_inv (ds := ds) h h2
    cases h1
    exact ⟨i :: is, by rw [e1]; rfl, by rw [e2]; rfl, hp⟩
def fRng1 (fs : FA) : FI := fun ρ P => fs ρ fun ds ρ1 => match ds with
  | [.int j] => j ≤ 100000 ∧ -100000 ≤ j ∧ P (rangeD 0 j.toNat) ρ1
  | _ => False
def fRng2 (fs : FA) : FI := fun ρ P => fs ρ fun ds ρ1 => match ds with
  | [.int i, .int j] => (j ≤ 100000 ∧ -100000 ≤ j ∧ i ≤ 100000 ∧ -100000 ≤ i) ∧ P (rangeD i (j - i).toNat) ρ1
  | _ => False
theorem pid_range1 {p : Pos} {fs : FA} (hg : Gl X "range") (hm : X.mg "range" = none) (ha : PAD X fi fa [a] fs) (hs : starEach [a] X.env = [(false, eval a X.env)] := by rfl) : PID X fi fa tg (.Call (.Name "range" p) [a] [] pos) (fRng1 fs) := by
  obtain ⟨t, q, ok⟩ := ha
  refine ⟨_, pi_range1 hg hm q hs, fun σ H S ρ P R r hf k => ok σ H S ρ _ _ r hf fun vs H' S' ds ρ' hP r' t' hd => ?_⟩
  split at hP
  · rename_i j
    cases hd with
    | cons h1 h2 =>
      cases h2
      cases h1
      exact ⟨j, rfl, by omega, by omega, k _ H' S' _ ρ' hP.2.2 r' t' itd_range⟩
  · exact hP.elim
theorem pid_range2 {p : Pos} {fs : FA} (hg : Gl X "range") (hm : X.mg "range" = none) (ha : PAD X fi fa [a, b] fs) (hs : starEach [a, b] X.env = [(false, eval a X.env), (false, eval b X.env)] := by rfl) (hs2 : starEach [b] X.env = [(false, eval b X.env)] := by rfl) :
    PID X fi fa tg (.Call (.Name "range" p) [a, b] [] pos) (fRng2 fs) := by
  obtain ⟨t, q, ok⟩ := ha
  refine ⟨_, pi_range2 hg hm q hs hs2, fun σ H S ρ P R r hf k => ok σ H S ρ _ _ r hf fun vs H' S' ds ρ' hP r' t' hd => ?_⟩
  split at hP
  · rename_i i j
    cases hd with
    | cons h1 h2 =>
      cases h2 with
      | cons h2 h3 =>
        cases h3
        cases h1
        cases h2
        exact ⟨i, j, rfl, ⟨by omega, by omega, by omega, by omega⟩, k _ H' S' _ ρ' hP.2 r' t' itd_range⟩
  · exact hP.elim
/-- zip of two lists or two tuples -/
def zipD : List D → List D → List D
  | x :: xs, y :: ys => .tup [x, y] :: zipD xs ys
  | _, _ => []
theorem zipD_len : ∀ xs ys : List D, (zipD xs ys).length = min xs.length ys.length
  | [], _ => by simp [zipD]
  | _ :: _, [] => by simp [zipD]
  | x :: xs, y :: ys => by
    rw [zipD, List.length_cons, zipD_len xs ys, List.length_cons, List.length_cons]
    omega
theorem zipD_get : ∀ (xs ys : List D) (i : Nat) (d : D), (zipD xs ys)[i]? = some d → ∃ x y, xs[i]? = some x ∧ ys[i]? = some y ∧ d = .tup [x, y]
  | [], _, i, d, h => by simp [zipD] at h
  | _ :: _, [], i, d, h => by simp [zipD] at h
  | x :: xs, y :: ys, 0, d, h => by
    simp [zipD] at h
    exact ⟨x, y, rfl, rfl, h.symm⟩
  | x :: xs, y :: ys, i + 1, d, h => by
    have := zipD_get xs ys i d (by simpa [zipD] using h)
    simpa using this
theorem itd_zipL {K : PySem.W.Frag} {S : Hp} {a b : Addr} {xs ys : List V} {ds es : List D} (h : SqL K S a xs) (hd : Dens K S xs ds) (h' : SqL K S b ys) (hd' : Dens K S ys es) : ItD K (Itz K a b) S (zipD ds es) := fun i S' H' e1 e2 => by
  refine ⟨fun hl => ⟨xs, ys, (e1.trans e2).l h, (e1.trans e2).l h', ?_⟩, fun d he => ?_⟩
  · rw [zipD_len] at hl
    rw [hd.length, hd'.length]
    omega
  · obtain ⟨x, y, hx, hy, rfl⟩ := zipD_get _ _ _ _ he
    obtain ⟨v, hv, den⟩ := hd.get hx
    obtain ⟨u, hu, den'⟩ := hd'.get hy
    refine ⟨⟨xs, ys, v, u, (e1.trans e2).l h, (e1.trans e2).l h', hv, hu⟩, fun z H'' hz => ?_⟩
    obtain ⟨T, v', u', rfl, hT, rfl, f1, f2⟩ := hz
    have q1 := f1 xs ((e1.trans e2).l h)
    have q2 := f2 ys ((e1.trans e2).l h')
    rw [hv] at q1
    rw [hu] at q2
    cases q1
    cases q2
    have g := Gr.one (o := .tup [v, u]) e2 hT
    exact ⟨_, g, .tup upd_same (.cons (den.mono (e1.trans g.s)) (.cons (den'.mono (e1.trans g.s)) .nil))⟩
theorem itd_zipT {K : PySem.W.Frag} {S : Hp} {a b : Addr} {xs ys : List V} {ds es : List D} (h : SqT K S a xs) (hd : Dens K S xs ds) (h' : SqT K S b ys) (hd' : Dens K S ys es) : ItD K (RZ.ItzT K a b) S (zipD ds es) := fun i S' H' e1 e2 => by
  refine ⟨fun hl => ⟨xs, ys, (e1.trans e2).t h, (e1.trans e2).t h', ?_⟩, fun d he => ?_⟩
  · rw [zipD_len] at hl
    rw [hd.length, hd'.length]
    omega
  · obtain ⟨x, y, hx, hy, rfl⟩ := zipD_get _ _ _ _ he
    obtain ⟨v, hv, den⟩ := hd.get hx
    obtain ⟨u, hu, den'⟩ := hd'.get hy
    refine ⟨⟨xs, ys, v, u, (e1.trans e2).t h, (e1.trans e2).t h', hv, hu⟩, fun z H'' hz => ?_⟩
    obtain ⟨T, v', u', rfl, hT, rfl, f1, f2⟩ := hz
    have q1 := f1 xs ((e1.trans e2).t h)
    have q2 := f2 ys ((e1.trans e2).t h')
    rw [hv] at q1
    rw [hu] at q2
    cases q1
    cases q2
    have g := Gr.one (o := .tup [v, u]) e2 hT
    exact ⟨_, g, .tup upd_same (.cons (den.mono (e1.trans g.s)) (.cons (den'.mono (e1.trans g.s)) .nil))⟩
def fZip (fs : FA) : FI := fun ρ P => fs ρ fun ds ρ1 => match ds with
  | [.lst xs, .lst ys] => P (zipD xs ys) ρ1
  | [.tup xs, .tup ys] => P (zipD xs ys) ρ1
  | _ => False
theorem pid_zip {p tpos : Pos} {elts : List Expr} {kk : Nat} {fs : FA} (hg : Gl X "zip") (hm : X.mg "zip" = none) (ha : PAD X fi fa [a, b] fs)
    (hs : starEach [a, b] X.env = (false, eval a X.env) :: starEach [b] X.env := by rfl) (hpl : (backTo pos (starEach [b] X.env)).any (·.1) = false := by rfl) : PID X fi fa (.Tuple elts kk tpos) (.Call (.Name "zip" p) [a, b] [] pos) (fZip fs) := by
  obtain ⟨t, q, ok⟩ := ha
  refine ⟨_, RZ.pi_zipA hg hm q hs hpl, fun σ H S ρ P R r hf k => ok σ H S ρ _ _ r hf fun vs H' S' ds ρ' hP r' t' hd => ?_⟩
  split at hP
  · cases hd with
    | cons h1 h2 =>
      cases h2 with
      | cons h2 h3 =>
        cases h3
        obtain ⟨a, xs, rfl, g1, g2⟩ := den_lst h1
        obtain ⟨b, ys, rfl, g3, g4⟩ := den_lst h2
        exact ⟨a, b, xs, ys, rfl, .inl ⟨SqL.of (r'.ex _ _ g1), SqL.of (r'.ex _ _ g3), k _ H' S' _ ρ' hP r' t' (itd_zipL (SqL.of g1) g2 (SqL.of g3) g4)⟩⟩
  · cases hd with
    | cons h1 h2 =>
      cases h2 with
      | cons h2 h3 =>
        cases h3
        obtain ⟨a, xs, rfl, g1, g2⟩ := den_tup h1
        obtain ⟨b, ys, rfl, g3, g4⟩ := den_tup h2
        exact ⟨a, b, xs, ys, rfl, .inr ⟨SqT.of (r'.ex _ _ g1), SqT.of (r'.ex _ _ g3), k _ H' S' _ ρ' hP r' t' (itd_zipT (SqT.of g1) g2 (SqT.of g3) g4)⟩⟩
  · exact hP.elim

/-! ### for -/
def lpK (k : List Sl → (Fl → Prop) → Prop) (P : Fl → Prop) : Fl → Prop
  | .nx ρ => k ρ P
  | .ct ρ => k ρ P
  | .bk ρ => P (.nx ρ)
  | fl => P fl
def forGo (g : FG) (B : FS) : List D → List Sl → (Fl → Prop) → Prop
  | [], ρ, P => P (.nx ρ)
  | d :: ds, ρ, P => g d ρ fun ρ1 => B ρ1 (lpK (forGo g B ds) P)
def fFor (i : FI) (g : FG) (B : FS) : FS := fun ρ P => i ρ fun ds ρ1 => forGo g B ds ρ1 P
theorem psd_for {body : List Stmt} {fit : FI} {ws : List Nat} {g : FG} {B : FS} (hp : PassesOwn (model X.prog X.w) X.A X.env X.xe) (hc : X.calm = true) (hi : PID X fi fa tg iter fit) (hg : PGD X fi fa tg ws g) (hb : PSsD X fi fa body B)
    (hs : ∀ x, foldedSetIterable iter X.env x = pure x := by intro _; rfl) : PSD X fi fa (.For tg iter body [] pos) (fFor fit g B) := by
  obtain ⟨ti, p1, o1⟩ := hi
  obtain ⟨tg', p2, o2⟩ := hg
  obtain ⟨tb, p3, o3⟩ := hb
  refine ⟨_, ps_for hp hc p1 p2 p3 hs, fun σ H S ρ P E r hf k => o1 σ H S ρ _ _ r hf fun J H1 S1 ds ρ1 hP r1 t1 it => ?_⟩
  refine ⟨fun i m σ' H' => ∃ S' ρ', m = ds.length - i ∧ i ≤ ds.length ∧ Rel X.K fi fa σ' H' S' ρ' ∧ Tr σ H1 S1 ρ1 σ' H' S' ρ' ∧ forGo g B (ds.drop i) ρ' P, ⟨_, S1, ρ1, rfl, Nat.zero_le _, r1, Tr.refl _ _ _ _, by rw [List.drop_zero]; exact hP⟩, ?_⟩
  rintro i m σ' H' ⟨S', ρ', rfl, hi, r', t', w⟩
  obtain ⟨stop, go⟩ := it i S' H' t'.exS r'.ex
  by_cases hlt : i < ds.length
  · have hd : ds.drop i = ds[i] :: ds.drop (i + 1) := List.drop_eq_getElem_cons hlt
    rw [hd] at w
    obtain ⟨g1, g2⟩ := go ds[i] (List.getElem?_eq_getElem hlt)
    refine .inr ⟨g1, fun σ2 H2 => ∃ S2 ρ2, Rel X.K fi fa σ2 H2 S2 ρ2 ∧ Tr σ H1 S1 ρ1 σ2 H2 S2 ρ2 ∧ forGo g B (ds.drop (i + 1)) ρ2 P, fun σ2 H2 ⟨S2, ρ2, r2, t2, w2⟩ => ⟨ds.length - (i + 1), by omega, S2, ρ2, rfl, hlt, r2, t2, w2⟩, fun x H'' hy => ?_⟩
    obtain ⟨S'', gr, den⟩ := g2 x H'' hy
    refine o2 σ' H'' S'' ρ' x _ _ _ (r'.grow gr) den w fun σ3 H3 S3 ρ3 hP3 r3 t3 _ => ?_
    have T3 := (t'.trans gr.tr).trans t3
    refine o3 σ3 H3 S3 ρ3 _ _ r3 hP3 ⟨?_, ?_, ?_, ?_, ?_⟩
    · exact fun σ4 H4 S4 ρ4 h4 r4 t4 => ⟨S4, ρ4, r4, T3.trans t4, h4⟩
    · exact fun σ4 H4 S4 ρ4 h4 r4 t4 => k.1 σ4 H4 S4 ρ4 h4 r4 ((t1.trans T3).trans t4)
    · exact fun σ4 H4 S4 ρ4 h4 r4 t4 => ⟨S4, ρ4, r4, T3.trans t4, h4⟩
    · exact fun v d σ4 H4 S4 ρ4 h4 r4 t4 hd => k.2.2.2.1 v d σ4 H4 S4 ρ4 h4 r4 ((t1.trans T3).trans t4) hd
    · exact fun v d σ4 H4 S4 ρ4 h4 r4 t4 hd => k.2.2.2.2 v d σ4 H4 S4 ρ4 h4 r4 ((t1.trans T3).trans t4) (hd.back (t1.trans T3))
  · have hl : ds.length ≤ i := Nat.le_of_not_lt hlt
    rw [List.drop_eq_nil_of_le hl] at w
    exact .inl ⟨stop hl, k.1 σ' H' S' ρ' w r' (t1.trans t')⟩
end
end DL

/-! DL4: comprehensions; defs and their calls. -/
namespace DL
open PySem PySem.Spec PyProof.Rows L2
variable [HW]

/-! ### comprehensions -/
def wipeS (ρ : List Sl) : List Nat → List Sl
  | [] => ρ
  | v :: vs => (wipeS ρ vs).set v .non
section
variable {K : PySem.W.Frag} {fi : List Nat} {fa : Nat → Addr} {σ : L2.St} {H S : Hp} {ρ : List Sl}
theorem Rel.storeNon {i : Nat} (r : Rel K fi fa σ H S ρ) (hi : i ∉ fi) : Rel K fi fa (σ.set i none) H S (ρ.set i .non) where
  ex := r.ex
  len := by rw [List.length_set, List.length_set]; exact r.len
  val := fun j e h => by
    have hj : j ≠ i := fun z => by subst z; have := get_set_eq h; cases this
    rw [get_set_ne hj] at h
    rw [get_set_ne hj]; exact r.val j e h
  own := fun j e h => by
    have hj : j ≠ i := fun z => by subst z; have := get_set_eq h; cases this
    rw [get_set_ne hj] at h
    rw [get_set_ne hj]; exact r.own j e h
  dis := fun j k e f p h1 h2 h3 h4 => by
    have hj : j ≠ i := fun z => by subst z; have := get_set_eq h1; cases this
    have hk : k ≠ i := fun z => by subst z; have := get_set_eq h2; cases this
    rw [get_set_ne hj] at h1 h3
    rw [get_set_ne hk] at h2 h4
    exact r.dis j k e f p h1 h2 h3 h4
  fix := fun j hj => by
    have : j ≠ i := fun z => hi (z ▸ hj)
    rw [get_set_ne this]; exact r.fix j hj
theorem Tr.storeNon {i : Nat} : Tr σ H S ρ (σ.set i none) H S (ρ.set i .non) :=
  ⟨Ex.refl S, fun _ _ h _ => h, fun a ⟨j, e, h1, h2⟩ => by
    have hj : j ≠ i := fun z => by subst z; have := get_set_eq h1; cases this
    rw [get_set_ne hj] at h1 h2
    exact .inl ⟨j, e, h1, h2⟩, fun _ h => .inl h, fun _ h => h⟩
theorem Rel.wipe (r : Rel K fi fa σ H S ρ) : ∀ vs : List Nat, (∀ i ∈ vs, i ∉ fi) → Rel K fi fa (wipe σ vs) H S (wipeS ρ vs)
  | [], _ => r
  | v :: vs, h => (Rel.wipe r vs fun i hi => h i (List.mem_cons_of_mem _ hi)).storeNon (h v List.mem_cons_self)
theorem Tr.wipe : ∀ vs : List Nat, Tr σ H S ρ (wipe σ vs) H S (wipeS ρ vs)
  | [] => Tr.refl _ _ _ _
  | v :: vs => (Tr.wipe vs).trans Tr.storeNon
theorem wipe_get {i : Nat} : ∀ {vs : List Nat}, i ∉ vs → (wipe σ vs)[i]? = σ[i]?
  | [], _ => rfl
  | v :: vs, h => by
    show ((L2.wipe σ vs).set v none)[i]? = σ[i]?
    rw [get_set_ne (fun z => h (by rw [z]; exact List.mem_cons_self)), wipe_get fun z => h (List.mem_cons_of_mem _ z)]
theorem wipeS_get {i : Nat} : ∀ {vs : List Nat}, i ∈ vs → ∀ s, (wipeS ρ vs)[i]? = some s → s = .non
  | [], h, _, _ => nomatch h
  | v :: vs, h, s, e => by
    by_cases hi : i = v
    · subst hi; exact get_set_eq e
    · have e' : (wipeS ρ vs)[i]? = some s := by
        have : ((wipeS ρ vs).set v .non)[i]? = some s := e
        rw [get_set_ne hi] at this; exact this
      exact wipeS_get ((List.mem_cons.mp h).resolve_left hi) s e'
theorem Rel.unwipe {vs : List Nat} {σ' : L2.St} (hl : σ'.length = σ.length) (hg : ∀ i, i ∉ vs → σ'[i]? = σ[i]?) (hf : ∀ i ∈ vs, i ∉ fi) (r : Rel K fi fa σ' H S (wipeS ρ vs)) : Rel K fi fa σ H S (wipeS ρ vs) where
  ex := r.ex
  len := by rw [r.len, hl]
  val := fun j e h => by
    have hj : j ∉ vs := fun z => by have := wipeS_get z _ h; cases this
    rw [← hg j hj]; exact r.val j e h
  own := fun j e h => by
    have hj : j ∉ vs := fun z => by have := wipeS_get z _ h; cases this
    rw [← hg j hj]; exact r.own j e h
  dis := fun j k e f p h1 h2 h3 h4 => by
    have hj : j ∉ vs := fun z => by have := wipeS_get z _ h1; cases this
    have hk : k ∉ vs := fun z => by have := wipeS_get z _ h2; cases this
    rw [← hg j hj] at h3
    rw [← hg k hk] at h4
    exact r.dis j k e f p h1 h2 h3 h4
  fix := fun j hj => by
    have : j ∉ vs := fun z => hf j z hj
    rw [← hg j this]; exact r.fix j hj
theorem Tr.unwipe {vs : List Nat} {σ0 σ' : L2.St} {H0 S0 : Hp} {ρ0 : List Sl} (hg : ∀ i, i ∉ vs → σ'[i]? = σ[i]?) (t : Tr σ0 H0 S0 ρ0 σ' H S (wipeS ρ vs)) : Tr σ0 H0 S0 ρ0 σ H S (wipeS ρ vs) :=
  ⟨t.exS, t.keep, fun a ⟨j, e, h1, h2⟩ => by
    have hj : j ∉ vs := fun z => by have := wipeS_get z _ h1; cases this
    rw [← hg j hj] at h2
    exact t.owned a ⟨j, e, h1, h2⟩, t.new, t.dom⟩
theorem wipe_ext {σ' : L2.St} {vs : List Nat} (hl : σ'.length = σ.length) (h : ∀ j, j ∉ vs → σ'[j]? = σ[j]?) : wipe σ' vs = wipe σ vs := by
  apply List.ext_getElem?
  intro i
  by_cases hi : i ∈ vs
  · have : ∀ τ : L2.St, ∀ vs : List Nat, i ∈ vs → (wipe τ vs)[i]? = if i < τ.length then some none else none := by
      intro τ vs
      induction vs with
      | nil => intro h; cases h
      | cons v vs ih =>
        intro hm
        show ((wipe τ vs).set v none)[i]? = _
        by_cases hv : i = v
        · subst hv
          rw [List.getElem?_set]
          rw [if_pos rfl, wipe_length]
        · rw [get_set_ne hv]
          exact ih ((List.mem_cons.mp hm).resolve_left hv)
    rw [this σ' vs hi, this σ vs hi, hl]
  · rw [wipe_get hi, wipe_get hi, h i hi]
/-- a hidden object changes -/
theorem Rel.hid {p : Addr} {o : HO} (r : Rel K fi fa σ H S ρ) (hs : S p = none) (no : ¬ Owned σ ρ p) : Rel K fi fa σ (L2.upd H p o) S ρ where
  ex := fun a u h => by
    have : a ≠ p := fun z => by subst z; rw [hs] at h; cases h
    rw [upd_ne this]; exact r.ex a u h
  len := r.len
  val := r.val
  own := fun i d h => by
    obtain ⟨q, u, e1, e2, e3, e4⟩ := r.own i d h
    have : q ≠ p := fun z => no ⟨i, d, h, by rw [e1, z]⟩
    exact ⟨q, u, e1, e2, by rw [upd_ne this]; exact e3, e4⟩
  dis := r.dis
  fix := r.fix
theorem Tr.hid {p : Addr} {o : HO} {σ0 : L2.St} {H0 S0 : Hp} {ρ0 : List Sl} (t : Tr σ0 H0 S0 ρ0 σ H S ρ) (h0 : H0 p = none) : Tr σ0 H0 S0 ρ0 σ (L2.upd H p o) S ρ :=
  ⟨t.exS, fun a u h n => by
    have : a ≠ p := fun z => by subst z; rw [h0] at h; cases h
    rw [upd_ne this]; exact t.keep a u h n, t.owned, t.new, fun a h => by
    by_cases ha : a = p
    · subst ha; exact h0
    · rw [upd_ne ha] at h; exact t.dom a h⟩
/-- a hidden object stays through a step -/
theorem Tr.hides {p : Addr} {o : HO} {σ' : L2.St} {H' S' : Hp} {ρ' : List Sl} (t : Tr σ H S ρ σ' H' S' ρ') (hp : H p = some o) (hs : S p = none) (no : ¬ Owned σ ρ p) (nt : ∀ xs, o ≠ .tup xs) : H' p = some o ∧ S' p = none ∧ ¬ Owned σ' ρ' p := by
  refine ⟨t.keep p o hp no, ?_, fun h => (t.owned p h).elim no fun z => by rw [hp] at z; cases z⟩
  cases z : S' p with
  | none => rfl
  | some u =>
    rcases t.new p (by rw [z]; intro q; cases q) with y | y | y | ⟨xs, y⟩
    · exact absurd hs y
    · rw [hp] at y; cases y
    · exact absurd y no
    · rw [hp] at y; cases y; exact absurd rfl (nt xs)
end

def PTsD (X : Cx) (fi : List Nat) (fa : Nat → Addr) (ifs : List Expr) (f : FT) : Prop := ∃ t, PTs X ifs t ∧ OkT X.K fi fa t f
def fYes : FT := fun ρ P => P true ρ
section
variable {X : Cx} {fi : List Nat} {fa : Nat → Addr} {e a b tg iter elt : Expr} {ifs : List Expr} {f fe fx fy : FE} {ft : FT} {pos : Pos} {g : FG} {fit : FI}
theorem ptsd_nil : PTsD X fi fa [] fYes := ⟨_, pts_nil, fun σ H S ρ P Q r hf k => k true H S ρ hf r (Tr.refl _ _ _ _)⟩
theorem ptsd_one (h : PTD X fi fa e ft) : PTsD X fi fa [e] ft := let ⟨t, p, o⟩ := h; ⟨_, pts_one p, o⟩
theorem PTsD.uni (h : PTsD X fi fa ifs ft) : PTs X ifs (uT X.K fi fa ft) := by
  obtain ⟨t, p, ok⟩ := h
  refine ⟨fun pins s σ H Q I hw => p.run pins s σ H Q I ?_⟩
  obtain ⟨S, ρ, P, r, hf, k⟩ := hw
  exact ok σ H S ρ P Q r hf k
def uG (K : PySem.W.Frag) (fi : List Nat) (fa : Nat → Addr) (ws : List Nat) (f : FG) : TG := fun v σ H Q => ∃ (S : Hp) (ρ : List Sl) (d : D) (P : List Sl → Prop), Rel K fi fa σ H S ρ ∧ Den K S v d ∧ f d ρ P ∧
  ∀ σ' H' S' ρ', P ρ' → Rel K fi fa σ' H' S' ρ' → Tr σ H S ρ σ' H' S' ρ' → SameBut ws σ σ' → Q σ' H'
theorem PGD.uni {ws : List Nat} (h : PGD X fi fa tg ws g) : PG X tg (uG X.K fi fa ws g) := by
  obtain ⟨t, p, ok⟩ := h
  refine ⟨fun pins s σ H v u Q I rv hw => p.run pins s σ H v u Q I rv ?_⟩
  obtain ⟨S, ρ, d, P, r, hd, hf, k⟩ := hw
  exact ok σ H S ρ v d P Q r hd hf k
/-- [fe for .. in .. if ft]; vs: the comprehension's own slots -/
def lcGo (g : FG) (t : FT) (fe : FE) (vs : List Nat) : List D → List D → List Sl → (List D → List Sl → Prop) → Prop
  | [], acc, ρ, P => P acc ρ
  | d :: ds, acc, ρ, P => g d ρ fun ρ1 => t ρ1 fun b ρ2 => if b = true then fe ρ2 fun x ρ3 => acc.length < 100000 ∧ lcGo g t fe vs ds (acc ++ [x]) (wipeS ρ3 vs) P else lcGo g t fe vs ds acc (wipeS ρ2 vs) P
def fLc (i : FI) (g : FG) (t : FT) (fe : FE) (vs : List Nat) : FE := fun ρ P => i ρ fun ds ρ1 => lcGo g t fe vs ds [] (wipeS ρ1 vs) fun acc ρ2 => P (.lst acc) ρ2
theorem ok_lc {K : PySem.W.Frag} {ti : TI} {ws vs : List Nat} (hi : OkI K fi fa ti fit) (hv : ∀ i ∈ vs, i ∉ fi) (hw : ∀ i ∈ ws, i ∈ vs) : OkF K fi fa (tLc ti (uG K fi fa ws g) (uT K fi fa ft) (uE K fi fa fe) vs) (fLc fit g ft fe vs) := by
  intro σ H S ρ P Q r hf k
  refine hi σ H S ρ _ _ r hf fun J H1 S1 ds ρ1 hP r1 t1 it Dd hD => ?_
  have same : ∀ i, i ∉ vs → (wipe σ vs)[i]? = σ[i]? := fun i hi => wipe_get hi
  refine ⟨fun i m H' => ∃ S' ρ' acc dacc, m = ds.length - i ∧ i ≤ ds.length ∧ Rel K fi fa (wipe σ vs) H' S' (wipeS ρ' vs) ∧ Tr σ H1 S1 ρ1 (wipe σ vs) H' S' (wipeS ρ' vs) ∧ H' Dd = some (.lst acc) ∧ S' Dd = none ∧ ¬ Owned (wipe σ vs) (wipeS ρ' vs) Dd ∧ Dens K S' acc dacc ∧
    lcGo g ft fe vs (ds.drop i) dacc (wipeS ρ' vs) (fun acc ρ2 => P (.lst acc) ρ2), ⟨_, S1, ρ1, [], [], rfl, Nat.zero_le _, ?_⟩, ?_⟩
  · have g0 : Gr S1 H1 S1 (upd H1 Dd (.lst [])) := Gr.hid r1.ex hD
    have rw0 := (r1.grow g0).wipe vs hv
    refine ⟨rw0, (g0.tr (ρ := ρ1) (σ := σ)).trans (Tr.wipe vs), upd_same, r1.ex.free hD, fun ⟨i, d, h1, h2⟩ => ?_, .nil, by rw [List.drop_zero]; exact hP⟩
    obtain ⟨q, u, e1, e2, e3, e4⟩ := (r1.wipe vs hv).own i d h1
    rw [h2] at e1
    cases e1
    rw [hD] at e3
    cases e3
  · rintro i m H' ⟨S', ρ', acc, dacc, rfl, hi', r', t', hDd, hSd, nOd, hacc, w⟩
    obtain ⟨stop, go⟩ := it i S' H' t'.exS r'.ex
    by_cases hlt : i < ds.length
    · have hd : ds.drop i = ds[i] :: ds.drop (i + 1) := List.drop_eq_getElem_cons hlt
      rw [hd] at w
      obtain ⟨g1, g2⟩ := go ds[i] (List.getElem?_eq_getElem hlt)
      refine .inr ⟨g1, fun H2 => ∃ S2 ρ2 acc2 dacc2, Rel K fi fa (wipe σ vs) H2 S2 (wipeS ρ2 vs) ∧ Tr σ H1 S1 ρ1 (wipe σ vs) H2 S2 (wipeS ρ2 vs) ∧ H2 Dd = some (.lst acc2) ∧ S2 Dd = none ∧ ¬ Owned (wipe σ vs) (wipeS ρ2 vs) Dd ∧ Dens K S2 acc2 dacc2 ∧
        lcGo g ft fe vs (ds.drop (i + 1)) dacc2 (wipeS ρ2 vs) (fun acc ρ2 => P (.lst acc) ρ2), fun H2 ⟨S2, ρ2, acc2, dacc2, h⟩ => ⟨ds.length - (i + 1), by omega, S2, ρ2, acc2, dacc2, rfl, hlt, h⟩, fun x H'' hy => ?_⟩
      obtain ⟨S'', gr, den⟩ := g2 x H'' hy
      have T2 := t'.trans (gr.tr (σ := wipe σ vs) (ρ := wipeS ρ' vs))
      obtain ⟨k1, k2, k3⟩ := (gr.tr (σ := wipe σ vs) (ρ := wipeS ρ' vs)).hides hDd hSd nOd (fun _ => HO.noConfusion)
      refine ⟨S'', wipeS ρ' vs, ds[i], _, r'.grow gr, den, w, fun σ3 H3 S3 ρ3 hP3 r3 t3 sb => ?_⟩
      have hsame3 : ∀ j, j ∉ vs → σ3[j]? = (wipe σ vs)[j]? := fun j hj => sb.2 j fun z => hj (hw j z)
      have e3 : wipe σ3 vs = wipe σ vs := by
        rw [wipe_ext sb.1 hsame3]
        exact wipe_ext (wipe_length σ vs) same
      obtain ⟨l1, l2, l3⟩ := t3.hides k1 k2 k3 (fun _ => HO.noConfusion)
      refine ⟨e3, S3, ρ3, _, r3, hP3, fun b H4 S4 ρ4 hP4 r4 t4 => ?_⟩
      obtain ⟨m1, m2, m3⟩ := t4.hides l1 l2 l3 (fun _ => HO.noConfusion)
      cases b with
      | true =>
        refine iteT ⟨S4, ρ4, _, r4, by simpa using hP4, fun y H5 S5 d5 ρ5 hP5 r5 t5 den5 => ?_⟩
        obtain ⟨n1, n2, n3⟩ := t5.hides m1 m2 m3 (fun _ => HO.noConfusion)
        have ex5 : Ex S' S5 := ((gr.s.trans t3.exS).trans t4.exS).trans t5.exS
        refine ⟨acc, n1, sz_lt (by rw [hacc.length]; exact hP5.1), S5, ρ5, acc ++ [y], dacc ++ [d5], ?_, ?_, upd_same, n2, ?_, (hacc.mono ex5).snoc den5, hP5.2⟩
        · have := (r5.hid (o := .lst (acc ++ [y])) n2 n3).wipe vs hv
          rw [e3] at this; exact this
        · have t := (((T2.trans t3).trans t4).trans t5).hid (p := Dd) (o := .lst (acc ++ [y])) hD
          have := t.trans (Tr.wipe vs)
          rw [e3] at this; exact this
        · intro h
          have hh : Owned (wipe σ3 vs) (wipeS ρ5 vs) Dd := by rw [e3]; exact h
          exact ((Tr.wipe (σ := σ3) (H := H5) (S := S5) (ρ := ρ5) vs).owned Dd hh).elim n3 fun z => by rw [n1] at z; cases z
      | false =>
        refine iteF ⟨S4, ρ4, acc, dacc, ?_, ?_, m1, m2, ?_, hacc.mono ((gr.s.trans t3.exS).trans t4.exS), by simpa using hP4⟩
        · have := r4.wipe vs hv
          rw [e3] at this; exact this
        · have := ((T2.trans t3).trans t4).trans (Tr.wipe vs)
          rw [e3] at this; exact this
        · intro h
          have hh : Owned (wipe σ3 vs) (wipeS ρ4 vs) Dd := by rw [e3]; exact h
          exact ((Tr.wipe (σ := σ3) (H := H4) (S := S4) (ρ := ρ4) vs).owned Dd hh).elim m3 fun z => by rw [m1] at z; cases z
    · have hl : ds.length ≤ i := Nat.le_of_not_lt hlt
      rw [List.drop_eq_nil_of_le hl] at w
      have r2 := Rel.unwipe (wipe_length σ vs) same hv r'
      have t2 := Tr.unwipe same t'
      refine .inl ⟨stop hl, k _ H' S' _ _ w r2 (t1.trans t2) ⟨Dd, _, rfl, .inl (t1.dom Dd hD), hSd, fun h => ?_, hDd, hacc⟩⟩
      exact (t2.owned Dd h).elim (fun ⟨j, d, h1, h2⟩ => by
        obtain ⟨q, u, e1, e2, e3, e4⟩ := r1.own j d h1
        rw [h2] at e1
        cases e1
        rw [hD] at e3
        cases e3) fun z => by
        obtain ⟨j, d, h1, h2⟩ := h
        have hj : j ∉ vs := fun z => by have := wipeS_get z _ h1; cases this
        exact nOd ⟨j, d, h1, by rw [same j hj]; exact h2⟩
theorem notin_of {fi vs : List Nat} (h : vs.all (fun i => !fi.contains i) = true) : ∀ i ∈ vs, i ∉ fi := fun i hi z => by
  have := List.all_eq_true.mp h i hi
  rw [List.contains_iff_mem.mpr z] at this
  cases this
theorem allin_of {ws vs : List Nat} (h : ws.all (fun i => vs.contains i) = true) : ∀ i ∈ ws, i ∈ vs := fun i hi => List.contains_iff_mem.mp (List.all_eq_true.mp h i hi)
abbrev Blk (X : Cx) (s : Shared) (H : Hp) (scope : Scope) (cl : List (Str × Addr)) (C : Addr) (fp : List Addr) : Cx := X.blk s H scope (compEnvC scope cl C X.env) fp
theorem pf_lc {scope : Scope} (own : List (Str × Nat)) {ws : List Nat} (hN : X.N.Nodup) (hi : PID X fi fa tg iter fit) (ok : BlkOk X.N X.env.scope scope own)
    (hg : ∀ (s : Shared) (H : Hp) (C : Addr) (cl : List (Str × Addr)) (fp : List Addr), PGD (Blk X s H scope cl C fp) fi fa tg ws g)
    (ht : ∀ (s : Shared) (H : Hp) (C : Addr) (cl : List (Str × Addr)) (fp : List Addr), PTsD (Blk X s H scope cl C fp) fi fa ifs ft)
    (he : ∀ (s : Shared) (H : Hp) (C : Addr) (cl : List (Str × Addr)) (fp : List Addr), PED (Blk X s H scope cl C fp) fi fa elt fe)
    (hc : X.calm = true := by rfl) (hs : ∀ x, foldedSetIterable iter X.env x = pure x := by intro _; rfl) (hv : (own.map (·.2)).all (fun i => !fi.contains i) = true := by rfl) (hw : ws.all (fun i => (own.map (·.2)).contains i) = true := by rfl) :
    PEF X fi fa (.ListComp elt [⟨tg, iter, ifs, 0⟩] scope pos) (fLc fit g ft fe (own.map (·.2))) := by
  obtain ⟨ti, p, oi⟩ := hi
  refine ⟨_, pe_lc (g := uG X.K fi fa ws g) (tt := uT X.K fi fa ft) (te := uE X.K fi fa fe) hc hN p ok (fun s H C cl fp => (hg s H C cl fp).uni) (fun s H C cl fp => (ht s H C cl fp).uni) (fun s H C cl fp => (he s H C cl fp).uni) hs, ?_⟩
  exact ok_lc oi (notin_of hv) (allin_of hw)
end
end DL

/-! DL5: defs and their calls. -/
namespace DL
open PySem PySem.Spec PyProof.Rows L2
variable [HW]

/-! ### promises by contents -/
/-- what a def is worth on the contents of its arguments -/
abbrev GD := List D → (D → Prop) → Prop
/-- a def that changes nothing -/
def spP (K : PySem.W.Frag) (n : Nat) (g : GD) : Sp := fun vs H Q _ => ∃ (S : Hp) (ds : List D) (P : D → Prop), ds.length = n ∧ Ex S H ∧ Dens K S vs ds ∧ g ds P ∧ ∀ v S' H' d, P d → Gr S H S' H' → Den K S' v d → Q v H'
/-- .. and hands back a new object -/
def spF (K : PySem.W.Frag) (n : Nat) (g : GD) : Sp := fun vs H Q _ => ∃ (S : Hp) (ds : List D) (P : D → Prop), ds.length = n ∧ Ex S H ∧ Dens K S vs ds ∧ g ds P ∧ ∀ p S' H' o d, P d → H p = none → Gr S H S' H' → S' p = none → H' p = some o → HOD K S' o d → Q (.ref p) H'
/-- a def whose first argument is an object that it changes -/
abbrev GI := D → List D → (D → D → Prop) → Prop
def spI (K : PySem.W.Frag) (n : Nat) (g : GI) : Sp := fun vs H Q _ => ∃ (S : Hp) (p : Addr) (ws : List V) (o : HO) (c : D) (ds : List D) (P : D → D → Prop), vs = .ref p :: ws ∧ ds.length = n ∧ Ex S H ∧ S p = none ∧ H p = some o ∧ HOD K S o c ∧ Dens K S ws ds ∧ g c ds P ∧
  ∀ v S' H' d c' o', P d c' → Ex S S' → Ex S' H' → (∀ a u, a ≠ p → H a = some u → H' a = some u) → (∀ a, S' a ≠ none → S a ≠ none ∨ H a = none ∨ ∃ xs, H a = some (.tup xs)) → H' p = some o' → S' p = none → HOD K S' o' c' → Den K S' v d → Q v H'

section
variable {X : Cx} {fi : List Nat} {fa : Nat → Addr} {e : Expr} {es : List Expr} {fs : FA} {pos p : Pos} {CX : CXT} {k n : Nat} {f : Addr} {fd : FuncData} {ps : List Str} {E : XK} {x : Str} {dvs : List V} {ds0 : List Value}
def fCallP (n : Nat) (g : GD) (fs : FA) : FE := fun ρ P => fs ρ fun ds ρ1 => ds.length = n ∧ g ds fun d => P d ρ1
theorem ok_callP {K : PySem.W.Frag} {g : GD} {ta : TA} (ha : OkA K fi fa ta fs) : OkE K fi fa (tCall (spP K n g) [] E ta) (fCallP n g fs) := fun σ H S ρ P Q r hf k => ha σ H S ρ _ _ r hf fun vs H1 S1 ds ρ1 hP r1 t1 hd => by
  refine ⟨S1, ds, _, hP.1, r1.ex, by rw [List.append_nil]; exact hd, hP.2, fun v S' H' d hp gr den => k v H' S' d ρ1 hp (r1.grow gr) (t1.trans gr.tr) den⟩
theorem ok_callF {K : PySem.W.Frag} {g : GD} {ta : TA} (ha : OkA K fi fa ta fs) : OkF K fi fa (tCall (spF K n g) [] E ta) (fCallP n g fs) := fun σ H S ρ P Q r hf k => ha σ H S ρ _ _ r hf fun vs H1 S1 ds ρ1 hP r1 t1 hd => by
  refine ⟨S1, ds, _, hP.1, r1.ex, by rw [List.append_nil]; exact hd, hP.2, fun p S' H' o d hp h0 gr hs ho hod => k _ H' S' d ρ1 hp (r1.grow gr) (t1.trans gr.tr) (fresh_of (H1 := H1) r1 t1 h0 S' H' hs ho hod)⟩
theorem pd_call {g : GD} (F : FnOk X.prog X.w X.K X.mg X.base CX k f fd ps (spP X.K n g)) (hr : Room k X.A) (hg : Gl X x) (hm : X.mg x = some (.ref f)) (hk : PySem.W.keepIn X.K (.ref f) = true) (hb : Binds X.K fd ps []) (hx : Passes CX X E)
    (ha : PAD X fi fa (e :: es) fs) (hdb : (x == ("__debug__" : Str)) = false := by decide) (he : starEach (e :: es) X.env = (false, eval e X.env) :: starEach es X.env := by rfl) (hpl : (backTo pos (starEach es X.env)).any (·.1) = false := by rfl) :
    PED X fi fa (.Call (.Name x p) (e :: es) [] pos) (fCallP n g fs) := by
  obtain ⟨t, q, ok⟩ := ha
  exact ⟨_, pe_call F hr hg hm hk hb .nil hx q hdb he hpl, ok_callP ok⟩
theorem pf_call {g : GD} (F : FnOk X.prog X.w X.K X.mg X.base CX k f fd ps (spF X.K n g)) (hr : Room k X.A) (hg : Gl X x) (hm : X.mg x = some (.ref f)) (hk : PySem.W.keepIn X.K (.ref f) = true) (hb : Binds X.K fd ps []) (hx : Passes CX X E)
    (ha : PAD X fi fa (e :: es) fs) (hdb : (x == ("__debug__" : Str)) = false := by decide) (he : starEach (e :: es) X.env = (false, eval e X.env) :: starEach es X.env := by rfl) (hpl : (backTo pos (starEach es X.env)).any (·.1) = false := by rfl) :
    PEF X fi fa (.Call (.Name x p) (e :: es) [] pos) (fCallP n g fs) := by
  obtain ⟨t, q, ok⟩ := ha
  exact ⟨_, pe_call F hr hg hm hk hb .nil hx q hdb he hpl, ok_callF ok⟩
/-- f(x, ..), x a name whose object f changes -/
def ownD (ρ : List Sl) (i : Nat) (P : D → Prop) : Prop := match ρ[i]? with
  | some (.own c) => P c
  | _ => False
theorem ownD_inv {ρ : List Sl} {i : Nat} {P : D → Prop} (h : ownD ρ i P) : ∃ c, ρ[i]? = some (.own c) ∧ P c := by
  unfold ownD at h
  split at h
  · exact ⟨_, by assumption, h⟩
  · exact h.elim
def fCallI (i n : Nat) (g : GI) (fs : FA) : FE := fun ρ P => ownD ρ i fun _ => fs ρ fun ds ρ1 => ds.length = n ∧ ownD ρ1 i fun c => g c ds fun d c' => P d (ρ1.set i (.own c'))
theorem ok_callI {K : PySem.W.Frag} {g : GI} {ta : TA} {i : Nat} (ha : OkA K fi fa ta fs) : OkE K fi fa (tCall (spI K n g) [] E (tCons (tVar i) ta)) (fCallI i n g fs) := fun σ H S ρ P Q r hf k => by
  obtain ⟨c0, h0, hf⟩ := ownD_inv hf
  obtain ⟨p, o, e1, e2, e3, e4⟩ := r.own i c0 h0
  refine ⟨_, e1, ha σ H S ρ _ _ r hf fun vs H1 S1 ds ρ1 hP r1 t1 hd => ?_⟩
  obtain ⟨hn, hP⟩ := hP
  obtain ⟨c, h1, hP⟩ := ownD_inv hP
  obtain ⟨p', o', q1, q2, q3, q4⟩ := r1.own i c h1
  rw [e1] at q1
  cases q1
  refine ⟨S1, p, vs, o', c, ds, _, by rw [List.append_nil], hn, r1.ex, q2, q3, q4, hd, hP, fun v S' H' d c' o2 hp exS exH keep new hp' hs' hod den => ?_⟩
  have T : Tr σ H1 S1 ρ1 σ H' S' (ρ1.set i (.own c')) := by
    refine ⟨exS, fun a u ha no => keep a u (fun z => by subst z; exact no ⟨i, c, h1, e1⟩) ha, fun a ⟨j, e, g1, g2⟩ => ?_, fun a ha => ?_, fun a ha => ?_⟩
    · by_cases hj : j = i
      · subst hj; exact .inl ⟨j, c, h1, g2⟩
      · rw [get_set_ne hj] at g1; exact .inl ⟨j, e, g1, g2⟩
    · rcases new a ha with z | z | z
      · exact .inl z
      · exact .inr (.inl z)
      · exact .inr (.inr (.inr z))
    · by_cases hap : a = p
      · subst hap; rw [hp'] at ha; cases ha
      · cases z : H1 a with
        | none => rfl
        | some u => rw [keep a u hap z] at ha; cases ha
  have R : Rel K fi fa σ H' S' (ρ1.set i (.own c')) := by
    refine ⟨exH, by rw [List.length_set]; exact r1.len, fun j e h => ?_, fun j e h => ?_, fun j l e1' e2' q g1 g2 g3 g4 => ?_, r1.fix⟩
    · have hj : j ≠ i := fun z => by subst z; have := get_set_eq h; cases this
      rw [get_set_ne hj] at h
      obtain ⟨w, w1, w2⟩ := r1.val j e h
      exact ⟨w, w1, w2.mono exS⟩
    · by_cases hj : j = i
      · subst hj
        have := get_set_eq h
        cases this
        exact ⟨p, o2, e1, hs', hp', hod⟩
      · rw [get_set_ne hj] at h
        obtain ⟨q, u, w1, w2, w3, w4⟩ := r1.own j e h
        have hqp : q ≠ p := fun z => hj (r1.dis j i e c p h h1 (by rw [w1, z]) e1)
        refine ⟨q, u, w1, ?_, keep q u hqp w3, w4.mono exS⟩
        cases z : S' q with
        | none => rfl
        | some y =>
          rcases new q (by rw [z]; intro hh; cases hh) with y1 | y1 | ⟨xs, y1⟩
          · exact absurd w2 y1
          · rw [w3] at y1; cases y1
          · rw [w3] at y1; cases y1; exact w4.notup.elim
    · have o1 : ∃ e', ρ1[j]? = some (.own e') := by
        by_cases hj : j = i
        · subst hj; exact ⟨c, h1⟩
        · rw [get_set_ne hj] at g1; exact ⟨e1', g1⟩
      have o2 : ∃ e', ρ1[l]? = some (.own e') := by
        by_cases hl : l = i
        · subst hl; exact ⟨c, h1⟩
        · rw [get_set_ne hl] at g2; exact ⟨e2', g2⟩
      obtain ⟨f1, y1⟩ := o1
      obtain ⟨f2, y2⟩ := o2
      exact r1.dis j l f1 f2 q y1 y2 g3 g4
  exact k v H' S' d _ hp R (t1.trans T) den
theorem pd_callI (i : Nat) {g : GI} {y : Str} {py : Pos} (F : FnOk X.prog X.w X.K X.mg X.base CX k f fd ps (spI X.K n g)) (hr : Room k X.A) (hg : Gl X x) (hm : X.mg x = some (.ref f)) (hk : PySem.W.keepIn X.K (.ref f) = true) (hb : Binds X.K fd ps []) (hx : Passes CX X E)
    (ha : PAD X fi fa es fs) (hN : X.N[i]? = some y := by rfl) (hv : Vis X.env.scope y := by first | exact Or.inl rfl | exact Or.inr (Or.inl rfl) | exact Or.inr (Or.inr rfl)) (hd : (y == ("__debug__" : Str)) = false := by decide)
    (hcd : (y == ("__classdict__" : Str)) = false := by decide) (hs : starEach (Expr.Name y py :: es) X.env = (false, eval (Expr.Name y py) X.env) :: starEach es X.env := by rfl)
    (hdb : (x == ("__debug__" : Str)) = false := by decide) (hpl : (backTo pos (starEach es X.env)).any (·.1) = false := by rfl) :
    PED X fi fa (.Call (.Name x p) (.Name y py :: es) [] pos) (fCallI i n g fs) := by
  obtain ⟨t, q, ok⟩ := ha
  exact ⟨_, pe_call F hr hg hm hk hb .nil hx (pa_cons (pv i hN hv hd hcd) q hs) hdb hs hpl, ok_callI ok⟩
end

/-! ### defs -/
section
variable {P : Program} {w : World} {K : PySem.W.Frag} {mg : Str → Option Value} {base : Heap} {x qual : Str} {st : Stmt} {f : Addr} {fd : FuncData} {N ps : List Str} {k : Nat}
theorem start_get {vs : List V} {i : Nat} {v : V} (h : vs[i]? = some v) : (L2.start N vs)[i]? = some (some v) := by
  unfold L2.start
  have hl : i < vs.length := (List.getElem?_eq_some_iff.mp h).1
  rw [List.getElem?_append_left (by rw [List.length_map]; exact hl), List.getElem?_map, h]
  rfl
theorem start_len {vs : List V} (h : vs.length ≤ N.length) : (L2.start N vs).length = N.length := by
  unfold L2.start
  rw [List.length_append, List.length_map, List.length_replicate]
  omega
/-- the slots at a def's entry -/
def sl0 (m : Nat) (ds : List D) : List Sl := ds.map Sl.val ++ List.replicate m .non
def slI (m : Nat) (c : D) (ds : List D) : List Sl := .own c :: (ds.map Sl.val ++ List.replicate m .non)
theorem sl0_val {m i : Nat} {ds : List D} {s : Sl} (h : (sl0 m ds)[i]? = some s) : (∃ d, s = .val d ∧ ds[i]? = some d) ∨ s = .non := by
  unfold sl0 at h
  by_cases hi : i < ds.length
  · rw [List.getElem?_append_left (by rw [List.length_map]; exact hi), List.getElem?_map] at h
    cases q : ds[i]? with
    | none => rw [q] at h; cases h
    | some d => rw [q] at h; cases h; exact .inl ⟨d, rfl, rfl⟩
  · rw [List.getElem?_append_right (by rw [List.length_map]; omega), List.getElem?_replicate] at h
    split at h
    · cases h; exact .inr rfl
    · cases h
theorem rel_start {H S : Hp} {vs : List V} {ds : List D} {fa : Nat → Addr} (e : Ex S H) (hd : Dens K S vs ds) (hl : ds.length ≤ N.length) : Rel K [] fa (L2.start N vs) H S (sl0 (N.length - ds.length) ds) where
  ex := e
  len := by
    rw [start_len (by rw [hd.length]; exact hl)]
    unfold sl0
    rw [List.length_append, List.length_map, List.length_replicate]
    omega
  val := fun i d h => by
    rcases sl0_val h with ⟨d', e1, e2⟩ | e1
    · cases e1
      obtain ⟨v, h1, h2⟩ := hd.get e2
      exact ⟨v, start_get h1, h2⟩
    · cases e1
  own := fun i d h => by
    rcases sl0_val h with ⟨d', e1, e2⟩ | e1 <;> cases e1
  dis := fun i j d e p h => by
    rcases sl0_val h with ⟨d', e1, e2⟩ | e1 <;> cases e1
  fix := fun i hi => nomatch hi
theorem slI_own {m i : Nat} {c : D} {ds : List D} {d : D} (h : (slI m c ds)[i]? = some (.own d)) : i = 0 ∧ d = c := by
  cases i with
  | zero => cases h; exact ⟨rfl, rfl⟩
  | succ i =>
    have h' : (sl0 m ds)[i]? = some (.own d) := h
    rcases sl0_val h' with ⟨d', e1, e2⟩ | e1 <;> cases e1
theorem rel_startI {H S : Hp} {p : Addr} {o : HO} {c : D} {vs : List V} {ds : List D} (e : Ex S H) (hs : S p = none) (hp : H p = some o) (ho : HOD K S o c) (hd : Dens K S vs ds) (hl : ds.length + 1 ≤ N.length) : Rel K [0] (fun _ => p) (L2.start N (.ref p :: vs)) H S (slI (N.length - (ds.length + 1)) c ds) where
  ex := e
  len := by
    rw [start_len (by rw [List.length_cons, hd.length]; exact hl)]
    unfold slI
    rw [List.length_cons, List.length_append, List.length_map, List.length_replicate]
    omega
  val := fun i d h => by
    cases i with
    | zero => cases h
    | succ i =>
      have h' : (sl0 (N.length - (ds.length + 1)) ds)[i]? = some (.val d) := h
      rcases sl0_val h' with ⟨d', e1, e2⟩ | e1
      · cases e1
        obtain ⟨v, h1, h2⟩ := hd.get e2
        exact ⟨v, start_get (by simpa using h1), h2⟩
      · cases e1
  own := fun i d h => by
    obtain ⟨rfl, rfl⟩ := slI_own h
    exact ⟨p, o, start_get rfl, hs, hp, ho⟩
  dis := fun i j d e q h1 h2 _ _ => by
    obtain ⟨rfl, _⟩ := slI_own h1
    obtain ⟨rfl, _⟩ := slI_own h2
    rfl
  fix := fun i hi => by
    have : i = 0 := by simpa using hi
    subst this
    exact start_get rfl
/-- what a body's end hands back -/
def retP (P : D → Prop) : Fl → Prop
  | .nx _ => P .non
  | .rt d _ => P d
  | .rf d _ => P d
  | _ => False
def retF (P : D → Prop) : Fl → Prop
  | .rf d _ => P d
  | _ => False
def retI (P : D → D → Prop) : Fl → Prop
  | .nx ρ => ownD ρ 0 fun c => P .non c
  | .rt d ρ => ownD ρ 0 fun c => P d c
  | .rf d ρ => ownD ρ 0 fun c => P d c
  | _ => False
theorem noOwn0 {σ : L2.St} {m : Nat} {ds : List D} {a : Addr} (h : Owned σ (sl0 m ds) a) : False := by
  obtain ⟨i, d, h, _⟩ := h
  rcases sl0_val h with ⟨d', e1, e2⟩ | e1 <;> cases e1
theorem Tr.gr {σ σ' : L2.St} {H S H' S' : Hp} {m : Nat} {ds : List D} {ρ' : List Sl} (t : Tr σ H S (sl0 m ds) σ' H' S' ρ') (e : Ex S' H') : Gr S H S' H' :=
  ⟨t.exS, fun a o h => t.keep a o h noOwn0, e, fun a h => (t.new a h).imp id fun z => z.imp id fun z => z.resolve_left noOwn0⟩
theorem take_gr {S H S' H' : Hp} {p : Addr} {o : HO} (g : Gr S H S' H') (h0 : H p = none) (hs : S' p = none) (hp : H' p = some o) : Gr S H (upd S' p o) H' :=
  ⟨g.s.trans (Ex.new hs), g.h, fun a u h => by
    by_cases ha : a = p
    · subst ha; rw [upd_same] at h; cases h; exact hp
    · rw [upd_ne ha] at h; exact g.sh a u h, fun a h => by
    by_cases ha : a = p
    · subst ha; exact .inr (.inl h0)
    · rw [upd_ne ha] at h; exact g.new a h⟩
/-- THE RULE for a def that changes nothing -/
theorem fn_pure (F : Fun K x qual st f fd) (S : FnScope N ps (defScope st)) (g : GD) (hn : ps.length ≤ N.length := by decide)
    (hb : ∀ (cdv : Value) (A : Around) (outer : List Env) (s : Shared) (H : Hp) (E : XK), Room k (A.deeper (envOfC qual (defScope st) s.heap.objs.size f cdv)) →
      ∃ B, PSsD (cxOf CX0 P w K mg base N qual (defScope st) f cdv A outer s H E).nox [] (fun _ => 0) (defBody st) B ∧ ∀ ds Pd, ds.length = ps.length → g ds Pd → B (sl0 (N.length - ps.length) ds) (retP Pd)) :
    FnOk P w K mg base CX0 (k + 1) f fd ps (spP K ps.length g) := by
  refine F.ok S (fun vs H Q E h => ?_) (fun cdv A outer s H vs Q E hr h => ?_)
  · obtain ⟨S, ds, Pd, hl, _, hd, _⟩ := h
    rw [hd.length, hl]
  · obtain ⟨S0, ds, Pd, hl, hex, hd, hg, k⟩ := h
    obtain ⟨B, ⟨t, pt, ok⟩, hB⟩ := hb cdv A outer s H E hr
    refine ⟨t, pt, ok _ H S0 _ (retP Pd) _ (rel_start (fa := fun _ => 0) hex hd (by rw [hl]; exact hn)) (by rw [hl]; exact hB ds Pd hl hg) ⟨?_, ?_, ?_, ?_, ?_⟩⟩
    · exact fun σ' H' S' ρ' hP r' t' => k .non S' H' .non hP (t'.gr r'.ex) .non
    · exact fun σ' H' S' ρ' hP r' t' => hP.elim
    · exact fun σ' H' S' ρ' hP r' t' => hP.elim
    · exact fun v d σ' H' S' ρ' hP r' t' den => k v S' H' d hP (t'.gr r'.ex) den
    · rintro v d σ' H' S' ρ' hP r' t' ⟨p, o, rfl, h0, hs, no, hp, hod⟩
      exact k _ _ H' d hP (take_gr (t'.gr r'.ex) (h0.resolve_right noOwn0) hs hp) ((hod.mono (Ex.new hs)).den upd_same)
theorem fn_fresh (F : Fun K x qual st f fd) (S : FnScope N ps (defScope st)) (g : GD) (hn : ps.length ≤ N.length := by decide)
    (hb : ∀ (cdv : Value) (A : Around) (outer : List Env) (s : Shared) (H : Hp) (E : XK), Room k (A.deeper (envOfC qual (defScope st) s.heap.objs.size f cdv)) →
      ∃ B, PSsD (cxOf CX0 P w K mg base N qual (defScope st) f cdv A outer s H E).nox [] (fun _ => 0) (defBody st) B ∧ ∀ ds Pd, ds.length = ps.length → g ds Pd → B (sl0 (N.length - ps.length) ds) (retF Pd)) :
    FnOk P w K mg base CX0 (k + 1) f fd ps (spF K ps.length g) := by
  refine F.ok S (fun vs H Q E h => ?_) (fun cdv A outer s H vs Q E hr h => ?_)
  · obtain ⟨S, ds, Pd, hl, _, hd, _⟩ := h
    rw [hd.length, hl]
  · obtain ⟨S0, ds, Pd, hl, hex, hd, hg, k⟩ := h
    obtain ⟨B, ⟨t, pt, ok⟩, hB⟩ := hb cdv A outer s H E hr
    refine ⟨t, pt, ok _ H S0 _ (retF Pd) _ (rel_start (fa := fun _ => 0) hex hd (by rw [hl]; exact hn)) (by rw [hl]; exact hB ds Pd hl hg) ⟨?_, ?_, ?_, ?_, ?_⟩⟩
    · exact fun σ' H' S' ρ' hP r' t' => hP.elim
    · exact fun σ' H' S' ρ' hP r' t' => hP.elim
    · exact fun σ' H' S' ρ' hP r' t' => hP.elim
    · exact fun v d σ' H' S' ρ' hP r' t' den => hP.elim
    · rintro v d σ' H' S' ρ' hP r' t' ⟨p, o, rfl, h0, hs, no, hp, hod⟩
      exact k p S' H' o d hP (h0.resolve_right noOwn0) (t'.gr r'.ex) hs hp hod
theorem fn_io (F : Fun K x qual st f fd) (S : FnScope N ps (defScope st)) (n : Nat) (g : GI) (hps : ps.length = n + 1 := by rfl) (hn : n + 1 ≤ N.length := by decide)
    (hb : ∀ (cdv : Value) (A : Around) (outer : List Env) (s : Shared) (H : Hp) (E : XK) (p : Addr), Room k (A.deeper (envOfC qual (defScope st) s.heap.objs.size f cdv)) →
      ∃ B, PSsD (cxOf CX0 P w K mg base N qual (defScope st) f cdv A outer s H E).nox [0] (fun _ => p) (defBody st) B ∧ ∀ c ds Pd, ds.length = n → g c ds Pd → B (slI (N.length - (n + 1)) c ds) (retI Pd)) :
    FnOk P w K mg base CX0 (k + 1) f fd ps (spI K n g) := by
  refine F.ok S (fun vs H Q E h => ?_) (fun cdv A outer s H vs Q E hr h => ?_)
  · obtain ⟨S, p, ws, o, c, ds, Pd, rfl, hl, _, _, _, _, hd, _⟩ := h
    rw [List.length_cons, hd.length, hl, hps]
  · obtain ⟨S0, p, ws, o, c, ds, Pd, rfl, hl, hex, hs, hp, ho, hd, hg, k⟩ := h
    obtain ⟨B, ⟨t, pt, ok⟩, hB⟩ := hb cdv A outer s H E p hr
    have r0 : Rel K [0] (fun _ => p) (L2.start N (.ref p :: ws)) H S0 (slI (N.length - (n + 1)) c ds) := by
      have := rel_startI (N := N) hex hs hp ho hd (by rw [hl]; exact hn)
      rw [hl] at this; exact this
    have onl : ∀ a, Owned (L2.start N (.ref p :: ws)) (slI (N.length - (n + 1)) c ds) a → a = p := fun a ⟨i, d, h1, h2⟩ => by
      obtain ⟨rfl, rfl⟩ := slI_own h1
      rw [start_get (vs := .ref p :: ws) rfl] at h2
      cases h2; rfl
    have fin : ∀ (σ' : L2.St) (H' S' : Hp) (ρ' : List Sl) (v : V) (d c' : D), ρ'[0]? = some (.own c') → Pd d c' → Rel K [0] (fun _ => p) σ' H' S' ρ' → Tr (L2.start N (.ref p :: ws)) H S0 (slI (N.length - (n + 1)) c ds) σ' H' S' ρ' →
        Den K S' v d → Q v H' := fun σ' H' S' ρ' v d c' h0 hP r' t' den => by
      obtain ⟨q, o', e1, e2, e3, e4⟩ := r'.own 0 c' h0
      have := r'.fix 0 (by simp)
      rw [e1] at this
      cases this
      refine k v S' H' d c' o' hP t'.exS r'.ex (fun a u ha h => t'.keep a u h fun z => ha (onl a z)) (fun a ha => ?_) e3 e2 e4 den
      rcases t'.new a ha with z | z | z | z
      · exact .inl z
      · exact .inr (.inl z)
      · have := onl a z
        subst this
        exact absurd e2 ha
      · exact .inr (.inr z)
    refine ⟨t, pt, ok _ H S0 _ (retI Pd) _ r0 (hB c ds Pd hl hg) ⟨?_, ?_, ?_, ?_, ?_⟩⟩
    · intro σ' H' S' ρ' hP r' t'
      obtain ⟨c', h0, hP⟩ := ownD_inv hP
      exact fin σ' H' S' ρ' _ _ c' h0 hP r' t' .non
    · exact fun σ' H' S' ρ' hP r' t' => hP.elim
    · exact fun σ' H' S' ρ' hP r' t' => hP.elim
    · intro v d σ' H' S' ρ' hP r' t' den
      obtain ⟨c', h0, hP⟩ := ownD_inv hP
      exact fin σ' H' S' ρ' v d c' h0 hP r' t' den
    · rintro v d σ' H' S' ρ' hP r' t' ⟨q, o', rfl, z0, zs, no, zp, hod⟩
      obtain ⟨c', h0, hP⟩ := ownD_inv hP
      exact fin σ' H' _ ρ' _ d c' h0 hP (r'.take zp zs no) (t'.takeNew (K := K) z0 zs) ((hod.mono (Ex.new zs)).den upd_same)
end
end DL

/-! DL6: operators, subscripts, built-ins by contents. -/
namespace DL
open PySem PySem.Spec PyProof.Rows L2
variable [HW]

section
variable {X : Cx} {fi : List Nat} {fa : Nat → Addr} {e a b : Expr} {f fx fy : FE} {pos : Pos}

/-! ### arithmetic -/
def gAdd (x y : D) (P : D → Prop) : Prop := match x, y with
  | .int i, .int j => P (.int (i + j))
  | .tup xs, .tup ys => xs.length + ys.length ≤ 100000 ∧ P (.tup (xs ++ ys))
  | .lst xs, .lst ys => xs.length + ys.length ≤ 100000 ∧ P (.lst (xs ++ ys))
  | .str s, .str t => s.length + t.length ≤ 100000 ∧ P (.str (s ++ t))
  | _, _ => False
theorem od_add : OpD X (binaryOp .Add) gAdd := by
  refine ⟨_, OpR.or op_add (OpR.or op_catA (OpR.or op_cat op_add_str)), fun x y dx dy S H P Q ex hx hy hg k => ?_⟩
  unfold gAdd at hg
  split at hg
  · rw [den_int hx, den_int hy]
    exact .inl ⟨_, _, rfl, rfl, k _ S H _ hg (Gr.refl ex) (.int _)⟩
  · obtain ⟨p, xs, rfl, h1, h2⟩ := den_tup hx
    obtain ⟨q, ys, rfl, h3, h4⟩ := den_tup hy
    refine .inr (.inl ⟨p, q, xs, ys, rfl, rfl, SqT.of (ex _ _ h1), SqT.of (ex _ _ h3), sz_of (by rw [h2.length, h4.length]; exact hg.1), fun e => ?_, fun n e => ?_, fun n m t ht => ?_⟩)
    · subst e
      cases h2
      exact k _ S H _ hg.2 (Gr.refl ex) (.tup h3 h4)
    · subst e
      cases h4
      rw [List.append_nil] at hg
      exact k _ S H _ hg.2 (Gr.refl ex) (.tup h1 h2)
    · have g := Gr.one (o := .tup (xs ++ ys)) ex ht
      exact k _ _ _ _ hg.2 g (.tup upd_same ((h2.append h4).mono g.s))
  · obtain ⟨p, xs, rfl, h1, h2⟩ := den_lst hx
    obtain ⟨q, ys, rfl, h3, h4⟩ := den_lst hy
    refine .inr (.inr (.inl ⟨p, q, xs, ys, rfl, rfl, ex _ _ h1, ex _ _ h3, sz_of (by rw [h2.length, h4.length]; exact hg.1), fun t ht => ?_⟩))
    have g := Gr.one (o := .lst (xs ++ ys)) ex ht
    exact k _ _ _ _ hg.2 g (.lst upd_same ((h2.append h4).mono g.s))
  · rw [den_str hx, den_str hy]
    exact .inr (.inr (.inr ⟨_, _, rfl, rfl, sz_of hg.1, k _ S H _ hg.2 (Gr.refl ex) (.str _)⟩))
  · exact hg.elim
def gI (C : Int → Int → Prop) (h : Int → Int → D) (x y : D) (P : D → Prop) : Prop := match x, y with
  | .int i, .int j => C i j ∧ P (h i j)
  | _, _ => False
theorem od_int {o : Value → Value → Sem Value} {C : Int → Int → Prop} {h : Int → Int → Int} (ho : OpR X o (rI C fun i j => .int (h i j))) : OpD X o (gI C fun i j => .int (h i j)) := by
  refine ⟨_, ho, fun x y dx dy S H P Q ex hx hy hg k => ?_⟩
  unfold gI at hg
  split at hg
  · rw [den_int hx, den_int hy]
    exact ⟨_, _, rfl, rfl, hg.1, k _ S H _ hg.2 (Gr.refl ex) (.int _)⟩
  · exact hg.elim
theorem op_subC : OpR X (binaryOp .Sub) (rI (fun _ _ => True) fun i j => .int (i - j)) := fun pins s σ H x y v u Q I rx ry ⟨i, j, e1, e2, _, q⟩ => op_sub pins s σ H x y v u Q I rx ry ⟨i, j, e1, e2, q⟩
abbrev gSub := gI (fun _ _ => True) fun i j => .int (i - j)
abbrev gMod := gI (fun _ j => 0 < j) fun i j => .int (i % j)
abbrev gDiv := gI CDivW fun i j => .int (i / j)
abbrev gPow := gI CPow fun i j => .int (i ^ j.toNat)
theorem od_sub : OpD X (binaryOp .Sub) gSub := od_int op_subC
theorem od_mod : OpD X (binaryOp .Mod) gMod := od_int op_mod
theorem od_div : OpD X (binaryOp .FloorDiv) gDiv := od_int op_fdivW
theorem od_pow : OpD X (binaryOp .Pow) gPow := od_int op_pow
/-- products of ints; a tuple taken many times -/
theorem tuple_one (l : Addr) (items : Array Value) (n : Nat) (dd : Option Addr) (sl : Array (Option Value)) (u : Tok) :
    Meets (Builtin.«tuple.__mul__» ⟨[.ref l, .int 1 u], []⟩) (fun _ R s => s.heap.get? l = some { cls := .type "tuple", dict := dd, data := .seq items n, slots := sl } ∧ R (.ok (.ret (Value.ref l))) s) :=
  .of_wp fun prog w A R s h => by
    obtain ⟨hp, g, d, tk, os⟩ := s
    obtain ⟨hl, h⟩ := h
    have f1 := AutoSeq1.idx_int
    have c0 : (decide ((1 : Int) < -(2 ^ 63)) || decide ((1 : Int) ≥ 2 ^ 63)) = false := by decide
    have c1 : (items.isEmpty || (1 : Int) == 1) = true := by rw [show ((1 : Int) == 1) = true from rfl, Bool.or_true]
    wp_walk using wpAny_loadPart' hl
    repeat (first
      | (refine wpAny_ite_false (decide_eq_false (by rw [c0]; exact Bool.false_ne_true)) ?_; wp_walk using wpAny_loadPart' hl)
      | (refine wpAny_ite_true (decide_eq_true (by rw [c1])) ?_; wp_walk using wpAny_loadPart' hl))
    exact ⟨_, rfl, h⟩
theorem op_one : OpR X (binaryOp .Mult) (fun x y H Q => ∃ l xs, x = .ref l ∧ y = .int 1 ∧ SqT X.K H l xs ∧ Q (.ref l) H) := by
  intro pins s σ H x y v u Q I rx ry h
  obtain ⟨l, xs, rfl, rfl, hT, q⟩ := h
  cases rx
  obtain ⟨t, rfl⟩ := ry
  obtain ⟨its, r, ⟨⟨cls, dd, data, sl⟩, ho, hc, n, hd⟩, hs⟩ := I.tuple hT
  simp only at hc hd
  subst hc hd
  exact wpAny_binaryOp_repeat_ref (T := "tuple") (U := "int") (by decide) ⟨_, ho, rfl⟩ (fun s' => typeIs_int s' 1 t) noFill_tuple_mul F.fills_int_mul F.slot_int_rmul repeat_tuple F.slot_int_index.lookup
    (call_meets F.slot_int_rmul (typeIs_int s 1 t) F.entry_int_rmul (F.args_int_rmul_2 _ _) (int_rmul_tuple 1 t l its.toArray n dd sl)
      ⟨ho, rfl, ⟨_, ho, rfl⟩, call_meets F.slot_tuple_mul ⟨_, ho, rfl⟩ F.entry_tuple_mul (F.args_tuple_mul_2 _ _) (tuple_one l its.toArray n dd sl t) ⟨ho, ⟨.ref l, H, I, rfl, q⟩⟩⟩)
theorem op_strmul : OpR X (binaryOp .Mult) (fun x y H Q => ∃ s k, x = .str s ∧ y = .int k ∧ s.length ≤ 16 ∧ 0 ≤ k ∧ k ≤ 1000 ∧ Q (.str (PySem.Txt.mul s k)) H) := by
  intro pins s σ H x y v u Q I rx ry h
  obtain ⟨z, k, rfl, rfl, h1, h2, h3, q⟩ := h
  obtain ⟨t, rfl⟩ := rx
  obtain ⟨t', rfl⟩ := ry
  exact PySem.W.KXi.mul rfl h1 (by omega) (by omega) fun t2 k2 _ _ => ⟨.str _, H, I.tok k2, ⟨_, rfl⟩, q⟩
def gMul (x y : D) (P : D → Prop) : Prop := match x, y with
  | .int i, .int j => (CMul i j ∨ CMulW i j) ∧ P (.int (i * j))
  | .tup xs, .int k => xs ≠ [] ∧ 1 ≤ k ∧ k ≤ 1000 ∧ xs.length ≤ 100 ∧ P (.tup (List.replicate k.toNat xs).flatten)
  | .lst xs, .int k => 0 ≤ k ∧ k ≤ 1000 ∧ xs.length ≤ 100 ∧ P (.lst (List.replicate k.toNat xs).flatten)
  | .str s, .int k => s.length ≤ 16 ∧ 0 ≤ k ∧ k ≤ 1000 ∧ P (.str (PySem.Txt.mul s k))
  | _, _ => False
theorem dens_rep {K : PySem.W.Frag} {S : Hp} {vs : List V} {ds : List D} (h : Dens K S vs ds) : ∀ n : Nat, Dens K S (List.replicate n vs).flatten (List.replicate n ds).flatten
  | 0 => .nil
  | n + 1 => by
    rw [List.replicate_succ, List.replicate_succ, List.flatten_cons, List.flatten_cons]
    exact h.append (dens_rep h n)
theorem od_mul : OpD X (binaryOp .Mult) gMul := by
  refine ⟨_, OpR.or op_mul (OpR.or op_mulW (OpR.or op_one (OpR.or op_repT (OpR.or op_rep op_strmul)))), fun x y dx dy S H P Q ex hx hy hg k => ?_⟩
  unfold gMul at hg
  split at hg
  · rw [den_int hx, den_int hy]
    rcases hg with ⟨c | c, hg⟩
    · exact .inl ⟨_, _, rfl, rfl, c, k _ S H _ hg (Gr.refl ex) (.int _)⟩
    · exact .inr (.inl ⟨_, _, rfl, rfl, c, k _ S H _ hg (Gr.refl ex) (.int _)⟩)
  · rename_i ds n
    obtain ⟨p, xs, rfl, h1, h2⟩ := den_tup hx
    rw [den_int hy]
    obtain ⟨g1, g2, g3, g4, g5⟩ := hg
    by_cases h : n = 1
    · subst h
      have e : (List.replicate (1 : Int).toNat ds).flatten = ds := by simp
      rw [e] at g5
      exact .inr (.inr (.inl ⟨p, xs, rfl, rfl, SqT.of (ex _ _ h1), k _ S H _ g5 (Gr.refl ex) (.tup h1 h2)⟩))
    · have hne : xs ≠ [] := fun z => g1 (by
        subst z
        cases h2
        rfl)
      refine .inr (.inr (.inr (.inl ⟨p, n, xs, rfl, rfl, SqT.of (ex _ _ h1), hne, by omega, g3, by rw [h2.length]; omega, fun t ht => ?_⟩)))
      have g := Gr.one (o := .tup (List.replicate n.toNat xs).flatten) ex ht
      exact k _ _ _ _ g5 g (.tup upd_same ((dens_rep h2 _).mono g.s))
  · rename_i ds n
    obtain ⟨p, xs, rfl, h1, h2⟩ := den_lst hx
    rw [den_int hy]
    obtain ⟨g1, g2, g3, g4⟩ := hg
    refine .inr (.inr (.inr (.inr (.inl ⟨p, n, xs, rfl, rfl, ex _ _ h1, by omega, by omega, ?_, fun t ht => ?_⟩))))
    · have : xs.length * n.toNat ≤ 100 * 1000 := Nat.mul_le_mul (by rw [h2.length]; exact g3) (by omega)
      exact sz_of (by omega)
    · have g := Gr.one (o := .lst (List.replicate n.toNat xs).flatten) ex ht
      exact k _ _ _ _ g4 g (.lst upd_same ((dens_rep h2 _).mono g.s))
  · rw [den_str hx, den_int hy]
    obtain ⟨g1, g2, g3, g4⟩ := hg
    exact .inr (.inr (.inr (.inr (.inr ⟨_, _, rfl, rfl, g1, g2, g3, k _ S H _ g4 (Gr.refl ex) (.str _)⟩))))
  · exact hg.elim
def gNeg (x : D) (P : D → Prop) : Prop := match x with
  | .int i => P (.int (-i))
  | _ => False
theorem ud_neg : UnD X (unaryOp .USub) gNeg := by
  refine ⟨_, un_neg, fun x dx S H P Q ex hx hg k => ?_⟩
  unfold gNeg at hg
  split at hg
  · rw [den_int hx]
    exact ⟨_, rfl, k _ S H _ hg (Gr.refl ex) (.int _)⟩
  · exact hg.elim

/-! ### data compared -/
mutual
def toP : D → PyData
  | .non => .none
  | .bl b => .bool b
  | .int i => .int i
  | .str s => .str s
  | .lst xs => .list (toPs xs)
  | .tup xs => .tuple (toPs xs)
  | _ => .dict []
def toPs : List D → List PyData
  | [] => []
  | x :: xs => toP x :: toPs xs
end
mutual
theorem den_dp {K : PySem.W.Frag} {H : Hp} : ∀ (d : D) (v : V), (toP d).plain = true → Den K H v d → Dp K H v (toP d)
  | .non, _, _, h => by cases h; exact .non
  | .bl b, _, _, h => by cases h; exact .bl b
  | .int i, _, _, h => by cases h; exact .int i
  | .str s, _, _, h => by cases h; exact .str s
  | .lst xs, _, p, h => by
    cases h with
    | lst h t => exact .lst (SqL.of h) (dens_dp xs _ p t)
  | .tup xs, _, p, h => by
    cases h with
    | tup h t => exact .tup (SqT.of h) (dens_dp xs _ p t)
  | .rol _, _, p, _ => nomatch p
  | .ty _, _, p, _ => nomatch p
  | .ref _, _, p, _ => nomatch p
  | .dT _ _, _, p, _ => nomatch p
  | .dK _ _, _, p, _ => nomatch p
  | .obj _ _ _, _, p, _ => nomatch p
  | .cls _, _, p, _ => nomatch p
theorem dens_dp {K : PySem.W.Frag} {H : Hp} : ∀ (ds : List D) (vs : List V), PyData.plainAll (toPs ds) = true → Dens K H vs ds → DpAll K H vs (toPs ds)
  | [], _, _, h => by cases h; exact .nil
  | d :: ds, _, p, h => by
    have p' : (toP d).plain = true ∧ PyData.plainAll (toPs ds) = true := by simpa [toPs, PyData.plainAll] using p
    cases h with
    | cons h1 h2 => exact .cons (den_dp d _ p'.1 h1) (dens_dp ds _ p'.2 h2)
end
def EqOk (x y : D) : Prop := (toP x).plain = true ∧ (toP y).plain = true ∧ ((toP x).depth ≤ 60 ∨ (toP y).depth ≤ 60)
def gEq (x y : D) (P : D → Prop) : Prop := EqOk x y ∧ P (.bl (PyData.eqv (toP x) (toP y)))
def gNe (x y : D) (P : D → Prop) : Prop := EqOk x y ∧ P (.bl (!PyData.eqv (toP x) (toP y)))
theorem room_min {A : Around} {a b : Nat} (h : a ≤ 60 ∨ b ≤ 60) (hu : A.units + 64 < cLine) : A.units + min a b < cLine := by
  have := Nat.min_le_left a b
  have := Nat.min_le_right a b
  omega
def rEqP (K : PySem.W.Frag) : R2 := fun x y H Q => ∃ d e, Dp K H x d ∧ Dp K H y e ∧ d.plain = true ∧ e.plain = true ∧ (d.depth ≤ 60 ∨ e.depth ≤ 60) ∧ Q (.bl (PyData.eqv d e)) H
def rNeP (K : PySem.W.Frag) : R2 := fun x y H Q => ∃ d e, Dp K H x d ∧ Dp K H y e ∧ d.plain = true ∧ e.plain = true ∧ (d.depth ≤ 60 ∨ e.depth ≤ 60) ∧ Q (.bl (!PyData.eqv d e)) H
theorem op_eqP (hu : X.A.units + 64 < cLine) : OpR X (compareOp .Eq) (rEqP X.K) := by
  intro pins s σ H x y v u Q I rx ry ⟨d, e, h1, h2, p1, p2, dep, q⟩
  obtain ⟨as, r1⟩ := Dp.reads I d x v h1 rx
  obtain ⟨bs, r2⟩ := Dp.reads I e y u h2 ry
  exact SeqAt.eq_plain r1 r2 p1 p2 (room_min dep hu) ⟨.bl _, H, I, rfl, q⟩
theorem op_neP (hu : X.A.units + 64 < cLine) : OpR X (compareOp .NotEq) (rNeP X.K) := by
  intro pins s σ H x y v u Q I rx ry ⟨d, e, h1, h2, p1, p2, dep, q⟩
  obtain ⟨as, r1⟩ := Dp.reads I d x v h1 rx
  obtain ⟨bs, r2⟩ := Dp.reads I e y u h2 ry
  exact SeqAt.ne_plain r1 r2 p1 p2 (room_min dep hu) ⟨.bl _, H, I, rfl, q⟩
theorem od_eq (hu : X.A.units + 64 < cLine) : OpD X (compareOp .Eq) gEq := ⟨_, op_eqP hu, fun x y dx dy S H P Q ex hx hy hg k =>
  ⟨_, _, den_dp dx x hg.1.1 (hx.mono ex), den_dp dy y hg.1.2.1 (hy.mono ex), hg.1.1, hg.1.2.1, hg.1.2.2, k _ S H _ hg.2 (Gr.refl ex) (.bl _)⟩⟩
theorem od_ne (hu : X.A.units + 64 < cLine) : OpD X (compareOp .NotEq) gNe := ⟨_, op_neP hu, fun x y dx dy S H P Q ex hx hy hg k =>
  ⟨_, _, den_dp dx x hg.1.1 (hx.mono ex), den_dp dy y hg.1.2.1 (hy.mono ex), hg.1.1, hg.1.2.1, hg.1.2.2, k _ S H _ hg.2 (Gr.refl ex) (.bl _)⟩⟩
/-- x in a list, a tuple of data -/
def seqP : D → Option (List D)
  | .lst xs => some xs
  | .tup xs => some xs
  | _ => none
def gInB (neg : Bool) (x y : D) (P : D → Prop) : Prop := ∃ xs, seqP y = some xs ∧ (toP x).plain = true ∧ PyData.plainAll (toPs xs) = true ∧ (toP x).depth ≤ 60 ∧ P (.bl (neg != (toPs xs).any fun z => PyData.eqv z (toP x)))
def rInP (neg : Bool) (K : PySem.W.Frag) : R2 := fun x y H Q => ∃ d ds, Dp K H x d ∧ (Dp K H y (.list ds) ∨ Dp K H y (.tuple ds)) ∧ d.plain = true ∧ PyData.plainAll ds = true ∧ d.depth ≤ 60 ∧ Q (.bl (neg != ds.any fun z => PyData.eqv z d)) H
theorem op_inP (hu : X.A.units + 64 < cLine) : OpR X (compareOp .In) (rInP false X.K) := by
  intro pins s σ H x y v u Q I rx ry ⟨d, ds, h1, h2, p1, p2, dep, q⟩
  obtain ⟨as, r1⟩ := Dp.reads I d x v h1 rx
  have rm : X.A.units + 1 + min (PyData.depthAll ds) d.depth < cLine := by
    have := Nat.min_le_right (PyData.depthAll ds) d.depth
    omega
  rw [Bool.false_bne] at q
  rcases h2 with h2 | h2
  · obtain ⟨bs, r2⟩ := Dp.reads I _ y u h2 ry
    exact SeqAt.in_list_data r2 r1 p2 p1 rm ⟨.bl _, H, I, rfl, q⟩
  · obtain ⟨bs, r2⟩ := Dp.reads I _ y u h2 ry
    exact SeqAt.in_tuple_data r2 r1 p2 p1 rm ⟨.bl _, H, I, rfl, q⟩
theorem op_notInP (hu : X.A.units + 64 < cLine) : OpR X (compareOp .NotIn) (rInP true X.K) := by
  intro pins s σ H x y v u Q I rx ry ⟨d, ds, h1, h2, p1, p2, dep, q⟩
  obtain ⟨as, r1⟩ := Dp.reads I d x v h1 rx
  have rm : X.A.units + 1 + min (PyData.depthAll ds) d.depth < cLine := by
    have := Nat.min_le_right (PyData.depthAll ds) d.depth
    omega
  rw [Bool.true_bne] at q
  rcases h2 with h2 | h2
  · obtain ⟨bs, r2⟩ := Dp.reads I _ y u h2 ry
    exact SeqAt.notIn_list_data r2 r1 p2 p1 rm ⟨.bl _, H, I, rfl, q⟩
  · obtain ⟨bs, r2⟩ := Dp.reads I _ y u h2 ry
    exact SeqAt.notIn_tuple_data r2 r1 p2 p1 rm ⟨.bl _, H, I, rfl, q⟩
theorem in_dp {K : PySem.W.Frag} {S H : Hp} {y : D} {v : V} {xs : List D} (e : seqP y = some xs) (p : PyData.plainAll (toPs xs) = true) (ex : Ex S H) (h : Den K S v y) : Dp K H v (.list (toPs xs)) ∨ Dp K H v (.tuple (toPs xs)) := by
  cases y with
  | lst ys =>
    cases e
    obtain ⟨a, zs, rfl, h1, h2⟩ := den_lst h
    exact .inl (.lst (SqL.of (ex _ _ h1)) (dens_dp _ _ p (h2.mono ex)))
  | tup ys =>
    cases e
    obtain ⟨a, zs, rfl, h1, h2⟩ := den_tup h
    exact .inr (.tup (SqT.of (ex _ _ h1)) (dens_dp _ _ p (h2.mono ex)))
  | _ => cases e
theorem od_in (hu : X.A.units + 64 < cLine) : OpD X (compareOp .In) (gInB false) := ⟨_, op_inP hu, fun x y dx dy S H P Q ex hx hy hg k => by
  obtain ⟨xs, e, h1, h2, h3, h4⟩ := hg
  exact ⟨_, _, den_dp dx x h1 (hx.mono ex), in_dp e h2 ex hy, h1, h2, h3, k _ S H _ h4 (Gr.refl ex) (.bl _)⟩⟩
theorem od_notIn (hu : X.A.units + 64 < cLine) : OpD X (compareOp .NotIn) (gInB true) := ⟨_, op_notInP hu, fun x y dx dy S H P Q ex hx hy hg k => by
  obtain ⟨xs, e, h1, h2, h3, h4⟩ := hg
  exact ⟨_, _, den_dp dx x h1 (hx.mono ex), in_dp e h2 ex hy, h1, h2, h3, k _ S H _ h4 (Gr.refl ex) (.bl _)⟩⟩

/-! ### order, identity -/
def gLt (x y : D) (P : D → Prop) : Prop := match x, y with
  | .int i, .int j => P (.bl (decide (i < j)))
  | .tup xs, .tup ys => intsD xs fun is => intsD ys fun js => P (.bl (HT.lexLt is js))
  | _, _ => False
theorem od_lt (hu : X.A.units + 64 < cLine) : OpD X (compareOp .Lt) gLt := by
  refine ⟨_, OpR.or op_lt (op_ltT (by omega)), fun x y dx dy S H P Q ex hx hy hg k => ?_⟩
  unfold gLt at hg
  split at hg
  · rw [den_int hx, den_int hy]
    exact .inl ⟨_, _, rfl, rfl, k _ S H _ hg (Gr.refl ex) (.bl _)⟩
  · obtain ⟨p, xs, rfl, h1, h2⟩ := den_tup hx
    obtain ⟨q, ys, rfl, h3, h4⟩ := den_tup hy
    obtain ⟨is, e1, _, hg⟩ := intsD_inv hg h2
    obtain ⟨js, e2, _, hg⟩ := intsD_inv hg h4
    subst e1
    subst e2
    exact .inr ⟨p, q, is, js, rfl, rfl, SqT.of (ex _ _ h1), SqT.of (ex _ _ h3), k _ S H _ hg (Gr.refl ex) (.bl _)⟩
  · exact hg.elim
def gC (h : Int → Int → Bool) (x y : D) (P : D → Prop) : Prop := match x, y with
  | .int i, .int j => P (.bl (h i j))
  | _, _ => False
theorem od_c {o : Value → Value → Sem Value} {h : Int → Int → Bool} (ho : OpR X o (rI0 fun i j => .bl (h i j))) : OpD X o (gC h) := by
  refine ⟨_, ho, fun x y dx dy S H P Q ex hx hy hg k => ?_⟩
  unfold gC at hg
  split at hg
  · rw [den_int hx, den_int hy]
    exact ⟨_, _, rfl, rfl, k _ S H _ hg (Gr.refl ex) (.bl _)⟩
  · exact hg.elim
abbrev gLe := gC fun i j => decide (i ≤ j)
abbrev gGt := gC fun i j => decide (j < i)
abbrev gGe := gC fun i j => decide (j ≤ i)
theorem od_le : OpD X (compareOp .LtE) gLe := od_c op_le
theorem od_gt : OpD X (compareOp .Gt) gGt := od_c op_gt
theorem od_ge : OpD X (compareOp .GtE) gGe := od_c op_ge
def isNon : D → Bool
  | .non => true
  | _ => false
theorem den_isNon {K : PySem.W.Frag} {S : Hp} {v : V} {d : D} (h : Den K S v d) : decide (v = .non) = isNon d := by
  cases h <;> rfl
def gIs (x y : D) (P : D → Prop) : Prop := match x, y with
  | .bl a, .bl b => P (.bl (decide (a = b)))
  | x, .non => P (.bl (isNon x))
  | _, _ => False
def gIsNot (x y : D) (P : D → Prop) : Prop := match x, y with
  | .bl a, .bl b => P (.bl (!decide (a = b)))
  | x, .non => P (.bl (!isNon x))
  | _, _ => False
theorem od_is : OpD X (compareOp .Is) gIs := by
  refine ⟨_, OpR.or op_is_bl op_isN, fun x y dx dy S H P Q ex hx hy hg k => ?_⟩
  unfold gIs at hg
  split at hg
  · rw [den_bl hx, den_bl hy]
    exact .inl ⟨_, _, rfl, rfl, k _ S H _ hg (Gr.refl ex) (.bl _)⟩
  · rw [den_non hy]
    refine .inr ⟨rfl, ?_⟩
    rw [den_isNon hx]
    exact k _ S H _ hg (Gr.refl ex) (.bl _)
  · exact hg.elim
theorem od_isNot : OpD X (compareOp .IsNot) gIsNot := by
  refine ⟨_, OpR.or op_isnot_bl op_notN, fun x y dx dy S H P Q ex hx hy hg k => ?_⟩
  unfold gIsNot at hg
  split at hg
  · rw [den_bl hx, den_bl hy]
    exact .inl ⟨_, _, rfl, rfl, k _ S H _ hg (Gr.refl ex) (.bl _)⟩
  · rw [den_non hy]
    refine .inr ⟨rfl, ?_⟩
    rw [den_isNon hx]
    exact k _ S H _ hg (Gr.refl ex) (.bl _)
  · exact hg.elim
end
end DL

/-! DLI: dicts whose keys are tuples, nested or not. -/
namespace DL
open PySem PySem.Spec PyProof.Rows L2
variable [HW]

/-! ### the dict of an address -/
omit [HW] in
theorem only_heap (h : Heap) (p : Addr) : ∃ h2 : Heap, (∀ o, h.get? p = some o → h2.get? p = some o) ∧ ∀ a o, h2.get? a = some o → a ≠ p → o.data = .plain := by
  refine ⟨{ objs := h.objs.mapIdx fun i o => if i = p then o else ⟨.none, none, .plain, #[]⟩, life := h.life }, fun o e => ?_, fun a o e ne => ?_⟩
  · unfold Heap.get? at e ⊢
    simp only [Array.getElem?_mapIdx]
    cases q : h.objs[p]? with
    | none => rw [q] at e; cases e
    | some u =>
      rw [q] at e
      simp only [Option.map_some, if_true]
      exact e
  · unfold Heap.get? at e
    simp only [Array.getElem?_mapIdx] at e
    cases q : h.objs[a]? with
    | none => rw [q] at e; cases e
    | some u =>
      rw [q] at e
      simp only [Option.map_some, if_neg ne] at e
      cases e
      rfl
section
variable {P : Program} {w : World} {H : Hp} {h : Heap} {p : Addr} {kvs : List (NestedKey × Addr × V)}
theorem good_of {a : Addr} (x : ObjOk P w H h p (HoN a kvs)) : a = p ∧ GoodN kvs p h := by
  obtain ⟨g, _, st⟩ := x
  obtain ⟨h2, e1, e2⟩ := only_heap h p
  have g2 := st h h2 g e1
  have ha : a = p := by
    obtain ⟨_, _, _, _, o, es, ep, g1, _, g3, _⟩ := g2
    by_cases q : a = p
    · exact q
    · have := e2 a o g1 q
      rw [this] at g3
      cases g3
  subst ha
  exact ⟨rfl, g⟩
theorem good_ok (g : GoodN kvs p h) : ObjOk P w H h p (HoN p kvs) := by
  obtain ⟨l, s, xs, r, o, es, ep, g1, g2, g3, g4⟩ := id g
  refine ⟨g, ⟨o, g1⟩, fun h1 h2 ⟨l, s, xs, r, o, es, ep, g1, g2, g3, g4⟩ k => ?_⟩
  exact ⟨l, s, xs, r, o, es, ep, k o g1, g2, g3, g4⟩
end

/-! ### keys -/
mutual
/-- the value v is the key k -/
inductive VKey (H : Hp) : NestedKey → V → Prop
  | non : VKey H .none .non
  | bl (b : Bool) : VKey H (.num (if b = true then 1 else 0)) (.bl b)
  | int (i : Int) : VKey H (.num i) (.int i)
  | str (x : Str) : VKey H (.text x) (.str x)
  | tup {a : Addr} {xs : List V} {ks : List NestedKey} : H a = some (.tup xs) → VKeys H ks xs → VKey H (.tup ks) (.ref a)
inductive VKeys (H : Hp) : List NestedKey → List V → Prop
  | nil : VKeys H [] []
  | cons {k : NestedKey} {ks : List NestedKey} {v : V} {vs : List V} : VKey H k v → VKeys H ks vs → VKeys H (k :: ks) (v :: vs)
end
section
variable {H H' : Hp}
omit [HW]
mutual
theorem VKey.mono (e : ∀ b xs, H b = some (.tup xs) → H' b = some (.tup xs)) : ∀ {k : NestedKey} {v : V}, VKey H k v → VKey H' k v
  | _, _, .non => .non
  | _, _, .bl b => .bl b
  | _, _, .int i => .int i
  | _, _, .str x => .str x
  | _, _, .tup h t => .tup (e _ _ h) (VKeys.mono e t)
theorem VKeys.mono (e : ∀ b xs, H b = some (.tup xs) → H' b = some (.tup xs)) : ∀ {ks : List NestedKey} {vs : List V}, VKeys H ks vs → VKeys H' ks vs
  | _, _, .nil => .nil
  | _, _, .cons h t => .cons (VKey.mono e h) (VKeys.mono e t)
end
end
section
variable {K : PySem.W.Frag} {S : Hp}
mutual
theorem vkey_den : ∀ {v : V} {d : D} (k : NestedKey), Den K S v d → nk d = some k → VKey S k v
  | _, _, k, .non, e => by cases e; exact .non
  | _, _, k, .bl b, e => by cases e; exact .bl b
  | _, _, k, .int i, e => by cases e; exact .int i
  | _, _, k, .str x, e => by cases e; exact .str x
  | _, _, k, .ty n, e => by cases e
  | _, _, k, .ref a, e => by cases e
  | _, _, k, .tup h t, e => by
    obtain ⟨ks, q, rfl⟩ := Option.map_eq_some_iff.mp (show (nks _).map NestedKey.tup = some k from e)
    exact .tup h (vkeys_den ks t q)
  | _, _, k, .lst h t, e => by cases e
  | _, _, k, .rol h t, e => by cases e
  | _, _, k, .dT h q t, e => by cases e
  | _, _, k, .dK h q t, e => by cases e
  | _, _, k, .dN h t q u, e => by cases e
  | _, _, k, .obj c h q t, e => by cases e
  | _, _, k, .cls c, e => by cases e
theorem vkeys_den : ∀ {vs : List V} {ds : List D} (ks : List NestedKey), Dens K S vs ds → nks ds = some ks → VKeys S ks vs
  | _, _, ks, .nil, e => by cases e; exact .nil
  | _, _, ks, .cons h t, e => by
    obtain ⟨k, q, e⟩ := Option.bind_eq_some_iff.mp (show ((nk _).bind fun k => (nks _).map fun ks => k :: ks) = some ks from e)
    obtain ⟨ks', q2, rfl⟩ := Option.map_eq_some_iff.mp e
    exact .cons (vkey_den k h q) (vkeys_den ks' t q2)
end
end
section
variable {P : Program} {w : World} {H : Hp} {h : Heap}
omit [HW]
mutual
theorem vkey_is (ok : HOk P w H h) : ∀ {k : NestedKey} {v : V} {u : Value}, VKey H k v → RelV v u → NestedIs h k u
  | _, _, u, .non, r => by cases (show u = Value.none from r); exact .none
  | _, _, u, .bl b, r => by cases (show u = Value.bool b from r); exact .bool rfl
  | _, _, u, .int i, r => by obtain ⟨t, rfl⟩ := (show ∃ t, u = Value.int i t from r); exact .int i t
  | _, _, u, .str x, r => by obtain ⟨t, rfl⟩ := (show ∃ t, u = Value.str x t from r); exact .text x t
  | _, _, u, .tup (a := a) (xs := xs) e t, r => by
    cases (show u = Value.ref a from r)
    obtain ⟨_, its, rv, o, h1, h2, n, h3⟩ := (show ObjOk P w H h a (.tup xs) from ok a _ e)
    exact .tup h1 h2 h3 (vkeys_is ok t rv)
theorem vkeys_is (ok : HOk P w H h) : ∀ {ks : List NestedKey} {vs : List V} {us : List Value}, VKeys H ks vs → Vals vs us → NestedAll h ks us
  | _, _, _, .nil, .nil => .nil
  | _, _, _, .cons a t, .cons r rs => .cons (vkey_is ok a r) (vkeys_is ok t rs)
end
end

/-! ### what a dict holds -/
def KN (kvs : List (NestedKey × Addr × V)) (xs : List (NestedKey × Addr × Value)) : Prop := Paired (fun (p : NestedKey × Addr × V) (q : NestedKey × Addr × Value) => p.1 = q.1 ∧ p.2.1 = q.2.1 ∧ RelV p.2.2 q.2.2) kvs xs
def pvN (kvs : List (NestedKey × Addr × V)) : List (NestedKey × V) := kvs.map fun q => (q.1, q.2.2)
def KeysN (H : Hp) (kvs : List (NestedKey × Addr × V)) : Prop := ∀ q ∈ kvs, VKey H q.1 (.ref q.2.1)
section
omit [HW]
variable {kvs : List (NestedKey × Addr × V)} {xs : List (NestedKey × Addr × Value)}
theorem pvN_fst (kvs : List (NestedKey × Addr × V)) : (pvN kvs).map (·.1) = kvs.map (·.1) := by unfold pvN; rw [List.map_map]; rfl
theorem pvN_snd (kvs : List (NestedKey × Addr × V)) : (pvN kvs).map (·.2) = kvs.map fun q => q.2.2 := by unfold pvN; rw [List.map_map]; rfl
theorem KN.val (r : KN kvs xs) (k : NestedKey) : RelO (valV (pvN kvs) k) ((atKey xs k).map (·.2)) := by
  induction r with
  | nil => exact True.intro
  | @cons p q ps qs h t ih =>
    obtain ⟨h1, _, h2⟩ := h
    by_cases e : p.1 = k
    · have e' : q.1 = k := h1.symm.trans e
      have b : atKey (q :: qs) k = some q.2 := by simp [atKey, List.find?_cons, e']
      show RelO (valV ((p.1, p.2.2) :: pvN ps) k) _
      rw [valV_pos e, b]; exact h2
    · have e' : ¬ q.1 = k := fun z => e (h1.trans z)
      have b : atKey (q :: qs) k = atKey qs k := by simp [atKey, List.find?_cons, e']
      show RelO (valV ((p.1, p.2.2) :: pvN ps) k) _
      rw [valV_neg e, b]; exact ih
theorem KN.len (r : KN kvs xs) : kvs.length = xs.length := Paired.length r
end
theorem good_dict {P : Program} {w : World} {H : Hp} {h : Heap} {a : Addr} {kvs : List (NestedKey × Addr × V)} (hw : w = HW.w) (ok : HOk P w H h) (g : GoodN kvs a h) (hk : KeysN H kvs) :
    ∃ xs, KN kvs xs ∧ h.DictOfH (nestedKind P w) a xs := by
  obtain ⟨l, s, xs, r, o, es, ep, g1, g2, g3, g4, g5, g6⟩ := g
  refine ⟨xs, r, o, es, ep, g1, g2, g3, by rw [g4, hw]; rfl, fun x hx => ⟨?_, g6 x hx⟩, g5⟩
  have all : ∀ {l : List (NestedKey × Addr × V)} {m : List (NestedKey × Addr × Value)}, KN l m → KeysN H l → ∀ x ∈ m, NestedIs h x.1 (.ref x.2.1) := by
    intro l m q
    induction q with
    | nil => intro _ x hx; exact nomatch hx
    | @cons p q ps qs hq t ih =>
      intro hk x hx
      rcases List.mem_cons.mp hx with rfl | hx
      · obtain ⟨e1, e2, _⟩ := hq
        have := hk p List.mem_cons_self
        rw [e1, e2] at this
        exact vkey_is ok this rfl
      · exact ih (fun q hq => hk q (List.mem_cons_of_mem _ hq)) x hx
  exact all r hk x hx

/-! ### k in d, d[k], d.get(k), d.get(k, x), len(d) -/
def NGet (H : Hp) (a : Addr) (y : V) (ov : Option V) : Prop := ∃ kvs k b c, Rd H a (HoN c kvs) ∧ KeysN H kvs ∧ y = .ref b ∧ VKey H k y ∧ k.depth ≤ 8 ∧ valV (pvN kvs) k = ov
section
variable {X : Cx} {pins : List (Addr × Obj)} {σ : L2.St} {H : Hp} {s : Shared} {a : Addr} {y : V} {u : Value} {E : Value → Shared → Prop} {ov : Option V}
omit [HW] in
theorem room8 {A : Around} (hu : A.units + 64 < cLine) {P : Program} {w : World} : (nestedKind P w).room A.in1 := by
  show A.in1.units + 8 < cLine
  have : A.in1.units = A.units + 1 := rfl
  omega
theorem n_rd (hw : X.w = HW.w) (I : Inv X pins σ H s) (g : NGet H a y ov) (ry : RelV y u) : ∃ kvs k b xs, u = .ref b ∧ (a == sysModules) = false ∧ KN kvs xs ∧ s.heap.DictOfH (nestedKind X.prog X.w) a xs ∧ (nestedKind X.prog X.w).is s.heap k b ∧ RelO ov ((atKey xs k).map (·.2)) := by
  obtain ⟨kvs, k, b, c, e, hk, rfl, vk, dp, rfl⟩ := g
  cases (show u = Value.ref b from ry)
  obtain ⟨_, gg⟩ := good_of (rd_of I.hok e)
  obtain ⟨xs, r, dd⟩ := good_dict hw I.hok gg hk
  exact ⟨kvs, k, b, xs, rfl, gg.2.1, r, dd, ⟨vkey_is I.hok vk rfl, dp⟩, r.val k⟩
theorem n_in {Q : Value → Shared → Prop} (hw : X.w = HW.w) (hu : X.A.units + 64 < cLine) (I : Inv X pins σ H s) (g : NGet H a y ov) (ry : RelV y u) (h : ∀ s', Inv X pins σ H s' → Q (.bool ov.isSome) s') :
    wpAny (model X.prog X.w) X.A (compareOp .In u (.ref a)) Q E s := by
  obtain ⟨kvs, k, b, xs, rfl, hd, r, dd, ki, rel⟩ := n_rd hw I g ry
  refine wpAny_in_heap (room8 hu) ki hd dd ?_
  have q := rel.isSome_eq
  rw [Option.isSome_map] at q
  rw [← q]
  exact h _ (I.tok _)
theorem n_notIn {Q : Value → Shared → Prop} (hw : X.w = HW.w) (hu : X.A.units + 64 < cLine) (I : Inv X pins σ H s) (g : NGet H a y ov) (ry : RelV y u) (h : ∀ s', Inv X pins σ H s' → Q (.bool (!ov.isSome)) s') :
    wpAny (model X.prog X.w) X.A (compareOp .NotIn u (.ref a)) Q E s := by
  obtain ⟨kvs, k, b, xs, rfl, hd, r, dd, ki, rel⟩ := n_rd hw I g ry
  show wpAny _ _ (do return .bool (!(← contains (.ref a) (.ref b)))) Q E s
  refine wpAny_bind (wpAny_contains_heap (room8 hu) ki hd dd (wpAny_pure ?_))
  have q := rel.isSome_eq
  rw [Option.isSome_map] at q
  rw [← q]
  exact h _ (I.tok _)
theorem n_getItem {v : V} {Q : Value → Shared → Prop} (hw : X.w = HW.w) (hu : X.A.units + 64 < cLine) (I : Inv X pins σ H s) (g : NGet H a y (some v)) (ry : RelV y u) (h : ∀ w' s', Inv X pins σ H s' → RelV v w' → Q w' s') :
    wpAny (model X.prog X.w) X.A (getItem (.ref a) u) Q E s := by
  obtain ⟨kvs, k, b, xs, rfl, hd, r, dd, ki, rel⟩ := n_rd hw I g ry
  obtain ⟨w', hw', rw'⟩ := RelO.some_of rel
  obtain ⟨p, hp, hp2⟩ := Option.map_eq_some_iff.mp hw'
  refine wpAny_getItem_heap (room8 hu) ki dd hp ?_
  rw [hp2]
  exact h w' _ (I.tok _) rw'
theorem n_get {Q : Value → Shared → Prop} {x : V} {t : Value} (hw : X.w = HW.w) (hu : X.A.units + 64 < cLine) (I : Inv X pins σ H s) (g : NGet H a y ov) (ry : RelV y u) (rx : RelV x t) (h : ∀ w' s', Inv X pins σ H s' → RelV (ov.getD x) w' → Q w' s') :
    wpAny (model X.prog X.w) X.A (call (.builtin "dict.get") [.ref a, u, t]) Q E s := by
  obtain ⟨kvs, k, b, xs, rfl, hd, r, dd, ki, rel⟩ := n_rd hw I g ry
  refine call_meetsIn F.slot_dict_get dd.typeIs F.entry_dict_get (F.args_dict_get_3 _ _ _) (meetsH_dict_get_default (nestedKind X.prog X.w) a b hd t) ⟨room8 hu, k, xs, ki, dd, ?_⟩
  refine h _ _ (I.tok _) ?_
  cases ov with
  | none =>
    cases q : (atKey xs k).map (·.2) with
    | none => exact rx
    | some z => rw [q] at rel; exact rel.elim
  | some v =>
    obtain ⟨w', hw', rw'⟩ := RelO.some_of rel
    rw [hw']
    exact rw'
theorem n_type (I : Inv X pins σ H s) {kvs : List (NestedKey × Addr × V)} {c : Addr} (e : Rd H a (HoN c kvs)) : s.TypeIs (.ref a) "dict" ∧ ∃ ob, s.heap.get? a = some ob ∧ ob.dict = none := by
  obtain ⟨_, l, hs, xs, r, o, es, ep, g1, g2, g3, g4⟩ := good_of (rd_of I.hok e)
  exact ⟨⟨o, g1, g2.1⟩, o, g1, g2.2.1⟩
end

/-! ### any dict -/
def DGetX (H : Hp) (a : Addr) (y : V) (ov : Option V) : Prop := DGet H a y ov ∨ NGet H a y ov
def IsX (H : Hp) (a : Addr) : Prop := IsD H a ∨ ∃ c kvs, Rd H a (HoN c kvs)
def putNK (kvs : List (NestedKey × Addr × V)) (k : NestedKey) (b : Addr) (v : V) : List (NestedKey × Addr × V) := if (kvs.any fun q => decide (q.1 = k)) = true then kvs.map fun q => if q.1 = k then (q.1, q.2.1, v) else q else kvs ++ [(k, b, v)]
def NPut (H : Hp) (a : Addr) (y v : V) (H' : Hp) : Prop := ∃ kvs k b c, H a = some (HoN c kvs) ∧ KeysN H kvs ∧ y = .ref b ∧ VKey H k y ∧ k.depth ≤ 8 ∧ kvs.length < sizeLine ∧ H' = upd H a (HoN c (putNK kvs k b v))
def DPutX (H : Hp) (a : Addr) (y v : V) (H' : Hp) : Prop := DPut H a y v H' ∨ NPut H a y v H'
section
omit [HW]
variable {kvs : List (NestedKey × Addr × V)} {xs : List (NestedKey × Addr × Value)}
theorem KN.any (r : KN kvs xs) (k : NestedKey) : (kvs.any fun q => decide (q.1 = k)) = (atKey xs k).isSome := by
  induction r with
  | nil => rfl
  | @cons p q ps qs h t ih =>
    rw [List.any_cons, ih, h.1]
    by_cases e : q.1 = k
    · simp [atKey, List.find?_cons, e]
    · simp [atKey, List.find?_cons, e]
theorem KN.repl (r : KN kvs xs) (k : NestedKey) {y : V} {u : Value} (ry : RelV y u) : KN (kvs.map fun q => if q.1 = k then (q.1, q.2.1, y) else q) (xs.map (putAt k u)) := by
  induction r with
  | nil => exact .nil
  | @cons p q ps qs h t ih =>
    rw [List.map_cons, List.map_cons]
    refine .cons ?_ ih
    obtain ⟨h1, h2, h3⟩ := h
    unfold putAt
    by_cases e : p.1 = k
    · rw [if_pos e, if_pos (h1.symm.trans e)]; exact ⟨h1, h2, ry⟩
    · rw [if_neg e, if_neg (fun z => e (h1.trans z))]; exact ⟨h1, h2, h3⟩
theorem KN.put (r : KN kvs xs) (k : NestedKey) {b : Addr} {y : V} {u : Value} (ry : RelV y u) : KN (putNK kvs k b y) (storedH xs k b u) := by
  unfold putNK storedH
  rw [r.any k]
  by_cases q : (atKey xs k).isSome = true
  · rw [if_pos q, if_pos q]; exact r.repl k ry
  · rw [if_neg q, if_neg q]; exact Paired.snoc r ⟨rfl, rfl, ry⟩
theorem putN_len (kvs : List (NestedKey × Addr × V)) (k : NestedKey) (b : Addr) (v : V) : (putNK kvs k b v).length ≤ kvs.length + 1 := by
  unfold putNK
  split
  · rw [List.length_map]; omega
  · rw [List.length_append, List.length_singleton]
    exact Nat.le_refl _
end
section
variable {X : Cx} {pins : List (Addr × Obj)} {σ : L2.St} {H H' : Hp} {s : Shared} {a : Addr} {y v x : V} {u r t : Value} {E : Value → Shared → Prop} {ov : Option V}
theorem n_setItem {Q : Unit → Shared → Prop} (hw : X.w = HW.w) (hu : X.A.units + 64 < cLine) (I : Inv X pins σ H s) (g : NPut H a y v H') (ry : RelV y u) (rv : RelV v r) (h : ∀ s', Inv X pins σ H' s' → Q () s') :
    wpAny (model X.prog X.w) X.A (setItem (.ref a) u r) Q E s := by
  obtain ⟨kvs, k, b, c, e, hk, rfl, vk, dp, hl, rfl⟩ := g
  cases (show u = Value.ref b from ry)
  obtain ⟨ec, gg⟩ := good_of (I.hok a _ e)
  subst ec
  obtain ⟨xs, rel, dd⟩ := good_dict hw I.hok gg hk
  have hz : xs.length ≤ sizeLine := by rw [← rel.len]; omega
  have hp := putN_len kvs k b v
  refine wpAny_setItem_heap (hsz := hz) (room8 hu) ⟨vkey_is I.hok vk rfl, dp⟩ dd fun h' dd' hs => h _ ?_
  obtain ⟨q, es, ep, hq, h2, h3, h4, h6, h5⟩ := dd'
  refine d_write I (by rw [e]; exact True.intro) hs ⟨q, hq⟩ (good_ok ⟨by omega, gg.2.1, _, rel.put k rv, q, es, ep, hq, h2, h3, by rw [h4, ← hw]; rfl, h5, fun x hx => (h6 x hx).2⟩)
theorem x_getItem {v : V} {Q : Value → Shared → Prop} (hw : X.w = HW.w) (hu : X.A.units + 64 < cLine) (I : Inv X pins σ H s) (g : DGetX H a y (some v)) (ry : RelV y u) (h : ∀ w' s', Inv X pins σ H s' → RelV v w' → Q w' s') :
    wpAny (model X.prog X.w) X.A (getItem (.ref a) u) Q E s := g.elim (fun g => d_getItem (by omega) I g ry h) fun g => n_getItem hw hu I g ry h
theorem x_in {Q : Value → Shared → Prop} (hw : X.w = HW.w) (hu : X.A.units + 64 < cLine) (I : Inv X pins σ H s) (g : DGetX H a y ov) (ry : RelV y u) (h : ∀ s', Inv X pins σ H s' → Q (.bool ov.isSome) s') :
    wpAny (model X.prog X.w) X.A (compareOp .In u (.ref a)) Q E s := g.elim (fun g => d_in (by omega) I g ry h) fun g => n_in hw hu I g ry h
theorem x_notIn {Q : Value → Shared → Prop} (hw : X.w = HW.w) (hu : X.A.units + 64 < cLine) (I : Inv X pins σ H s) (g : DGetX H a y ov) (ry : RelV y u) (h : ∀ s', Inv X pins σ H s' → Q (.bool (!ov.isSome)) s') :
    wpAny (model X.prog X.w) X.A (compareOp .NotIn u (.ref a)) Q E s := g.elim (fun g => d_notIn (by omega) I g ry h) fun g => n_notIn hw hu I g ry h
theorem x_get2 {Q : Value → Shared → Prop} (hw : X.w = HW.w) (hu : X.A.units + 64 < cLine) (I : Inv X pins σ H s) (g : DGetX H a y ov) (ry : RelV y u) (rx : RelV x t) (h : ∀ w' s', Inv X pins σ H s' → RelV (ov.getD x) w' → Q w' s') :
    wpAny (model X.prog X.w) X.A (call (.builtin "dict.get") [.ref a, u, t]) Q E s := g.elim (fun g => d_get2 (by omega) I g ry rx h) fun g => n_get hw hu I g ry rx h
theorem x_setItem {Q : Unit → Shared → Prop} (hw : X.w = HW.w) (hu : X.A.units + 64 < cLine) (I : Inv X pins σ H s) (g : DPutX H a y v H') (ry : RelV y u) (rv : RelV v r) (h : ∀ s', Inv X pins σ H' s' → Q () s') :
    wpAny (model X.prog X.w) X.A (setItem (.ref a) u r) Q E s := g.elim (fun g => d_setItem (by omega) I g ry rv h) fun g => n_setItem hw hu I g ry rv h
theorem isX_at (I : Inv X pins σ H s) (d : IsX H a) : s.TypeIs (.ref a) "dict" ∧ ∀ b, Value.ref a = .ref b → ∃ ob, s.heap.get? b = some ob ∧ ob.dict = none := by
  rcases d with d | ⟨c, kvs, e⟩
  · obtain ⟨t1, t2, _⟩ := isD_at I d
    exact ⟨t1, t2⟩
  · obtain ⟨t1, t2⟩ := n_type I e
    exact ⟨t1, fun b q => by cases q; exact t2⟩
theorem getX_is (I : Inv X pins σ H s) (g : DGetX H a y ov) : s.TypeIs (.ref a) "dict" := by
  rcases g with g | ⟨kvs, k, b, c, e, _⟩
  · exact dict_typeIs I g
  · exact (n_type I e).1
end
def tXGet (td ty : TE) : TE := fun σ H Q => td σ H fun x H1 => ty σ H1 fun y H2 => ∃ a v, x = .ref a ∧ DGetX H2 a y (some v) ∧ Q v H2
def tXIn (ty td : TE) : TE := fun σ H Q => ty σ H fun y H1 => td σ H1 fun x H2 => ∃ a ov, x = .ref a ∧ DGetX H2 a y ov ∧ Q (.bl ov.isSome) H2
def tXNotIn (ty td : TE) : TE := fun σ H Q => ty σ H fun y H1 => td σ H1 fun x H2 => ∃ a ov, x = .ref a ∧ DGetX H2 a y ov ∧ Q (.bl (!ov.isSome)) H2
def tXGet2 (td ty tx : TE) : TE := fun σ H Q => td σ H fun x H1 => ∃ a, x = .ref a ∧ IsX H1 a ∧ ty σ H1 fun y H2 => tx σ H2 fun z H3 => ∃ o, DGetX H3 a y o ∧ Q (o.getD z) H3
def sXPut (td ty tv : TE) : TS := fun D σ H => tv σ H fun v H1 => td σ H1 fun x H2 => ty σ H2 fun y H3 => ∃ a H4, x = .ref a ∧ DPutX H3 a y v H4 ∧ D.nx σ H4
section
variable {X : Cx} {o e f i value : Expr} {apos cpos pos pos' : Pos} {td ty tx tv : TE}
theorem pe_xget (hw : X.w = HW.w) (hu : X.A.units + 64 < cLine) (ho : PE X o td) (hi : PE X i ty) (hs : NoSl i) : PE X (.Subscript o i pos) (tXGet td ty) := by
  refine ⟨fun pins s σ H Q I h => ?_⟩
  refine subD_of PySem.F.slot_dict_getitem.lookup hs (thn (ho.run pins s σ H _ I h) fun u s1 ⟨x, H1, I1, rx, q1⟩ => thn (hi.run pins s1 σ H1 _ I1 q1) fun iv s2 ⟨y, H2, I2, ry, a, v, ex, g, q2⟩ => ?_)
  subst ex
  obtain rfl : u = Value.ref a := rx
  exact ⟨getX_is I2 g, x_getItem hw hu I2 g ry fun w' s3 I3 rw' => ⟨v, H2, I3, rw', q2⟩⟩
theorem pc_xin (hw : X.w = HW.w) (hu : X.A.units + 64 < cLine) (hi : PE X i ty) (ho : PE X o td) : PC X .In i o (tXIn ty td) := by
  refine ⟨fun pins s σ H Q I h => ?_⟩
  refine thn (hi.run pins s σ H _ I h) fun iv s1 ⟨y, H1, I1, ry, q1⟩ => thn (ho.run pins s1 σ H1 _ I1 q1) fun u s2 ⟨x, H2, I2, rx, a, ov, ex, g, q2⟩ => ?_
  subst ex
  obtain rfl : u = Value.ref a := rx
  exact x_in hw hu I2 g ry fun s3 I3 => ⟨.bl ov.isSome, H2, I3, rfl, q2⟩
theorem pc_xnotin (hw : X.w = HW.w) (hu : X.A.units + 64 < cLine) (hi : PE X i ty) (ho : PE X o td) : PC X .NotIn i o (tXNotIn ty td) := by
  refine ⟨fun pins s σ H Q I h => ?_⟩
  refine thn (hi.run pins s σ H _ I h) fun iv s1 ⟨y, H1, I1, ry, q1⟩ => thn (ho.run pins s1 σ H1 _ I1 q1) fun u s2 ⟨x, H2, I2, rx, a, ov, ex, g, q2⟩ => ?_
  subst ex
  obtain rfl : u = Value.ref a := rx
  exact x_notIn hw hu I2 g ry fun s3 I3 => ⟨.bl (!ov.isSome), H2, I3, rfl, q2⟩
theorem pe_xget2 (hw : X.w = HW.w) (hu : X.A.units + 64 < cLine) (ho : PE X o td) (he : PE X e ty) (hf : PE X f tx) (m : M2 X o "get" apos e f cpos) : PE X (.Call (.Attribute o "get" apos) [e, f] [] cpos) (tXGet2 td ty tx) := by
  refine ⟨fun pins s σ H Q I h => ?_⟩
  refine wpAny_Call_method m.base m.few m.line PySem.F.plainAttrs_dict PySem.F.slot_dict_get PySem.F.type_dict_get (thn (ho.run pins s σ H _ I h) fun u s1 ⟨x, H1, I1, rx, a, ex, d, q1⟩ => ?_)
  subst ex
  obtain rfl : u = Value.ref a := rx
  obtain ⟨t1, t2⟩ := isX_at I1 d
  refine ⟨t1, t2, ?_⟩
  rw [m.trees]
  refine Calls.callWith_builtin rfl (Calls.evalArgs_plain (Calls.spliced_cons (thn (he.run pins s1 σ H1 _ I1 q1) fun iv s2 ⟨y, H2, I2, ry, q2⟩ =>
    Calls.spliced_cons (thn (hf.run pins s2 σ H2 _ I2 q2) fun fv s3 ⟨z, H3, I3, rz, ov, g, q3⟩ => Calls.spliced_nil ?_))))
  exact x_get2 hw hu I3 g ry rz fun w' s4 I4 rw' => ⟨_, H3, I4, rw', q3⟩
theorem ps_xput (hw : X.w = HW.w) (hu : X.A.units + 64 < cLine) (ho : PE X o td) (hi : PE X i ty) (hv : PE X value tv) (hs : swapsWith value (some (.Subscript o i pos')) pos.line X.env = pure false) :
    PS X (.Assign [.Subscript o i pos'] value pos) (sXPut td ty tv) := by
  refine ⟨fun pins s σ H D I h => ?_⟩
  refine wpAny_Assign_Subscript (thn (hv.run pins s σ H _ I h) fun r s1 ⟨v, H1, I1, rv, q1⟩ => thn (ho.run pins s1 σ H1 _ I1 q1) fun u s2 ⟨x, H2, I2, rx, q2⟩ => thn (hi.run pins s2 σ H2 _ I2 q2) fun iv s3 ⟨y, H3, I3, ry, a, H4, ex, g, q3⟩ => ?_) hs
  subst ex
  obtain rfl : u = Value.ref a := rx
  exact x_setItem hw hu I3 g ry rv fun s4 I4 => ⟨σ, H4, I4, q3⟩
end
/-! ### len(d), list(d) -/
section
variable {X : Cx}
theorem call_len_dN : CallR X (.builtin "len") (fun xs H Q => ∃ p c kvs, xs = [.ref p] ∧ Rd H p (HoN c kvs) ∧ KeysN H kvs ∧ X.w = HW.w ∧ Q (.int kvs.length) H) := by
  intro pins s σ H xs us Q I r ⟨p, c, kvs, e, hp, hk, hw, q⟩
  subst e
  obtain ⟨u, rfl, rx⟩ := vals1 r
  obtain rfl : u = .ref p := rx
  obtain ⟨_, gg⟩ := good_of (rd_of I.hok hp)
  obtain ⟨ys, rel, dd⟩ := good_dict hw I.hok gg hk
  have hl := rel.len
  have z' : ys.length ≤ sizeLine := by rw [← hl]; exact gg.1
  refine call_len_dictH gg.2.1 dd (by rw [sizeLine_eq] at z'; omega) ?_
  rw [← hl]
  exact ⟨.int kvs.length, H, I.tok _, ⟨_, rfl⟩, q⟩
omit [HW] in
theorem kn_refs {kvs : List (NestedKey × Addr × V)} {xs : List (NestedKey × Addr × Value)} (r : KN kvs xs) : xs.map (fun x => x.2.1) = kvs.map fun q => q.2.1 := by
  induction r with
  | nil => rfl
  | cons h t ih => rw [List.map_cons, List.map_cons, ih, h.2.1]
theorem call_list_dN (hc : X.calm = true) : CallR X (.type "list") (fun xs H Q => ∃ d c kvs, xs = [V.ref d] ∧ Rd H d (HoN c kvs) ∧ ∀ p, H p = none → Q (.ref p) (upd H p (.lst (kvs.map fun q => V.ref q.2.1)))) := by
  intro pins s σ H xs us Q I r h
  obtain ⟨d, c, kvs, rfl, hd, q⟩ := h
  obtain ⟨u, rfl, rx⟩ := r.one
  cases rx
  obtain ⟨_, z, hs, ks, pr, o, es, ep, ho, hx, hdt, he, hn⟩ := good_of (rd_of I.hok hd)
  have l1 : es.size = ks.length := by rw [← Array.length_toList, he, List.length_map]
  have l2 : kvs.length = ks.length := Paired.length pr
  refine PySem.W.kdl_call (kdl_raw hs hx hdt) (I.ok.hd hc) ho (by omega) fun h' tk acc' c' kp e it => ?_
  have ea : acc'.toList = ks.map fun x => Value.ref x.2.1 := by
    have hl : acc'.toList.length = ks.length := by rw [Array.length_toList, it.1]; exact l1
    apply List.ext_getElem?
    intro j
    rw [List.getElem?_map]
    cases hj : acc'.toList[j]? with
    | none =>
      have h1 := List.getElem?_eq_none_iff.mp hj
      rw [List.getElem?_eq_none (by omega)]
      all_goals rfl
    | some v =>
      obtain ⟨en, hen, hv⟩ := it.2 j v (by rw [← Array.getElem?_toList]; exact hj)
      have qe : es[j]? = (ks[j]?).map fun x => (⟨x.1.hash HW.w, .ref x.2.1, x.2.2⟩ : DictEntry) := by rw [← Array.getElem?_toList, he, List.getElem?_map]
      rw [hen] at qe
      cases hb : ks[j]? with
      | none =>
        rw [hb] at qe
        exact nomatch (show some en = none from qe)
      | some b =>
        rw [hb] at qe
        have e2 : en = (⟨b.1.hash HW.w, .ref b.2.1, b.2.2⟩ : DictEntry) := Option.some.inj qe
        rw [hv, e2]
        all_goals rfl
  have eb : acc'.toList = (kvs.map fun q => q.2.1).map Value.ref := by
    rw [ea, ← kn_refs pr, List.map_map]
    all_goals rfl
  have em : (kvs.map fun q => V.ref q.2.1) = (kvs.map fun q => q.2.1).map V.ref := by rw [List.map_map]; rfl
  have rv : Vals (kvs.map fun q => V.ref q.2.1) acc'.toList := by rw [eb, em]; exact vals_refs _
  refine ⟨.ref s.heap.objs.size, _, I.laid (t' := tk) (o := .lst (kvs.map fun q => V.ref q.2.1)) kp (Nat.le_refl _) ?_, rfl, q _ (I.hok.fresh (Nat.le_refl _))⟩
  exact ⟨by rw [List.length_map]; exact z, acc'.toList, c', rv, by rw [Array.toArray_toList]; exact e⟩
end
end DL

/-! DL7: subscripts, slices, dicts, built-ins, changes of what is owned, calls by keywords. -/
namespace DL
open PySem PySem.Spec PyProof.Rows L2
variable [HW]

section
variable {X : Cx} {fi : List Nat} {fa : Nat → Addr} {e a b o i : Expr} {es : List Expr} {f fx fy fd fv : FE} {fs : FA} {pos : Pos}

/-! ### subscripts -/
theorem atI_den {K : PySem.W.Frag} {S : Hp} {vs : List V} {ds : List D} {k : Int} {d : D} (h : Dens K S vs ds) (e : atI ds k = some d) : ∃ v, atI vs k = some v ∧ Den K S v d := by
  unfold atI at e ⊢
  rw [h.length]
  cases q : ixN ds.length k with
  | none => rw [q] at e; cases e
  | some j =>
    rw [q] at e
    exact h.get (i := j) e
def seqL : D → Option (List D)
  | .lst xs => some xs
  | .tup xs => some xs
  | .rol xs => some xs
  | _ => none
theorem den_seqL {K : PySem.W.Frag} {S : Hp} {v : V} {d : D} {xs : List D} (e : seqL d = some xs) (h : Den K S v d) : ∃ a vs, v = .ref a ∧ (SqL K S a vs ∨ SqT K S a vs) ∧ Dens K S vs xs := by
  cases d with
  | lst ys => cases e; obtain ⟨a, vs, e, h1, h2⟩ := den_lst h; exact ⟨a, vs, e, .inl (SqL.of h1), h2⟩
  | tup ys => cases e; obtain ⟨a, vs, e, h1, h2⟩ := den_tup h; exact ⟨a, vs, e, .inr (SqT.of h1), h2⟩
  | rol ys => cases e; obtain ⟨a, vs, e, h1, h2⟩ := den_rol h; exact ⟨a, vs, e, .inl h1, h2⟩
  | _ => cases e
def gIx (x y : D) (P : D → Prop) : Prop := match y with
  | .int k => ∃ xs d, seqL x = some xs ∧ atI xs k = some d ∧ P d
  | _ => False
theorem pd_ix (ha : PED X fi fa a fx) (hb : PED X fi fa b fy) (hs : PlainIx b := by exact fun _ _ => rfl) : PED X fi fa (.Subscript a b pos) (fOp gIx fx fy) := by
  obtain ⟨tx, px, ox⟩ := ha
  obtain ⟨ty, py, oy⟩ := hb
  refine ⟨_, pe_ix (IxR.or ix_list ix_tup) px py hs, ok_op (o := fun _ _ => pure .none) (fun x y dx dy S H P Q ex hx hy hg k => ?_) ox oy⟩
  unfold gIx at hg
  split at hg
  · obtain ⟨xs, d, e1, e2, hg⟩ := hg
    rw [den_int hy]
    obtain ⟨a, vs, rfl, h1, h2⟩ := den_seqL e1 hx
    obtain ⟨v, h3, h4⟩ := atI_den h2 e2
    rcases h1 with h1 | h1
    · exact .inl ⟨a, vs, _, v, rfl, rfl, ex.l h1, h3, k v S H d hg (Gr.refl ex) h4⟩
    · exact .inr ⟨a, vs, _, v, rfl, rfl, ex.t h1, h3, k v S H d hg (Gr.refl ex) h4⟩
  · exact hg.elim

/-! ### slices -/
abbrev FO := List Sl → (Option Int → List Sl → Prop) → Prop
def OkO (K : PySem.W.Frag) (fi : List Nat) (fa : Nat → Addr) (to : TO) (f : FO) : Prop := ∀ (σ : L2.St) (H S : Hp) (ρ : List Sl) (P : Option Int → List Sl → Prop) (Q : Option Int → Hp → Prop), Rel K fi fa σ H S ρ → f ρ P →
  (∀ x H' S' ρ', P x ρ' → Rel K fi fa σ H' S' ρ' → Tr σ H S ρ σ H' S' ρ' → Q x H') → to σ H Q
def POD (X : Cx) (fi : List Nat) (fa : Nat → Addr) (e : Option Expr) (f : FO) : Prop := ∃ t, PO X e t ∧ OkO X.K fi fa t f
def fPN : FO := fun ρ P => P none ρ
def asI (d : D) (P : Int → Prop) : Prop := match d with
  | .int i => P i
  | _ => False
theorem asI_inv {d : D} {P : Int → Prop} (h : asI d P) : ∃ i, d = .int i ∧ P i := by
  unfold asI at h
  split at h
  · exact ⟨_, rfl, h⟩
  · exact h.elim
def fPS (f : FE) : FO := fun ρ P => f ρ fun d ρ1 => asI d fun i => P (some i) ρ1
theorem pod_n : POD X fi fa none fPN := ⟨_, po_none, fun σ H S ρ P Q r hf k => k none H S ρ hf r (Tr.refl _ _ _ _)⟩
theorem pod_s (h : PED X fi fa e f) : POD X fi fa (some e) (fPS f) := by
  obtain ⟨t, p, ok⟩ := h
  refine ⟨_, po_some p, fun σ H S ρ P Q r hf k => ok σ H S ρ _ _ r hf fun v H' S' d ρ' hP r' t' hd => ?_⟩
  obtain ⟨i, rfl, hP⟩ := asI_inv hP
  exact ⟨i, den_int hd, k _ H' S' ρ' hP r' t'⟩
def cutD (ds : List D) (lo hi : Option Int) : List D := (ds.drop (HT.sIx ds.length 0 lo)).take (HT.sIx ds.length ds.length hi - HT.sIx ds.length 0 lo)
theorem dens_cut {K : PySem.W.Frag} {S : Hp} {vs : List V} {ds : List D} (h : Dens K S vs ds) (lo hi : Option Int) : Dens K S (cutV vs lo hi) (cutD ds lo hi) := by
  unfold cutV cutD
  rw [h.length]
  exact (h.drop _).take _
def gSl (d : D) (lo hi : Option Int) (P : D → Prop) : Prop := match d with
  | .lst xs => P (.lst (cutD xs lo hi))
  | .rol xs => P (.lst (cutD xs lo hi))
  | .tup xs => P (.tup (cutD xs lo hi))
  | _ => False
def fSl (f : FE) (lo hi : FO) : FE := fun ρ P => f ρ fun d ρ1 => lo ρ1 fun l ρ2 => hi ρ2 fun h ρ3 => gSl d l h fun x => P x ρ3
theorem cut_whole {vs : List V} {lo hi : Option Int} (h : HT.sIx vs.length 0 lo = 0 ∧ HT.sIx vs.length vs.length hi = vs.length) : cutV vs lo hi = vs := by
  unfold cutV
  rw [h.1, h.2, List.drop_zero, Nat.sub_zero, List.take_length]
theorem pd_sl {lo hi : Option Expr} {flo fhi : FO} {p2 : Pos} (he : PED X fi fa e f) (hl : POD X fi fa lo flo) (hh : POD X fi fa hi fhi) : PED X fi fa (.Subscript e (.Slice lo hi none p2) pos) (fSl f flo fhi) := by
  obtain ⟨t, p, ok⟩ := he
  obtain ⟨tl, pl, okl⟩ := hl
  obtain ⟨th, ph, okh⟩ := hh
  refine ⟨_, pe_slice (SlR.or sl_list sl_tupA) p pl ph, fun σ H S ρ P Q r hf k => ok σ H S ρ _ _ r hf fun v H1 S1 d ρ1 h1 r1 t1 d1 => okl σ H1 S1 ρ1 _ _ r1 h1 fun l H2 S2 ρ2 h2 r2 t2 => okh σ H2 S2 ρ2 _ _ r2 h2 fun u H3 S3 ρ3 h3 r3 t3 => ?_⟩
  have d3 := (d1.mono t2.exS).mono t3.exS
  have T := (t1.trans t2).trans t3
  unfold gSl at h3
  split at h3
  · obtain ⟨a, xs, rfl, g1, g2⟩ := den_lst d3
    refine .inl ⟨a, xs, rfl, SqL.of (r3.ex _ _ g1), fun q hq => ?_⟩
    have g := Gr.one (o := .lst (cutV xs l u)) r3.ex hq
    exact k _ _ _ _ ρ3 h3 (r3.grow g) (T.trans g.tr) (.lst upd_same ((dens_cut g2 l u).mono g.s))
  · obtain ⟨a, xs, rfl, g1, g2⟩ := den_rol d3
    refine .inl ⟨a, xs, rfl, r3.ex.l g1, fun q hq => ?_⟩
    have g := Gr.one (o := .lst (cutV xs l u)) r3.ex hq
    exact k _ _ _ _ ρ3 h3 (r3.grow g) (T.trans g.tr) (.lst upd_same ((dens_cut g2 l u).mono g.s))
  · obtain ⟨a, xs, rfl, g1, g2⟩ := den_tup d3
    refine .inr ⟨a, xs, rfl, SqT.of (r3.ex _ _ g1), fun hw => ?_, fun _ q hq => ?_⟩
    · have c := dens_cut g2 l u
      rw [cut_whole hw] at c
      exact k _ H3 S3 _ ρ3 h3 r3 T (.tup g1 c)
    · have g := Gr.one (o := .tup (cutV xs l u)) r3.ex hq
      exact k _ _ _ _ ρ3 h3 (r3.grow g) (T.trans g.tr) (.tup upd_same ((dens_cut g2 l u).mono g.s))
  · exact h3.elim

/-! ### dicts -/
def kD : Key → D
  | .inl i => .int i
  | .inr s => .str s
def asK : D → Option Key
  | .int i => some (.inl i)
  | .str s => some (.inr s)
  | _ => none
def asKs : List D → Option (List Key)
  | [] => some []
  | d :: ds => (asK d).bind fun k => (asKs ds).map (k :: ·)
def asTK : D → Option (List Key)
  | .tup ds => asKs ds
  | _ => none
theorem asK_den {K : PySem.W.Frag} {S : Hp} {v : V} {d : D} {k : Key} (e : asK d = some k) (h : Den K S v d) : v = kV k ∧ d = kD k := by
  cases d with
  | int i => cases e; exact ⟨den_int h, rfl⟩
  | str s => cases e; exact ⟨den_str h, rfl⟩
  | _ => cases e
theorem asKs_den {K : PySem.W.Frag} {S : Hp} : ∀ {ds : List D} {ks : List Key} {vs : List V}, asKs ds = some ks → Dens K S vs ds → vs = ks.map kV ∧ ds = ks.map kD
  | [], ks, _, e, .nil => by cases e; exact ⟨rfl, rfl⟩
  | d :: ds, ks, _, e, .cons h t => by
    unfold asKs at e
    cases q : asK d with
    | none => rw [q] at e; cases e
    | some k =>
      rw [q] at e
      cases q2 : asKs ds with
      | none => rw [q2] at e; cases e
      | some ks' =>
        rw [q2] at e
        cases e
        obtain ⟨e1, e2⟩ := asK_den q h
        obtain ⟨e3, e4⟩ := asKs_den q2 t
        exact ⟨by rw [e1, e3]; rfl, by rw [e2, e4]; rfl⟩
theorem asTK_den {K : PySem.W.Frag} {S : Hp} {v : V} {d : D} {ks : List Key} (e : asTK d = some ks) (h : Den K S v d) : ∃ b, v = .ref b ∧ S b = some (.tup (ks.map kV)) := by
  cases d with
  | tup ds =>
    obtain ⟨b, xs, rfl, h1, h2⟩ := den_tup h
    obtain ⟨e1, _⟩ := asKs_den e h2
    subst e1
    exact ⟨b, rfl, h1⟩
  | _ => cases e
theorem den_keys {K : PySem.W.Frag} {S : Hp} : ∀ ks : List Key, Dens K S (ks.map kV) (ks.map kD)
  | [] => .nil
  | .inl i :: ks => .cons (.int i) (den_keys ks)
  | .inr s :: ks => .cons (.str s) (den_keys ks)
section
variable {κ : Type} [DecidableEq κ]
def look : List κ → List D → κ → Option D
  | k' :: ks, d :: ds, k => if k' = k then some d else look ks ds k
  | _, _, _ => none
def putKs (ks : List κ) (k : κ) : List κ := if k ∈ ks then ks else ks ++ [k]
def replV : List κ → List D → κ → D → List D
  | k' :: ks, d :: ds, k, x => (if k' = k then x else d) :: replV ks ds k x
  | _, _, _, _ => []
def putVs (ks : List κ) (ds : List D) (k : κ) (x : D) : List D := if k ∈ ks then replV ks ds k x else ds ++ [x]
theorem look_val {K : PySem.W.Frag} {S : Hp} (k : κ) : ∀ {kvs : List (κ × V)} {ds : List D}, Dens K S (kvs.map (·.2)) ds → (valV kvs k = none ∧ look (kvs.map (·.1)) ds k = none) ∨ ∃ v d, valV kvs k = some v ∧ look (kvs.map (·.1)) ds k = some d ∧ Den K S v d
  | [], _, .nil => .inl ⟨rfl, rfl⟩
  | (k', v) :: kvs, _, .cons h t => by
    by_cases e : k' = k
    · exact .inr ⟨v, _, valV_pos e, by show look (k' :: _) _ k = _; unfold look; rw [if_pos e], h⟩
    · rcases look_val k t with ⟨h1, h2⟩ | ⟨u, d, h1, h2, h3⟩
      · exact .inl ⟨by rw [valV_neg e]; exact h1, by show look (k' :: _) _ k = _; unfold look; rw [if_neg e]; exact h2⟩
      · exact .inr ⟨u, d, by rw [valV_neg e]; exact h1, by show look (k' :: _) _ k = _; unfold look; rw [if_neg e]; exact h2, h3⟩
theorem repl_val {K : PySem.W.Frag} {S : Hp} {k : κ} {v : V} {x : D} (hx : Den K S v x) : ∀ {kvs : List (κ × V)} {ds : List D}, Dens K S (kvs.map (·.2)) ds → Dens K S ((kvs.map fun kv => if kv.1 = k then (kv.1, v) else kv).map (·.2)) (replV (kvs.map (·.1)) ds k x)
  | [], _, .nil => .nil
  | (k', u) :: kvs, _, .cons h t => by
    by_cases e : k' = k
    · show Dens K S ((if k' = k then (k', v) else (k', u)).2 :: _) ((if k' = k then x else _) :: _)
      rw [if_pos e, if_pos e]
      exact .cons hx (repl_val hx t)
    · show Dens K S ((if k' = k then (k', v) else (k', u)).2 :: _) ((if k' = k then x else _) :: _)
      rw [if_neg e, if_neg e]
      exact .cons h (repl_val hx t)
theorem repl_keys {k : κ} {v : V} : ∀ kvs : List (κ × V), (kvs.map fun kv => if kv.1 = k then (kv.1, v) else kv).map (·.1) = kvs.map (·.1)
  | [] => rfl
  | (k', u) :: kvs => by
    rw [List.map_cons, List.map_cons, List.map_cons, repl_keys kvs]
    show (if k' = k then (k', v) else (k', u)).1 :: _ = k' :: _
    by_cases e : k' = k
    · rw [if_pos e]
    · rw [if_neg e]
theorem any_mem (k : κ) (kvs : List (κ × V)) : (kvs.any fun kv => decide (kv.1 = k)) = true ↔ k ∈ kvs.map (·.1) := by
  rw [List.any_eq_true, List.mem_map]
  constructor
  · rintro ⟨p, h1, h2⟩
    exact ⟨p, h1, of_decide_eq_true h2⟩
  · rintro ⟨p, h1, h2⟩
    exact ⟨p, h1, decide_eq_true h2⟩
theorem put_val {K : PySem.W.Frag} {S : Hp} {k : κ} {v : V} {x : D} (hx : Den K S v x) {kvs : List (κ × V)} {ds : List D} (h : Dens K S (kvs.map (·.2)) ds) :
    putKs (kvs.map (·.1)) k = (putK kvs k v).map (·.1) ∧ Dens K S ((putK kvs k v).map (·.2)) (putVs (kvs.map (·.1)) ds k x) := by
  unfold putKs putVs putK
  by_cases hk : k ∈ kvs.map (·.1)
  · rw [if_pos hk, if_pos hk, if_pos ((any_mem k kvs).mpr hk)]
    exact ⟨(repl_keys kvs).symm, repl_val hx h⟩
  · rw [if_neg hk, if_neg hk, if_neg (fun z => hk ((any_mem k kvs).mp z))]
    rw [List.map_append, List.map_append]
    exact ⟨rfl, h.append (.one hx)⟩
end
/-- what a dict holds at a key -/
def dlook (d y : D) (P : Option D → Prop) : Prop := match d with
  | .dT ks vs => ∃ k, asTK y = some k ∧ P (look ks vs k)
  | .dK ks vs => ∃ k, asK y = some k ∧ P (look ks vs k)
  | .dN ks vs => ∃ k, nkT y = some k ∧ k.depth ≤ 8 ∧ P (look (ks.map nk) vs (some k))
  | _ => False
theorem den_dN {K : PySem.W.Frag} {S : Hp} {v : V} {ks ds : List D} (h : Den K S v (.dN ks ds)) : ∃ a b kvs, v = .ref a ∧ Rd S a (HoN b kvs) ∧ Dens K S (kvs.map fun q => V.ref q.2.1) ks ∧ ks.map nk = kvs.map (fun q => some q.1) ∧ Dens K S (kvs.map fun q => q.2.2) ds := by
  cases h with
  | dN h t q u => exact ⟨_, _, _, rfl, h, t, q, u⟩
theorem keysN_of {K : PySem.W.Frag} {S : Hp} : ∀ {kvs : List (NestedKey × Addr × V)} {ks : List D}, Dens K S (kvs.map fun q => V.ref q.2.1) ks → ks.map nk = kvs.map (fun q => some q.1) → KeysN S kvs
  | [], _, _, _, q, hq => nomatch hq
  | p :: kvs, k :: ks, .cons h t, e, q, hq => by
    rw [List.map_cons, List.map_cons] at e
    obtain ⟨e1, e2⟩ := List.cons.inj e
    rcases List.mem_cons.mp hq with rfl | hq
    · exact vkey_den _ h e1
    · exact keysN_of t e2 q hq
theorem lookN_some (k : NestedKey) : ∀ (kvs : List (NestedKey × Addr × V)) (ds : List D), look (kvs.map fun q => some q.1) ds (some k) = look ((pvN kvs).map (·.1)) ds k
  | [], ds => by cases ds <;> rfl
  | p :: kvs, [] => rfl
  | p :: kvs, d :: ds => by
    show (if some p.1 = some k then some d else look (kvs.map fun q => some q.1) ds (some k)) = (if p.1 = k then some d else look ((pvN kvs).map (·.1)) ds k)
    rw [lookN_some k kvs ds]
    by_cases e : p.1 = k
    · rw [if_pos e, if_pos (by rw [e])]
    · rw [if_neg e, if_neg (fun z => e (Option.some.inj z))]
theorem nkT_den {K : PySem.W.Frag} {S : Hp} {u : V} {y : D} {k : NestedKey} (e : nkT y = some k) (h : Den K S u y) : (∃ b, u = .ref b) ∧ VKey S k u := by
  cases y with
  | tup ds =>
    obtain ⟨b, xs, rfl, _⟩ := den_tup h
    exact ⟨⟨b, rfl⟩, vkey_den k h e⟩
  | _ => cases e
theorem dlook_get {K : PySem.W.Frag} {S H : Hp} {v u : V} {d y : D} {P : Option D → Prop} (ex : Ex S H) (hd : Den K S v d) (hy : Den K S u y) (h : dlook d y P) :
    ∃ a ov od, v = .ref a ∧ DGetX H a u ov ∧ P od ∧ ((ov = none ∧ od = none) ∨ ∃ z dz, ov = some z ∧ od = some dz ∧ Den K S z dz) := by
  unfold dlook at h
  split at h
  · obtain ⟨k, e, hP⟩ := h
    obtain ⟨a, kvs, rfl, h1, h2, h3⟩ := den_dT hd
    obtain ⟨b, rfl, h4⟩ := asTK_den e hy
    subst h2
    exact ⟨a, _, _, rfl, .inl (.inr ⟨kvs, k, b, ex.rd h1, rfl, ex _ _ h4, rfl⟩), hP, look_val k h3⟩
  · obtain ⟨k, e, hP⟩ := h
    obtain ⟨a, kvs, rfl, h1, h2, h3⟩ := den_dK hd
    obtain ⟨e1, e2⟩ := asK_den e hy
    subst h2
    subst e1
    exact ⟨a, _, _, rfl, .inl (.inl ⟨kvs, k, ex.rd h1, rfl, rfl⟩), hP, look_val k h3⟩
  · obtain ⟨k, e, dp, hP⟩ := h
    obtain ⟨a, c, kvs, rfl, h1, h2, h3, h4⟩ := den_dN hd
    obtain ⟨⟨b, rfl⟩, vk⟩ := nkT_den e hy
    rw [h3, lookN_some] at hP
    have et : ∀ b xs, S b = some (.tup xs) → H b = some (.tup xs) := fun b xs q => ex _ _ q
    refine ⟨a, _, _, rfl, .inr ⟨kvs, k, b, c, ex.rd h1, fun q hq => (keysN_of h2 h3 q hq).mono et, rfl, vk.mono et, dp, rfl⟩, hP, look_val (kvs := pvN kvs) k (by rw [pvN_snd]; exact h4)⟩
  · exact h.elim
def fDGet (fd fy : FE) : FE := fun ρ P => fd ρ fun d ρ1 => fy ρ1 fun y ρ2 => dlook d y fun o => ∃ x, o = some x ∧ P x ρ2
def fDIn (neg : Bool) (fy fd : FE) : FE := fun ρ P => fy ρ fun y ρ1 => fd ρ1 fun d ρ2 => dlook d y fun o => P (.bl (neg != o.isSome)) ρ2
theorem pd_dget (hu : X.A.units + 64 < cLine) (ho : PED X fi fa o fd) (hi : PED X fi fa i fy) (hs : NoSl i := by exact fun _ _ => rfl) (hw : X.w = HW.w := by rfl) : PED X fi fa (.Subscript o i pos) (fDGet fd fy) := by
  obtain ⟨t1, p1, o1⟩ := ho
  obtain ⟨t2, p2, o2⟩ := hi
  refine ⟨_, pe_xget hw hu p1 p2 hs, fun σ H S ρ P Q r hf k => o1 σ H S ρ _ _ r hf fun v H1 S1 d ρ1 h1 r1 t1 d1 => o2 σ H1 S1 ρ1 _ _ r1 h1 fun u H2 S2 y ρ2 h2 r2 t2 d2 => ?_⟩
  obtain ⟨a, ov, od, rfl, g, ⟨x, rfl, hP⟩, z⟩ := dlook_get r2.ex (d1.mono t2.exS) d2 h2
  rcases z with ⟨_, z⟩ | ⟨z, dz, rfl, e, hz⟩
  · cases z
  · cases e
    exact ⟨a, z, rfl, g, k z H2 S2 _ ρ2 hP r2 (t1.trans t2) hz⟩
theorem some_iff {K : PySem.W.Frag} {S : Hp} {ov : Option V} {od : Option D} (z : (ov = none ∧ od = none) ∨ ∃ z dz, ov = some z ∧ od = some dz ∧ Den K S z dz) : ov.isSome = od.isSome := by
  rcases z with ⟨rfl, rfl⟩ | ⟨_, _, rfl, rfl, _⟩ <;> rfl
theorem din_ok {neg : Bool} {t1 t2 : TE} (o1 : OkE X.K fi fa t1 fy) (o2 : OkE X.K fi fa t2 fd) {σ : L2.St} {H S : Hp} {ρ : List Sl} {P : D → List Sl → Prop} {Q : VK} (r : Rel X.K fi fa σ H S ρ) (hf : fDIn neg fy fd ρ P)
    (k : ∀ v H' S' d ρ', P d ρ' → Rel X.K fi fa σ H' S' ρ' → Tr σ H S ρ σ H' S' ρ' → Den X.K S' v d → Q v H') :
    t1 σ H fun y H1 => t2 σ H1 fun x H2 => ∃ a ov, x = V.ref a ∧ DGetX H2 a y ov ∧ Q (.bl (neg != ov.isSome)) H2 := o1 σ H S ρ _ _ r hf fun u H1 S1 y ρ1 h1 r1 t1 d1 => o2 σ H1 S1 ρ1 _ _ r1 h1 fun v H2 S2 d ρ2 h2 r2 t2 d2 => by
  obtain ⟨a, ov, od, rfl, g, hP, z⟩ := dlook_get r2.ex d2 (d1.mono t2.exS) h2
  refine ⟨a, ov, rfl, g, k _ H2 S2 _ ρ2 hP r2 (t1.trans t2) ?_⟩
  rw [some_iff z]
  exact .bl _
theorem pd_din (hu : X.A.units + 64 < cLine) (hi : PED X fi fa i fy) (ho : PED X fi fa o fd) (hm : behindInMarks .In o = false := by rfl) (hw : X.w = HW.w := by rfl) : PED X fi fa (.Compare i [.In] [o] pos) (fDIn false fy fd) := by
  obtain ⟨t1, p1, o1⟩ := hi
  obtain ⟨t2, p2, o2⟩ := ho
  refine ⟨_, pe_cmp (pc_xin hw hu p1 p2) hm, fun σ H S ρ P Q r hf k => ?_⟩
  have := din_ok o1 o2 r hf k
  simp only [Bool.false_bne] at this
  exact this
theorem pd_dnotin (hu : X.A.units + 64 < cLine) (hi : PED X fi fa i fy) (ho : PED X fi fa o fd) (hm : behindInMarks .NotIn o = false := by rfl) (hw : X.w = HW.w := by rfl) : PED X fi fa (.Compare i [.NotIn] [o] pos) (fDIn true fy fd) := by
  obtain ⟨t1, p1, o1⟩ := hi
  obtain ⟨t2, p2, o2⟩ := ho
  refine ⟨_, pe_cmp (pc_xnotin hw hu p1 p2) hm, fun σ H S ρ P Q r hf k => ?_⟩
  have := din_ok o1 o2 r hf k
  simp only [Bool.true_bne] at this
  exact this
def isDict : D → Bool
  | .dT _ _ => true
  | .dK _ _ => true
  | .dN _ _ => true
  | _ => false
/-- d.get(k, x) -/
def fDGet2 (fd fy fx : FE) : FE := fun ρ P => fd ρ fun d ρ1 => isDict d = true ∧ fy ρ1 fun y ρ2 => fx ρ2 fun x ρ3 => dlook d y fun o => P (o.getD x) ρ3
theorem den_isD {K : PySem.W.Frag} {S H : Hp} {v : V} {d : D} (ex : Ex S H) (e : isDict d = true) (h : Den K S v d) : ∃ a, v = .ref a ∧ IsX H a := by
  cases d with
  | dT ks vs => obtain ⟨a, kvs, e, h1, _⟩ := den_dT h; exact ⟨a, e, .inl (.inr ⟨kvs, ex.rd h1⟩)⟩
  | dK ks vs => obtain ⟨a, kvs, e, h1, _⟩ := den_dK h; exact ⟨a, e, .inl (.inl ⟨kvs, ex.rd h1⟩)⟩
  | dN ks vs => obtain ⟨a, b, kvs, e, h1, _⟩ := den_dN h; exact ⟨a, e, .inr ⟨b, kvs, ex.rd h1⟩⟩
  | _ => cases e

/-! ### built-ins -/
def gLen : GD := fun ds P => match ds with
  | [.str s] => s.length ≤ 100000 ∧ P (.int s.length)
  | [.dT ks _] => P (.int ks.length)
  | [.dK ks _] => P (.int ks.length)
  | [.dN ks _] => P (.int ks.length)
  | [x] => ∃ xs, seqL x = some xs ∧ P (.int xs.length)
  | _ => False
theorem call_len_d : CallR X (.builtin "len") (fun xs H Q => ∃ p, xs = [.ref p] ∧ ((∃ kvs, Rd H p (.dK kvs) ∧ Q (.int kvs.length) H) ∨ ∃ kvs, Rd H p (.dT kvs) ∧ Q (.int kvs.length) H)) := by
  intro pins s σ H xs us Q I r ⟨p, e, h⟩
  subst e
  obtain ⟨u, rfl, rx⟩ := vals1 r
  obtain rfl : u = .ref p := rx
  rcases h with ⟨kvs, hp, q⟩ | ⟨kvs, hp, q⟩
  · exact d_len I hp fun t s' I' => ⟨.int kvs.length, H, I', ⟨_, rfl⟩, q⟩
  · obtain ⟨z, hd, ys, rel, dd⟩ := dt_rd I.hok hp
    have hl : kvs.length = ys.length := Paired.length rel
    have z' : ys.length ≤ sizeLine := by rw [← hl]; exact z
    refine call_len_dictH hd dd (by rw [sizeLine_eq] at z'; omega) ?_
    rw [← hl]
    exact ⟨.int kvs.length, H, I.tok _, ⟨_, rfl⟩, q⟩
theorem cd_len (hw : X.w = HW.w := by rfl) : CallD X (.builtin "len") gLen := by
  refine ⟨_, CallR.or call_len_seq (CallR.or call_len_str (CallR.or call_len_d call_len_dN)), fun xs ds S H P Q ex hd hg k => ?_⟩
  unfold gLen at hg
  split at hg
  · cases hd with
    | cons h t =>
      cases t
      rw [den_str h]
      exact .inr (.inl ⟨_, rfl, sz_of hg.1, k _ S H _ hg.2 (Gr.refl ex) (.int _)⟩)
  · cases hd with
    | cons h t =>
      cases t
      obtain ⟨a, kvs, rfl, h1, h2, h3⟩ := den_dT h
      subst h2
      rw [List.length_map] at hg
      exact .inr (.inr (.inl ⟨a, rfl, .inr ⟨kvs, ex.rd h1, k _ S H _ hg (Gr.refl ex) (.int _)⟩⟩))
  · cases hd with
    | cons h t =>
      cases t
      obtain ⟨a, kvs, rfl, h1, h2, h3⟩ := den_dK h
      subst h2
      rw [List.length_map] at hg
      exact .inr (.inr (.inl ⟨a, rfl, .inl ⟨kvs, ex.rd h1, k _ S H _ hg (Gr.refl ex) (.int _)⟩⟩))
  · cases hd with
    | cons h t =>
      cases t
      obtain ⟨a, c, kvs, rfl, h1, h2, h3, h4⟩ := den_dN h
      have hl := h2.length
      rw [List.length_map] at hl
      refine .inr (.inr (.inr ⟨a, c, kvs, rfl, ex.rd h1, fun q hq => (keysN_of h2 h3 q hq).mono fun b xs q => ex _ _ q, hw, ?_⟩))
      rw [hl]
      exact k _ S H _ hg (Gr.refl ex) (.int _)
  · cases hd with
    | cons h t =>
      cases t
      obtain ⟨ys, e, hP⟩ := hg
      obtain ⟨a, vs, rfl, h1, h2⟩ := den_seqL e h
      refine .inl ⟨a, vs, rfl, h1.imp ex.l ex.t, ?_⟩
      rw [h2.length]
      exact k _ S H _ hP (Gr.refl ex) (.int _)
  · exact hg.elim
def blsD : List D → (List Bool → Prop) → Prop
  | [], P => P []
  | .bl i :: ds, P => blsD ds fun is => P (i :: is)
  | _, _ => False
theorem blsD_inv {K : PySem.W.Frag} {S : Hp} : ∀ {ds : List D} {P : List Bool → Prop} {vs : List V}, blsD ds P → Dens K S vs ds → ∃ is, vs = is.map V.bl ∧ ds = is.map D.bl ∧ P is
  | [], P, _, h, .nil => ⟨[], rfl, rfl, h⟩
  | .bl i :: ds, P, _, h, .cons h1 h2 => by
    obtain ⟨is, e1, e2, hp⟩ := blsD_inv (ds := ds) h h2
    cases h1
    exact ⟨i :: is, by rw [e1]; rfl, by rw [e2]; rfl, hp⟩
def gAll : GD := fun ds P => match ds with
  | [.lst xs] => blsD xs fun bs => P (.bl (bs.all id))
  | _ => False
def gAny : GD := fun ds P => match ds with
  | [.lst xs] => blsD xs fun bs => P (.bl (bs.any id))
  | _ => False
theorem cd_all (hc : X.calm = true := by rfl) : CallD X (.builtin "all") gAll := by
  refine ⟨_, cr_all hc, fun xs ds S H P Q ex hd hg k => ?_⟩
  unfold gAll at hg
  split at hg
  · cases hd with
    | cons h t =>
      cases t
      obtain ⟨a, vs, rfl, h1, h2⟩ := den_lst h
      obtain ⟨bs, rfl, _, hP⟩ := blsD_inv hg h2
      exact ⟨a, bs, rfl, SqL.of (ex _ _ h1), k _ S H _ hP (Gr.refl ex) (.bl _)⟩
  · exact hg.elim
theorem cd_any (hc : X.calm = true := by rfl) : CallD X (.builtin "any") gAny := by
  refine ⟨_, cr_any hc, fun xs ds S H P Q ex hd hg k => ?_⟩
  unfold gAny at hg
  split at hg
  · cases hd with
    | cons h t =>
      cases t
      obtain ⟨a, vs, rfl, h1, h2⟩ := den_lst h
      obtain ⟨bs, rfl, _, hP⟩ := blsD_inv hg h2
      exact ⟨a, bs, rfl, SqL.of (ex _ _ h1), k _ S H _ hP (Gr.refl ex) (.bl _)⟩
  · exact hg.elim
def gSum : GD := fun ds P => match ds with
  | [x] => ∃ xs, seqL x = some xs ∧ intsD xs fun is => P (.int is.sum)
  | _ => False
def gTuple : GD := fun ds P => match ds with
  | [.lst xs] => P (.tup xs)
  | [.rol xs] => P (.tup xs)
  | [.tup xs] => P (.tup xs)
  | _ => False
theorem cd_tuple : CallD X (.type "tuple") gTuple := by
  refine ⟨_, call_tuple_of, fun xs ds S H P Q ex hd hg k => ?_⟩
  unfold gTuple at hg
  split at hg
  · cases hd with
    | cons h t =>
      cases t
      obtain ⟨a, vs, rfl, h1, h2⟩ := den_lst h
      refine ⟨a, vs, rfl, .inl ⟨SqL.of (ex _ _ h1), fun l hl => ?_⟩⟩
      have g := Gr.one (o := .tup vs) ex hl
      exact k _ _ _ _ hg g (.tup upd_same (h2.mono g.s))
  · cases hd with
    | cons h t =>
      cases t
      obtain ⟨a, vs, rfl, h1, h2⟩ := den_rol h
      refine ⟨a, vs, rfl, .inl ⟨ex.l h1, fun l hl => ?_⟩⟩
      have g := Gr.one (o := .tup vs) ex hl
      exact k _ _ _ _ hg g (.tup upd_same (h2.mono g.s))
  · cases hd with
    | cons h t =>
      cases t
      obtain ⟨a, vs, rfl, h1, h2⟩ := den_tup h
      exact ⟨a, vs, rfl, .inr ⟨SqT.of (ex _ _ h1), k _ S H _ hg (Gr.refl ex) (.tup h1 h2)⟩⟩
  · exact hg.elim
/-- list(d), d a dict of ints and texts -/
theorem call_list_dKR {X : Cx} (hc : X.calm = true) : CallR X (.type "list") (fun xs H Q => ∃ p kvs, xs = [.ref p] ∧ Rd H p (.dK kvs) ∧ ∀ q, H q = none → Q (.ref q) (upd H q (.lst (kvs.map fun kv => kV kv.1)))) := by
  intro pins s σ H xs us Q I r h
  obtain ⟨p, kvs, e, hk, q⟩ := h
  subst e
  obtain ⟨u, eu, rx⟩ := vals1 r
  subst eu
  obtain rfl : u = Value.ref p := rx
  obtain ⟨z, lo, vs, rk, hd⟩ := (show ObjOk X.prog X.w H s.heap p (.dK kvs) from hk.ok I.hok)
  obtain ⟨ep, hat⟩ := hd.dictAt
  have hl : kvs.length = vs.length := Paired.length rk
  refine PySem.W.kdl_call (PySem.W.kdl_dict (knd := mixKind X.prog X.w) (kvs := vs) (ep := ep) lo) (I.ok.hd hc) hat (by rw [← hl]; exact z) fun h' tk acc' c' hkeep hS hacc => ?_
  refine ⟨.ref s.heap.objs.size, upd H s.heap.objs.size (.lst (kvs.map fun kv => kV kv.1)), I.laid hkeep (Nat.le_refl _) (show ObjOk X.prog X.w _ _ _ (.lst (kvs.map fun kv => kV kv.1)) from ⟨?_, acc'.toList, c', ?_, ?_⟩), rfl, q _ (I.hok.fresh (Nat.le_refl _))⟩
  · rw [List.length_map]; exact z
  · have el : acc'.toList.length = acc'.size := by simp
    refine vals_of_at (by rw [List.length_map, el, hacc.1, hl]) fun j x w h1 h2 => ?_
    obtain ⟨k, y, hky, hi⟩ := hacc.2 j w (by rw [← Array.getElem?_toList]; exact h2)
    have e1 : (kvs.map (·.1))[j]? = some k := by
      rw [KV.keys rk, List.getElem?_map, hky] <;> rfl
    have e2 : (kvs.map fun kv => kV kv.1)[j]? = some (kV k) := by
      have e3 : (kvs.map fun kv => kV kv.1) = (kvs.map (·.1)).map kV := by rw [List.map_map] <;> rfl
      rw [e3, List.getElem?_map, e1] <;> rfl
    rw [e2] at h1
    cases h1
    exact keyIs_rel hi
  · rw [Array.toArray_toList]; exact hS
def gList : GD := fun ds P => match ds with
  | [.dT ks _] => P (.lst (ks.map fun k => .tup (k.map kD)))
  | [.dK ks _] => P (.lst (ks.map kD))
  | [.dN ks _] => P (.lst ks)
  | [x] => ∃ xs, seqL x = some xs ∧ P (.lst xs)
  | _ => False
/-- the stable heap with some tuples more -/
def addT (S H : Hp) (bs : List Addr) : Hp := fun a => if a ∈ bs then H a else S a
theorem addT_gr {S H : Hp} {bs : List Addr} (ex : Ex S H) (h : ∀ b ∈ bs, ∃ xs, H b = some (.tup xs)) : Gr S H (addT S H bs) H := by
  refine ⟨fun a o ha => ?_, Ex.refl H, fun a o ha => ?_, fun a ha => ?_⟩
  · unfold addT
    by_cases hb : a ∈ bs
    · rw [if_pos hb]; exact ex a o ha
    · rw [if_neg hb]; exact ha
  · unfold addT at ha
    by_cases hb : a ∈ bs
    · rw [if_pos hb] at ha; exact ha
    · rw [if_neg hb] at ha; exact ex a o ha
  · by_cases hb : a ∈ bs
    · exact .inr (.inr (h a hb))
    · unfold addT at ha
      rw [if_neg hb] at ha
      exact .inl ha
theorem keys_den {K : PySem.W.Frag} {S H : Hp} : ∀ {kvs : List (List Key × V)} {bs cs : List Addr}, IsKeys H kvs bs → (∀ b ∈ bs, b ∈ cs) → Dens K (addT S H cs) (bs.map V.ref) ((kvs.map (·.1)).map fun k => .tup (k.map kD))
  | [], _, _, .nil, _ => .nil
  | (k, v) :: kvs, b :: bs, cs, .cons h t, hm => by
    refine .cons (.tup (xs := k.map kV) ?_ (den_keys k)) (keys_den t fun c hc => hm c (List.mem_cons_of_mem _ hc))
    unfold addT
    rw [if_pos (hm b List.mem_cons_self)]
    exact h
theorem keys_tup {H : Hp} : ∀ {kvs : List (List Key × V)} {bs : List Addr}, IsKeys H kvs bs → ∀ b ∈ bs, ∃ xs, H b = some (.tup xs)
  | [], _, .nil, _, h => nomatch h
  | (k, v) :: kvs, b :: bs, .cons h t, c, hc => by
    rcases List.mem_cons.mp hc with rfl | hc
    · exact ⟨_, h⟩
    · exact keys_tup t c hc
theorem cf_list (hc : X.calm = true := by rfl) : CallF X (.type "list") gList := by
  refine ⟨_, CallR.or call_list_of (CallR.or (call_list_dT hc) (CallR.or (call_list_dKR hc) (call_list_dN hc))), fun xs ds S H P Q ex hd hg k => ?_⟩
  unfold gList at hg
  split at hg
  · cases hd with
    | cons h t =>
      cases t
      obtain ⟨a, kvs, rfl, h1, h2, h3⟩ := den_dT h
      subst h2
      refine .inr (.inl ⟨a, kvs, rfl, ex.rd h1, fun p bs hp ik => ?_⟩)
      have g1 := addT_gr ex (keys_tup ik)
      have g := g1.trans (Gr.hid (o := .lst (bs.map V.ref)) g1.sh hp)
      exact k p _ _ _ _ hg hp g (g1.sh.free hp) upd_same (keys_den ik fun _ h => h)
  · cases hd with
    | cons h t =>
      cases t
      obtain ⟨a, kvs, rfl, h1, h2, h3⟩ := den_dK h
      subst h2
      refine .inr (.inr (.inl ⟨a, kvs, rfl, ex.rd h1, fun p hp => ?_⟩))
      refine k p _ _ _ _ hg hp (Gr.hid (o := .lst (kvs.map fun kv => kV kv.1)) ex hp) (ex.free hp) upd_same ?_
      have := den_keys (K := X.K) (S := S) (kvs.map (·.1))
      rw [List.map_map] at this
      exact this
  · cases hd with
    | cons h t =>
      cases t
      obtain ⟨a, c, kvs, rfl, h1, h2, h3, h4⟩ := den_dN h
      refine .inr (.inr (.inr ⟨a, c, kvs, rfl, ex.rd h1, fun p hp => ?_⟩))
      exact k p _ _ _ _ hg hp (Gr.hid (o := .lst (kvs.map fun q => V.ref q.2.1)) ex hp) (ex.free hp) upd_same h2
  · cases hd with
    | cons h t =>
      cases t
      obtain ⟨ys, e, hP⟩ := hg
      obtain ⟨a, vs, rfl, h1, h2⟩ := den_seqL e h
      refine .inl ⟨a, vs, rfl, h1.imp ex.l ex.t, fun l hl => ?_⟩
      exact k l _ _ _ _ hP hl (Gr.hid (o := .lst vs) ex hl) (ex.free hl) upd_same h2
  · exact hg.elim
def gInt : GD := fun ds P => match ds with
  | [.int i] => P (.int i)
  | [.bl b] => P (.int (if b then 1 else 0))
  | _ => False
theorem cd_int : CallD X (.type "int") gInt := by
  refine ⟨_, call_int1, fun xs ds S H P Q ex hd hg k => ?_⟩
  unfold gInt at hg
  split at hg
  · cases hd with
    | cons h t =>
      cases t
      rw [den_int h]
      exact .inl ⟨_, rfl, k _ S H _ hg (Gr.refl ex) (.int _)⟩
  · cases hd with
    | cons h t =>
      cases t
      rw [den_bl h]
      exact .inr ⟨_, rfl, k _ S H _ hg (Gr.refl ex) (.int _)⟩
  · exact hg.elim
def gInt2 (h : Int → Int → Int) : GD := fun ds P => match ds with
  | [.int i, .int j] => P (.int (h i j))
  | _ => False
theorem cd_max (hc : X.calm = true := by rfl) : CallD X (.builtin "max") (gInt2 fun i j => if j > i then j else i) := by
  refine ⟨_, call_max2 hc, fun xs ds S H P Q ex hd hg k => ?_⟩
  unfold gInt2 at hg
  split at hg
  · cases hd with
    | cons h t =>
      cases t with
      | cons h2 t =>
        cases t
        rw [den_int h, den_int h2]
        exact ⟨_, _, rfl, k _ S H _ hg (Gr.refl ex) (.int _)⟩
  · exact hg.elim
theorem cd_min (hc : X.calm = true := by rfl) : CallD X (.builtin "min") (gInt2 fun i j => if j < i then j else i) := by
  refine ⟨_, call_min2 hc, fun xs ds S H P Q ex hd hg k => ?_⟩
  unfold gInt2 at hg
  split at hg
  · cases hd with
    | cons h t =>
      cases t with
      | cons h2 t =>
        cases t
        rw [den_int h, den_int h2]
        exact ⟨_, _, rfl, k _ S H _ hg (Gr.refl ex) (.int _)⟩
  · exact hg.elim
def gAbs : GD := fun ds P => match ds with
  | [.int i] => P (.int (if i < 0 then -i else i))
  | _ => False
theorem cd_abs : CallD X (.builtin "abs") gAbs := by
  refine ⟨_, call_abs, fun xs ds S H P Q ex hd hg k => ?_⟩
  unfold gAbs at hg
  split at hg
  · cases hd with
    | cons h t =>
      cases t
      rw [den_int h]
      exact ⟨_, rfl, k _ S H _ hg (Gr.refl ex) (.int _)⟩
  · exact hg.elim
/-- isinstance against a built-in class -/
def tyN : D → Option String
  | .non => some "NoneType"
  | .bl _ => some "bool"
  | .int _ => some "int"
  | .str _ => some "str"
  | .lst _ => some "list"
  | .tup _ => some "tuple"
  | .dK _ _ => some "dict"
  | _ => none
def isiT (t n : String) : Option Bool := if n = "int" ∨ n = "bool" ∨ n = "str" ∨ n = "list" ∨ n = "tuple" ∨ n = "dict" then some (decide (t = n) || (decide (t = "bool") && decide (n = "int"))) else none
def gIsi : GD := fun ds P => match ds with
  | [x, .ty n] => ∃ t b, tyN x = some t ∧ isiT t n = some b ∧ P (.bl b)
  | _ => False
theorem isi_kit {x : D} {t n : String} {b : Bool} (h : tyN x = some t) (h2 : isiT t n = some b) : kitB t n = some b := by
  unfold isiT at h2
  have ht : t = "NoneType" ∨ t = "bool" ∨ t = "int" ∨ t = "str" ∨ t = "list" ∨ t = "tuple" ∨ t = "dict" := by
    cases x <;> cases h <;> simp
  split at h2
  · rename_i hn
    cases h2
    rcases ht with rfl | rfl | rfl | rfl | rfl | rfl | rfl <;> rcases hn with rfl | rfl | rfl | rfl | rfl | rfl <;> decide +kernel
  · cases h2
end
end DL

/-! DL8: isinstance, changes of what is owned, calls by keywords, sorted. -/
namespace DL
open PySem PySem.Spec PyProof.Rows L2
variable [HW]

section
variable {X : Cx} {fi : List Nat} {fa : Nat → Addr} {e a b o i : Expr} {es : List Expr} {f fx fy fd fv fe fk : FE} {fs : FA} {pos pos' apos cpos : Pos}
theorem ty_of {K : PySem.W.Frag} {S H : Hp} {v : V} {d : D} {t : String} (ex : Ex S H) (h : tyN d = some t) (hd : Den K S v d) : TyX K H v (.type t) := by
  cases d with
  | non => cases h; rw [den_non hd]; exact .base .non
  | bl b => cases h; rw [den_bl hd]; exact .base (.bl b)
  | int b => cases h; rw [den_int hd]; exact .base (.int b)
  | str b => cases h; rw [den_str hd]; exact .base (.str b)
  | lst xs => cases h; obtain ⟨a, vs, rfl, h1, _⟩ := den_lst hd; exact .base (.lst (ex _ _ h1))
  | tup xs => cases h; obtain ⟨a, vs, rfl, h1, _⟩ := den_tup hd; exact .base (.tup (ex _ _ h1))
  | dK ks vs =>
    cases h
    obtain ⟨a, kvs, rfl, h1, _⟩ := den_dK hd
    rcases ex.rd h1 with h1 | ⟨ob, h1⟩
    · exact .base (.dK h1)
    · exact .fDict h1
  | _ => cases h
theorem cd_isi : CallD X (.builtin "isinstance") gIsi := by
  refine ⟨_, call_isi, fun xs ds S H P Q ex hd hg k => ?_⟩
  unfold gIsi at hg
  split at hg
  · obtain ⟨t, b, e1, e2, hP⟩ := hg
    cases hd with
    | cons h tl =>
      cases tl with
      | cons h2 tl =>
        cases tl
        rw [den_ty h2]
        exact ⟨_, _, .type t, _, b, rfl, .ty _, ty_of ex e1 h, kit_ty (isi_kit e1 e2), k _ S H _ hP (Gr.refl ex) (.bl b)⟩
  · exact hg.elim

/-! ### what is owned is changed -/
theorem rel_own {K : PySem.W.Frag} {σ : L2.St} {H S : Hp} {ρ : List Sl} {j : Nat} {c : D} (r : Rel K fi fa σ H S ρ) (h : ρ[j]? = some (.own c)) : ∃ p o, σ[j]? = some (some (.ref p)) ∧ S p = none ∧ H p = some o ∧ HOD K S o c := r.own j c h
def lstO (c : D) (P : List D → Prop) : Prop := match c with
  | .lst ds => P ds
  | _ => False
theorem lstO_inv {K : PySem.W.Frag} {S : Hp} {o : HO} {c : D} {P : List D → Prop} (h : lstO c P) (ho : HOD K S o c) : ∃ vs ds, o = .lst vs ∧ c = .lst ds ∧ Dens K S vs ds ∧ P ds := by
  unfold lstO at h
  split at h
  · cases o <;> first | exact ⟨_, _, rfl, rfl, ho, h⟩ | exact (show False from ho).elim
  · exact h.elim
/-- x[k] = e -/
def fSetO (j : Nat) (fe fk : FE) : FS := fun ρ P => fe ρ fun x ρ1 => ownD ρ1 j fun _ => fk ρ1 fun y ρ2 => asI y fun k => ownD ρ2 j fun c => lstO c fun ds => ∃ n, ixN ds.length k = some n ∧ P (.nx (ρ2.set j (.own (.lst (ds.set n x)))))
theorem psd_setO (j : Nat) {x : Str} {px : Pos} (he : PED X fi fa e fe) (hk : PED X fi fa i fk)
    (hg : ∀ ti, PE X i ti → PG X (.Subscript (.Name x px) i pos') (L2.gSub (tVar j) ti rSetL) := by exact fun _ h => pg_sub (pv _) h set_list)
    (hs : swapsWithSole [.Subscript (.Name x px) i pos'] e pos.line X.env = pure false := by rfl) (hw : swappedStores [.Subscript (.Name x px) i pos'] e X.env = pure none := by rfl)
    (h1 : (assignEach [.Subscript (.Name x px) i pos'] X.env).map (·.2) = [assign (.Subscript (.Name x px) i pos') X.env] := by rfl) :
    PSD X fi fa (.Assign [.Subscript (.Name x px) i pos'] e pos) (fSetO j fe fk) := by
  obtain ⟨t, p, ok⟩ := he
  obtain ⟨ti, pi, oki⟩ := hk
  refine ⟨_, ps_asg p (hg ti pi) hs hw h1, fun σ H S ρ P E r hf k => ok σ H S ρ _ _ r hf fun v H1 S1 d ρ1 h1 r1 t1 d1 => ?_⟩
  obtain ⟨c1, g1, h1⟩ := ownD_inv h1
  obtain ⟨q, o1, e1, _⟩ := r1.own j c1 g1
  refine ⟨_, e1, oki σ H1 S1 ρ1 _ _ r1 h1 fun u H2 S2 y ρ2 h2 r2 t2 d2 => ?_⟩
  obtain ⟨n, rfl, h2⟩ := asI_inv h2
  obtain ⟨c, g2, h2⟩ := ownD_inv h2
  obtain ⟨q', o', e2, e3, e4, e5⟩ := r2.own j c g2
  rw [e1] at e2
  cases e2
  obtain ⟨vs, ds, rfl, rfl, hd, m, hm, hP⟩ := lstO_inv h2 e5
  refine ⟨q, vs, n, m, rfl, den_int d2, e4, by rw [hd.length]; exact hm, ?_⟩
  have hod : HOD X.K S2 (.lst (vs.set m v)) (.lst (ds.set m d)) := hd.set (d1.mono t2.exS) m
  exact k.1 _ _ S2 _ hP (r2.upd g2 e1 hod) ((t1.trans t2).trans (Tr.upd g2 e1))
/-- x.append(e), x.extend(e) -/
def fApp (j : Nat) (fe : FE) : FS := fun ρ P => ownD ρ j fun c0 => lstO c0 fun _ => fe ρ fun x ρ1 => ownD ρ1 j fun c => lstO c fun ds => ds.length < 100000 ∧ P (.nx (ρ1.set j (.own (.lst (ds ++ [x])))))
theorem tyL {K : PySem.W.Frag} {H : Hp} {p : Addr} {xs : List V} (h : H p = some (.lst xs)) : tyV K "list" (.ref p) H := .inl ⟨rfl, xs, SqL.of h⟩
theorem psd_app (j : Nat) {x : Str} {px : Pos} (he : PED X fi fa e fe) (hna : starEach [e] X.env = (false, eval e X.env) :: starEach [] X.env := by rfl)
    (hp : ∀ ta, PA X [e] ta → PE X (.Call (.Attribute (.Name x px) "append" apos) [e] [] cpos) (tBM X.K "list" rAppend (tVar j) ta) := by exact fun _ h => pe_bm PySem.F.plainAttrs_list PySem.F.slot_list_append PySem.F.type_list_append mt_append (pv _) h)
    (hs : swapsWith (.Call (.Attribute (.Name x px) "append" apos) [e] [] cpos) none pos.line X.env = pure false := by rfl) :
    PSD X fi fa (.Expr (.Call (.Attribute (.Name x px) "append" apos) [e] [] cpos) pos) (fApp j fe) := by
  obtain ⟨t, p, ok⟩ := he
  refine ⟨_, ps_expr (hp _ (pa_cons p pa_nil hna)) hs, fun σ H S ρ P E r hf k => ?_⟩
  obtain ⟨c0, g0, hf⟩ := ownD_inv hf
  obtain ⟨q, o0, e0, e1, e2, e3⟩ := r.own j c0 g0
  obtain ⟨vs0, ds0, rfl, rfl, _, hf⟩ := lstO_inv hf e3
  refine ⟨_, e0, tyL e2, ok σ H S ρ _ _ r hf fun v H1 S1 d ρ1 h1 r1 t1 d1 => ?_⟩
  obtain ⟨c, g2, h2⟩ := ownD_inv h1
  obtain ⟨q', o', e4, e5, e6, e7⟩ := r1.own j c g2
  rw [e0] at e4
  cases e4
  obtain ⟨vs, ds, rfl, rfl, hd, hl, hP⟩ := lstO_inv h2 e7
  refine ⟨q, vs, v, rfl, rfl, e6, sz_lt (by rw [hd.length]; exact hl), ?_⟩
  have hod : HOD X.K S1 (.lst (vs ++ [v])) (.lst (ds ++ [d])) := hd.snoc d1
  exact k.1 _ _ S1 _ hP (r1.upd g2 e0 hod) (t1.trans (Tr.upd g2 e0))
def fExt (j : Nat) (fe : FE) : FS := fun ρ P => ownD ρ j fun c0 => lstO c0 fun _ => fe ρ fun x ρ1 => lstO x fun es => ownD ρ1 j fun c => lstO c fun ds => ds.length + es.length ≤ 100000 ∧ P (.nx (ρ1.set j (.own (.lst (ds ++ es)))))
theorem psd_ext (j : Nat) {x : Str} {px : Pos} (he : PED X fi fa e fe) (hna : starEach [e] X.env = (false, eval e X.env) :: starEach [] X.env := by rfl)
    (hp : ∀ ta, PA X [e] ta → PE X (.Call (.Attribute (.Name x px) "extend" apos) [e] [] cpos) (tBM X.K "list" rExtend (tVar j) ta) := by exact fun _ h => pe_bm PySem.F.plainAttrs_list PySem.F.slot_list_extend PySem.F.type_list_extend mt_extend (pv _) h)
    (hs : swapsWith (.Call (.Attribute (.Name x px) "extend" apos) [e] [] cpos) none pos.line X.env = pure false := by rfl) :
    PSD X fi fa (.Expr (.Call (.Attribute (.Name x px) "extend" apos) [e] [] cpos) pos) (fExt j fe) := by
  obtain ⟨t, p, ok⟩ := he
  refine ⟨_, ps_expr (hp _ (pa_cons p pa_nil hna)) hs, fun σ H S ρ P E r hf k => ?_⟩
  obtain ⟨c0, g0, hf⟩ := ownD_inv hf
  obtain ⟨q, o0, e0, e1, e2, e3⟩ := r.own j c0 g0
  obtain ⟨vs0, ds0, rfl, rfl, _, hf⟩ := lstO_inv hf e3
  refine ⟨_, e0, tyL e2, ok σ H S ρ _ _ r hf fun v H1 S1 d ρ1 h1 r1 t1 d1 => ?_⟩
  unfold lstO at h1
  split at h1
  · obtain ⟨b, zs, rfl, hb1, hb2⟩ := den_lst d1
    obtain ⟨c, g2, h2⟩ := ownD_inv h1
    obtain ⟨q', o', e4, e5, e6, e7⟩ := r1.own j c g2
    rw [e0] at e4
    cases e4
    obtain ⟨vs, ds, rfl, rfl, hd, hl, hP⟩ := lstO_inv h2 e7
    refine ⟨q, b, vs, zs, rfl, rfl, e6, r1.ex _ _ hb1, sz_of (by rw [hd.length, hb2.length]; exact hl), ?_⟩
    have hod : HOD X.K S1 (.lst (vs ++ zs)) (.lst (ds ++ _)) := hd.append hb2
    exact k.1 _ _ S1 _ hP (r1.upd g2 e0 hod) (t1.trans (Tr.upd g2 e0))
  · exact h1.elim
theorem hod_dT {K : PySem.W.Frag} {S : Hp} {kvs : List (List Key × V)} {ks : List (List Key)} {vs : List D} (h : HOD K S (.dT kvs) (.dT ks vs)) : ks = kvs.map (·.1) ∧ Dens K S (kvs.map (·.2)) vs := h
theorem hod_dK {K : PySem.W.Frag} {S : Hp} {kvs : List (Key × V)} {ks : List Key} {vs : List D} (h : HOD K S (.dK kvs) (.dK ks vs)) : ks = kvs.map (·.1) ∧ Dens K S (kvs.map (·.2)) vs := h
theorem hod_dN {K : PySem.W.Frag} {S : Hp} {o : HO} {ks vs : List D} (h : HOD K S o (.dN ks vs)) : ∃ b kvs, o = HoN b kvs ∧ Dens K S (kvs.map fun q => V.ref q.2.1) ks ∧ ks.map nk = kvs.map (fun q => some q.1) ∧ Dens K S (kvs.map fun q => q.2.2) vs := by
  cases o <;> first | exact h | exact (show False from h).elim
def putD (ks : List D) (y : D) : List D := if nk y ∈ ks.map nk then ks else ks ++ [y]
theorem replV_some {k : NestedKey} {x : D} : ∀ (kvs : List (NestedKey × Addr × V)) (ds : List D), replV (kvs.map fun q => some q.1) ds (some k) x = replV ((pvN kvs).map (·.1)) ds k x
  | [], _ => rfl
  | _ :: _, [] => rfl
  | p :: kvs, d :: ds => by
    show (if some p.1 = some k then x else d) :: replV (kvs.map fun q => some q.1) ds (some k) x = (if p.1 = k then x else d) :: replV ((pvN kvs).map (·.1)) ds k x
    rw [replV_some kvs ds]
    by_cases e : p.1 = k
    · rw [if_pos e, if_pos (by rw [e])]
    · rw [if_neg e, if_neg (fun z => e (Option.some.inj z))]
theorem putNK_ok {K : PySem.W.Frag} {S : Hp} {k : NestedKey} {b : Addr} {v : V} {x y : D} {kvs : List (NestedKey × Addr × V)} {ks ds : List D} (hx : Den K S v x) (hy : Den K S (.ref b) y) (ey : nk y = some k)
    (h2 : Dens K S (kvs.map fun q => V.ref q.2.1) ks) (h3 : ks.map nk = kvs.map (fun q => some q.1)) (h4 : Dens K S (kvs.map fun q => q.2.2) ds) :
    Dens K S ((putNK kvs k b v).map fun q => V.ref q.2.1) (putD ks y) ∧ (putD ks y).map nk = (putNK kvs k b v).map (fun q => some q.1) ∧ Dens K S ((putNK kvs k b v).map fun q => q.2.2) (putVs (ks.map nk) ds (some k) x) := by
  have hm : (nk y ∈ ks.map nk) ↔ (kvs.any fun q => decide (q.1 = k)) = true := by
    rw [ey, h3, List.any_eq_true, List.mem_map]
    exact ⟨fun ⟨q, hq, e⟩ => ⟨q, hq, decide_eq_true (Option.some.inj e)⟩, fun ⟨q, hq, e⟩ => ⟨q, hq, by rw [of_decide_eq_true e]⟩⟩
  have hm' : (some k ∈ ks.map nk) ↔ (kvs.any fun q => decide (q.1 = k)) = true := by rw [← ey]; exact hm
  unfold putD putVs putNK
  by_cases c : (kvs.any fun q => decide (q.1 = k)) = true
  · rw [if_pos (hm.mpr c), if_pos (hm'.mpr c), if_pos c]
    have e1 : ((kvs.map fun q => if q.1 = k then (q.1, q.2.1, v) else q).map fun q => V.ref q.2.1) = kvs.map fun q => V.ref q.2.1 := by
      rw [List.map_map]
      exact List.map_congr_left fun q _ => by show V.ref (if q.1 = k then (q.1, q.2.1, v) else q).2.1 = _; split <;> rfl
    have e2 : ((kvs.map fun q => if q.1 = k then (q.1, q.2.1, v) else q).map fun q => some q.1) = kvs.map fun q => some q.1 := by
      rw [List.map_map]
      exact List.map_congr_left fun q _ => by show some (if q.1 = k then (q.1, q.2.1, v) else q).1 = _; split <;> rfl
    refine ⟨by rw [e1]; exact h2, by rw [e2]; exact h3, ?_⟩
    rw [h3, replV_some]
    have := repl_val (kvs := pvN kvs) (k := k) hx (by rw [pvN_snd]; exact h4)
    have e3 : ((pvN kvs).map fun kv => if kv.1 = k then (kv.1, v) else kv).map (·.2) = (kvs.map fun q => if q.1 = k then (q.1, q.2.1, v) else q).map fun q => q.2.2 := by
      unfold pvN
      rw [List.map_map, List.map_map, List.map_map]
      refine List.map_congr_left fun q _ => ?_
      show (if q.1 = k then (q.1, v) else (q.1, q.2.2)).2 = (if q.1 = k then (q.1, q.2.1, v) else q).2.2
      split <;> rfl
    rw [e3] at this
    exact this
  · rw [if_neg fun z => c (hm.mp z), if_neg fun z => c (hm'.mp z), if_neg c]
    rw [List.map_append, List.map_append, List.map_append, List.map_append]
    refine ⟨h2.append (.one hy), ?_, h4.append (.one hx)⟩
    rw [h3]
    show _ ++ [nk y] = _
    rw [ey]
    rfl
/-- x[k] = e, x a dict -/
def dput (c y x : D) (P : D → Prop) : Prop := match c with
  | .dT ks vs => ∃ k, asTK y = some k ∧ ks.length < 100000 ∧ P (.dT (putKs ks k) (putVs ks vs k x))
  | .dK ks vs => ∃ k, asK y = some k ∧ ks.length < 100000 ∧ P (.dK (putKs ks k) (putVs ks vs k x))
  | .dN ks vs => ∃ k, nkT y = some k ∧ k.depth ≤ 8 ∧ ks.length < 100000 ∧ P (.dN (putD ks y) (putVs (ks.map nk) vs (some k) x))
  | _ => False
def fDPut (j : Nat) (fv fk : FE) : FS := fun ρ P => fv ρ fun x ρ1 => ownD ρ1 j fun _ => fk ρ1 fun y ρ2 => ownD ρ2 j fun c => dput c y x fun c' => P (.nx (ρ2.set j (.own c')))
theorem dput_ok {K : PySem.W.Frag} {S H : Hp} {p : Addr} {o : HO} {c y x : D} {v u : V} {P : D → Prop} (h : dput c y x P) (hp : H p = some o) (ho : HOD K S o c) (hy : Den K S u y) (hx : Den K S v x) (ex : Ex S H) : ∃ o' c', DPutX H p u v (upd H p o') ∧ HOD K S o' c' ∧ P c' := by
  unfold dput at h
  split at h
  · obtain ⟨k, e, hl, hP⟩ := h
    obtain ⟨b, rfl, hb⟩ := asTK_den e hy
    cases o with
    | dT kvs =>
      obtain ⟨e1, hd⟩ := hod_dT ho
      subst e1
      obtain ⟨q1, q2⟩ := put_val (k := k) hx hd
      rw [List.length_map] at hl
      exact ⟨_, _, .inl (.inr ⟨kvs, k, b, hp, rfl, ex _ _ hb, sz_lt hl, rfl⟩), (show HOD K S (.dT (putK kvs k v)) (.dT _ _) from ⟨q1, q2⟩), hP⟩
    | _ => exact (show False from ho).elim
  · obtain ⟨k, e, hl, hP⟩ := h
    obtain ⟨e1, e2⟩ := asK_den e hy
    subst e1
    cases o with
    | dK kvs =>
      obtain ⟨e1, hd⟩ := hod_dK ho
      subst e1
      obtain ⟨q1, q2⟩ := put_val (k := k) hx hd
      rw [List.length_map] at hl
      exact ⟨_, _, .inl (.inl ⟨kvs, k, hp, rfl, sz_lt hl, rfl⟩), (show HOD K S (.dK (putK kvs k v)) (.dK _ _) from ⟨q1, q2⟩), hP⟩
    | _ => exact (show False from ho).elim
  · obtain ⟨k, e, dp, hl, hP⟩ := h
    obtain ⟨c, kvs, rfl, h2, h3, h4⟩ := hod_dN ho
    obtain ⟨⟨b, rfl⟩, vk⟩ := nkT_den e hy
    have et : ∀ b xs, S b = some (.tup xs) → H b = some (.tup xs) := fun b xs q => ex _ _ q
    have ey : nk y = some k := by
      have := e
      unfold nkT at this
      split at this
      · exact this
      · cases this
    obtain ⟨q1, q2, q3⟩ := putNK_ok hx hy ey h2 h3 h4
    have hkl := h2.length
    rw [List.length_map] at hkl
    exact ⟨_, _, .inr ⟨kvs, k, b, c, hp, fun q hq => (keysN_of h2 h3 q hq).mono et, rfl, vk.mono et, dp, sz_lt (by rw [hkl]; exact hl), rfl⟩, (show HOD K S (HoN c (putNK kvs k b v)) (.dN _ _) from ⟨c, _, rfl, q1, q2, q3⟩), hP⟩
  · exact h.elim
theorem psd_dput (j : Nat) {x : Str} {px : Pos} (hu : X.A.units + 64 < cLine) (he : PED X fi fa e fv) (hk : PED X fi fa i fk) (hN : X.N[j]? = some x := by rfl) (hv : Vis X.env.scope x := by first | exact Or.inl rfl | exact Or.inr (Or.inl rfl) | exact Or.inr (Or.inr rfl))
    (hd : (x == ("__debug__" : Str)) = false := by decide) (hcd : (x == ("__classdict__" : Str)) = false := by decide)
    (hs : swapsWith e (some (.Subscript (.Name x px) i pos')) pos.line X.env = pure false := by rfl) (hw : X.w = HW.w := by rfl) : PSD X fi fa (.Assign [.Subscript (.Name x px) i pos'] e pos) (fDPut j fv fk) := by
  obtain ⟨t, p, ok⟩ := he
  obtain ⟨ti, pi, oki⟩ := hk
  refine ⟨_, ps_xput hw hu (pv j hN hv hd hcd) pi p hs, fun σ H S ρ P E r hf k => ok σ H S ρ _ _ r hf fun v H1 S1 d ρ1 h1 r1 t1 d1 => ?_⟩
  obtain ⟨c1, g1, h1⟩ := ownD_inv h1
  obtain ⟨q, o1, e1, _⟩ := r1.own j c1 g1
  refine ⟨_, e1, oki σ H1 S1 ρ1 _ _ r1 h1 fun u H2 S2 y ρ2 h2 r2 t2 d2 => ?_⟩
  obtain ⟨c, g2, h2⟩ := ownD_inv h2
  obtain ⟨q', o', e2, e3, e4, e5⟩ := r2.own j c g2
  rw [e1] at e2
  cases e2
  obtain ⟨o3, c3, hp, hod, hP⟩ := dput_ok h2 e4 e5 d2 (d1.mono t2.exS) r2.ex
  exact ⟨q, _, rfl, hp, k.1 _ _ S2 _ hP (r2.upd g2 e1 hod) ((t1.trans t2).trans (Tr.upd g2 e1))⟩
theorem pf_dnewT : PEF X fi fa (.Dict [] [] pos) (fC (.dT [] [])) := ⟨_, pe_dnewT, fun σ H S ρ P Q r hf k p hp => by
  obtain ⟨a1, a2, a3⟩ := ok_new (o := .dT []) (d := .dT [] []) (Tr.refl σ H S ρ) r hp ⟨rfl, .nil⟩
  exact k _ _ _ _ ρ hf a1 a2 a3⟩
theorem pf_dnewK : PEF X fi fa (.Dict [] [] pos) (fC (.dK [] [])) := ⟨_, pe_dnewK, fun σ H S ρ P Q r hf k p hp => by
  obtain ⟨a1, a2, a3⟩ := ok_new (o := .dK []) (d := .dK [] []) (Tr.refl σ H S ρ) r hp ⟨rfl, .nil⟩
  exact k _ _ _ _ ρ hf a1 a2 a3⟩
/-- list(x), x an owned dict or list, which stays owned -/
def fListO (j : Nat) : FE := fun ρ P => ownD ρ j fun c => gList [c] fun d => P d ρ
theorem gList_ok {K : PySem.W.Frag} {S H : Hp} {p : Addr} {o : HO} {c : D} {P : D → Prop} {Q : VK} (ex : Ex S H) (hp : H p = some o) (ho : HOD K S o c) (h : gList [c] P)
    (k : ∀ q S' H' o d, P d → H q = none → Gr S H S' H' → S' q = none → H' q = some o → HOD K S' o d → Q (.ref q) H') :
    (∃ p' ys, ([.ref p] : List V) = [.ref p'] ∧ (SqL K H p' ys ∨ SqT K H p' ys) ∧ ∀ l, H l = none → Q (.ref l) (upd H l (.lst ys))) ∨ ((∃ d kvs, ([.ref p] : List V) = [V.ref d] ∧ Rd H d (.dT kvs) ∧ ∀ q bs, H q = none → IsKeys H kvs bs → Q (.ref q) (upd H q (.lst (bs.map V.ref)))) ∨ ((∃ p' kvs, ([.ref p] : List V) = [.ref p'] ∧ Rd H p' (.dK kvs) ∧ ∀ q, H q = none → Q (.ref q) (upd H q (.lst (kvs.map fun kv => kV kv.1)))) ∨ ∃ d c kvs, ([.ref p] : List V) = [V.ref d] ∧ Rd H d (HoN c kvs) ∧ ∀ q, H q = none → Q (.ref q) (upd H q (.lst (kvs.map fun q => V.ref q.2.1))))) := by
  cases c with
  | dT ks vs =>
    cases o with
    | dT kvs =>
      obtain ⟨e1, hd⟩ := hod_dT ho
      subst e1
      refine .inr (.inl ⟨p, kvs, rfl, .inl hp, fun q bs hq ik => ?_⟩)
      have g1 := addT_gr ex (keys_tup ik)
      have g := g1.trans (Gr.hid (o := .lst (bs.map V.ref)) g1.sh hq)
      exact k q _ _ _ _ h hq g (g1.sh.free hq) upd_same (keys_den ik fun _ h => h)
    | _ => exact (show False from ho).elim
  | dK ks vs =>
    cases o with
    | dK kvs =>
      obtain ⟨e1, hd⟩ := hod_dK ho
      subst e1
      refine .inr (.inr (.inl ⟨p, kvs, rfl, .inl hp, fun q hq => ?_⟩))
      refine k q _ _ _ _ h hq (Gr.hid (o := .lst (kvs.map fun kv => kV kv.1)) ex hq) (ex.free hq) upd_same ?_
      have := den_keys (K := K) (S := S) (kvs.map (·.1))
      rw [List.map_map] at this
      exact this
    | _ => exact (show False from ho).elim
  | dN ks vs =>
    obtain ⟨c, kvs, rfl, h2, h3, h4⟩ := hod_dN ho
    refine .inr (.inr (.inr ⟨p, c, kvs, rfl, .inl hp, fun q hq => ?_⟩))
    exact k q _ _ _ _ h hq (Gr.hid (o := .lst (kvs.map fun q => V.ref q.2.1)) ex hq) (ex.free hq) upd_same h2
  | lst ds =>
    cases o with
    | lst vs =>
      obtain ⟨ys, e, hP⟩ := h
      cases e
      refine .inl ⟨p, vs, rfl, .inl (SqL.of hp), fun l hl => ?_⟩
      exact k l _ _ _ _ hP hl (Gr.hid (o := .lst vs) ex hl) (ex.free hl) upd_same ho
    | _ => exact (show False from ho).elim
  | _ => exact (show False from by (obtain ⟨_, e, _⟩ := h; cases e <;> (cases o <;> exact ho))).elim
theorem pf_listO (j : Nat) {x y : Str} {p py : Pos} (hg : Gl X x) (hm : X.mg x = none) (hN : X.N[j]? = some y := by rfl) (hvis : Vis X.env.scope y := by first | exact Or.inl rfl | exact Or.inr (Or.inl rfl) | exact Or.inr (Or.inr rfl))
    (hd : (y == ("__debug__" : Str)) = false := by decide) (hcd : (y == ("__classdict__" : Str)) = false := by decide) (hc : X.calm = true := by rfl)
    (hv : bootBuiltins x = some (.type "list") := by decide +kernel) (hn : x ≠ "__name__" := by decide) (hdb : (x == ("__debug__" : Str)) = false := by decide)
    (he : starEach [Expr.Name y py] X.env = (false, eval (Expr.Name y py) X.env) :: starEach [] X.env := by rfl) (hpl : (backTo pos (starEach [] X.env)).any (·.1) = false := by rfl) :
    PEF X fi fa (.Call (.Name x p) [.Name y py] [] pos) (fListO j) := by
  refine ⟨_, pe_callTy (CallR.or call_list_of (CallR.or (call_list_dT hc) (CallR.or (call_list_dKR hc) (call_list_dN hc)))) hg hm hv (pa_cons (pv j hN hvis hd hcd) pa_nil he) hn hdb he hpl, fun σ H S ρ P Q r hf k => ?_⟩
  obtain ⟨c, h0, hf⟩ := ownD_inv hf
  obtain ⟨q, o, e1, e2, e3, e4⟩ := r.own j c h0
  refine ⟨_, e1, gList_ok r.ex e3 e4 hf fun l S' H' o' d hP hl g hs ho' hod => ?_⟩
  exact k _ H' S' d ρ hP (r.grow g) g.tr (fresh_of (H1 := H) r (Tr.refl σ H S ρ) hl S' H' hs ho' hod)
end
end DL

/-! DL9: calls by keywords alone; sorted of tuples of ints, any length. -/
namespace DL
open PySem PySem.Spec PyProof.Rows L2
variable [HW]

/-! ### keywords -/
def permL {α : Type} (ix : List Nat) (l : List α) : List α := ix.filterMap (l[·]?)
theorem vals_perm {vs : List V} {us : List Value} (h : Vals vs us) : ∀ ix : List Nat, Vals (permL ix vs) (permL ix us)
  | [] => .nil
  | i :: ix => by
    unfold permL
    rw [List.filterMap_cons, List.filterMap_cons]
    cases q : vs[i]? with
    | none => rw [h.none_of q]; exact vals_perm h ix
    | some v =>
      obtain ⟨u, e, r⟩ := h.get q
      rw [e]
      exact .cons r (vals_perm h ix)
theorem dens_perm {K : PySem.W.Frag} {S : Hp} {vs : List V} {ds : List D} (h : Dens K S vs ds) : ∀ ix : List Nat, Dens K S (permL ix vs) (permL ix ds)
  | [] => .nil
  | i :: ix => by
    unfold permL
    rw [List.filterMap_cons, List.filterMap_cons]
    cases q : vs[i]? with
    | none =>
      have : ds[i]? = none := by
        rw [List.getElem?_eq_none_iff, ← h.length]
        exact List.getElem?_eq_none_iff.mp q
      rw [this]; exact dens_perm h ix
    | some v =>
      obtain ⟨u, e, r⟩ := h.getV q
      rw [e]
      exact .cons r (dens_perm h ix)
/-- all parameters by keywords: ks their names as written, ix where each parameter stands among them -/
def KB0 (K : PySem.W.Frag) (fd : FuncData) (ps ks : List Str) (ix : List Nat) : Prop := ∀ (s : Shared) (ws : List Value), K.In s.heap → ws.length = ks.length → BindsTo s fd ⟨[], ks.zip ws⟩ (ps.zip (permL ix ws))
theorem kb0_of {K : PySem.W.Frag} {x qual : Str} {st : Stmt} {f : Addr} {fd : FuncData} {ps ks : List Str} {ix : List Nat} (F : Fun K x qual st f fd)
    (h : ∀ (kV doc pm : Value) (an : Option Addr) (cdv ct : Value) (us : List Value), us.length = ks.length → bindArgs (PySem.W.fnOf x qual (defArgs st) (defBody st) (defScope st) .none kV doc pm an cdv ct) ⟨[], ks.zip us⟩ = pure (ps.zip (permL ix us))) : KB0 K fd ps ks ix := by
  obtain ⟨oc, od, kV, doc, pm, an, cdv, ct, osl, rfl, lk, hcd⟩ := F.ex
  exact fun s ws _ hl => .of_eq (h kV doc pm an cdv ct ws hl)
section
variable {X : Cx} {fi : List Nat} {fa : Nat → Addr} {fs : FA} {pos p kpos : Pos} {CX : CXT} {k n : Nat} {f : Addr} {fd : FuncData} {ps ks : List Str} {E : XK} {x : Str} {kws : List Keyword} {e : Expr} {fe : FE} {nm : Option Str}
def PKD (X : Cx) (fi : List Nat) (fa : Nat → Addr) (kws : List Keyword) (f : FA) : Prop := ∃ t, PK X kws t ∧ OkA X.K fi fa t f
theorem pkd_nil : PKD X fi fa [] fNil := ⟨_, pk_nil, fun σ H S ρ P Q r hf k => k [] H S [] ρ hf r (Tr.refl σ H S ρ) .nil⟩
theorem pkd_cons {nm : Option Str} (h : PED X fi fa e fe) (hr : PKD X fi fa kws fs) : PKD X fi fa (⟨nm, e, kpos⟩ :: kws) (fCons fe fs) := by
  obtain ⟨t, q, o⟩ := h
  obtain ⟨u, q2, w⟩ := hr
  exact ⟨_, pk_cons q q2, fun σ H S ρ P Q r hf k => o σ H S ρ _ _ r hf fun v H1 S1 d ρ1 hf1 r1 t1 d1 => w σ H1 S1 ρ1 _ _ r1 hf1 fun vs H2 S2 ds ρ2 hf2 r2 t2 d2 => k _ H2 S2 _ ρ2 hf2 r2 (t1.trans t2) (.cons (d1.mono t2.exS) d2)⟩
def fCallK (ix : List Nat) (n m : Nat) (g : GD) (fs : FA) : FE := fun ρ P => fs ρ fun ds ρ1 => ds.length = m ∧ (permL ix ds).length = n ∧ g (permL ix ds) fun d => P d ρ1
def tCallK0 (ix : List Nat) (m : Nat) (sp : Sp) (E : XK) (tk : TA) : TE := fun σ H Q => tk σ H fun zs H2 => zs.length = m ∧ sp (permL ix zs) H2 Q E
theorem pe_callK0 {sp : Sp} {ix : List Nat} {tk : TA} (F : FnOk X.prog X.w X.K X.mg X.base CX k f fd ps sp) (hr : Room k X.A) (hg : Gl X x) (hm : X.mg x = some (.ref f)) (hk : PySem.W.keepIn X.K (.ref f) = true) (hb : KB0 X.K fd ps ks ix) (hx : Passes CX X E)
    (hkw : PK X kws tk) (hall : (backToKw pos (keywordEach kws X.env)).all (·.1.isSome) = true := by rfl) (hks : (backToKw pos (keywordEach kws X.env)).filterMap (·.1) = ks := by rfl) (hdb : (x == ("__debug__" : Str)) = false := by decide)
    (hpl : ((backTo pos (starEach [] X.env)).any (·.1) || (backToKw pos (keywordEach kws X.env)).any (·.1.isNone)) = false := by rfl) : PE X (.Call (.Name x p) [] kws pos) (tCallK0 ix ks.length sp E tk) := by
  refine ⟨fun pins s σ H Q I h => ?_⟩
  refine wpAny_Call_Name_kw (ld_glob I hg hm ?_ hdb)
  refine PySem.W.callWith_KW0 (h₀ := X.base) I.ok.mod.kin hk hall (thn (hkw.run pos pins s σ H _ I h) fun ws s2 ⟨zs, H2, I2, rz, hl, q2⟩ => ⟨I2.kIn, ?_⟩) hpl
  rw [hks]
  have rp := vals_perm rz ix
  refine wpAny_call (codeAny_mono (F.run X.A X.stack s2 H2 ⟨[], ks.zip ws⟩ (permL ix ws) (permL ix zs) Q E hr I2.env0 (hb s2 ws I2.kIn (by rw [← rz.length]; exact hl)) rp q2) fun r s' hq => ?_)
  cases r with
  | error e => exact hx pins σ H2 s2 e s' I2 hq
  | ok fl =>
    cases fl with
    | ret u => exact I2.after hq
    | next => exact False.elim hq
    | brk => exact False.elim hq
    | cont => exact False.elim hq
theorem pd_callK {g : GD} (ix : List Nat) (ks : List Str) (F : FnOk X.prog X.w X.K X.mg X.base CX k f fd ps (spP X.K n g)) (hr : Room k X.A) (hg : Gl X x) (hm : X.mg x = some (.ref f)) (hk : PySem.W.keepIn X.K (.ref f) = true) (hb : KB0 X.K fd ps ks ix) (hx : Passes CX X E)
    (hkw : PKD X fi fa kws fs) (hall : (backToKw pos (keywordEach kws X.env)).all (·.1.isSome) = true := by rfl) (hks : (backToKw pos (keywordEach kws X.env)).filterMap (·.1) = ks := by rfl) (hdb : (x == ("__debug__" : Str)) = false := by decide)
    (hpl : ((backTo pos (starEach [] X.env)).any (·.1) || (backToKw pos (keywordEach kws X.env)).any (·.1.isNone)) = false := by rfl) : PED X fi fa (.Call (.Name x p) [] kws pos) (fCallK ix n ks.length g fs) := by
  obtain ⟨t, q, ok⟩ := hkw
  refine ⟨_, pe_callK0 F hr hg hm hk hb hx q hall hks hdb hpl, fun σ H S ρ P Q r hf k => ok σ H S ρ _ _ r hf fun vs H1 S1 ds ρ1 hP r1 t1 hd => ?_⟩
  refine ⟨by rw [hd.length]; exact hP.1, S1, permL ix ds, _, hP.2.1, r1.ex, dens_perm hd ix, hP.2.2, fun v S' H' d hp gr den => k v H' S' d ρ1 hp (r1.grow gr) (t1.trans gr.tr) den⟩
end

/-! ### sorted -/
namespace Srt2
open PyProof.Rows.G PySem.W
def sh0 : Nat → Bool := fun _ => false
theorem items_ints : ∀ {ns : List Int} {us : List Value} (i : Nat), Vals (ns.map V.int) us → tupItems sh0 i us = some (ns.map Sum.inl)
  | [], _, _, .nil => rfl
  | n :: ns, _, i, .cons r t => by
    obtain ⟨tk, rfl⟩ := r
    show (if sh0 i = true then none else (tupItems sh0 (i + 1) _).map (Sum.inl n :: ·)) = _
    rw [if_neg (by unfold sh0; exact Bool.false_ne_true), items_ints (i + 1) t]
    rfl
theorem lex_eq : ∀ a b : List Int, PyProof.Rows.lexLt itemOrd (a.map Sum.inl) (b.map Sum.inl) = HT.lexLt a b
  | [], [] => rfl
  | [], _ :: _ => rfl
  | _ :: _, [] => rfl
  | x :: xs, y :: ys => by
    show (decide (x < y) || (!decide (y < x) && PyProof.Rows.lexLt itemOrd (xs.map Sum.inl) (ys.map Sum.inl))) = HT.lexLt (x :: xs) (y :: ys)
    rw [lex_eq xs ys, HT.lexLt_cons]
    by_cases h : x = y
    · subst h
      rw [if_pos rfl, decide_eq_false (Int.lt_irrefl x)]
      simp
    · rw [if_neg h]
      by_cases h2 : x < y
      · rw [decide_eq_true h2]; rfl
      · rw [decide_eq_false h2, decide_eq_true (show y < x by omega)]; rfl
end Srt2
/-- sorted(xs): k says which ints each item has -/
def rSortTu (K : PySem.W.Frag) : List V → Hp → VK → Prop := fun vs H Q => ∃ (a : Addr) (xs : List V) (k : V → List Int), vs = [V.ref a] ∧ SqL K H a xs ∧ (∀ x ∈ xs, ∃ t, x = V.ref t ∧ H t = some (.tup ((k x).map V.int)) ∧ k x ≠ []) ∧
  ∀ ys p, ys.Perm xs → ys.Pairwise (fun x y => HT.lexLt (k y) (k x) = false) → H p = none → Q (.ref p) (upd H p (.lst ys))
section
variable {X : Cx}
open PyProof.Rows.G PySem.W Srt2 in
theorem cr_sortTu : CallR X (.builtin "sorted") (rSortTu X.K) := by
  intro pins s σ H vs us Q I r h
  obtain ⟨a, xs, k, rfl, hs, hx, q⟩ := h
  obtain ⟨its, rv, hl, hz⟩ := I.list hs
  obtain ⟨u, rfl, ru⟩ := vals1 r
  obtain rfl : u = Value.ref a := ru
  obtain ⟨e1, e2⟩ := refs_back rv fun x m => by
    obtain ⟨t, e, _⟩ := hx x m
    exact ⟨t, e⟩
  -- each item's object
  have obj : ∀ v ∈ its, ∃ (t : Addr) (o : Obj) (zs : List Value) (n : Nat), v = .ref t ∧ s.heap.get? t = some o ∧ o.cls = .type "tuple" ∧ o.data = .seq zs.toArray n ∧ Vals ((k (backV v)).map V.int) zs ∧ k (backV v) ≠ [] := fun v hv => by
    obtain ⟨t, rfl⟩ := e2 v hv
    have hm : V.ref t ∈ xs := by rw [e1]; exact List.mem_map.mpr ⟨_, hv, rfl⟩
    obtain ⟨t', e, ht, hne⟩ := hx _ hm
    cases e
    obtain ⟨_, zs, r2, o, ho, hc, n, hd⟩ := I.hok _ _ ht
    exact ⟨t, o, zs, n, rfl, ho, hc, hd, r2, hne⟩
  have key : ∀ v ∈ its, tupKeyC s.heap sh0 v = some ((k (backV v)).map Sum.inl) := fun v hv => by
    obtain ⟨t, o, zs, n, rfl, ho, hc, hd, r2, _⟩ := obj v hv
    unfold tupKeyC
    have c1 : isTupObj s.heap (.ref t) = true := by
      unfold isTupObj
      simp only [ho, hc]
      rfl
    rw [if_pos c1]
    unfold tupKey
    simp only [ho, hd]
    exact items_ints 0 r2
  have tups : ∀ l : List Value, (∀ v ∈ l, v ∈ its) → ∃ fs, TupsOf s.heap sh0 l fs := fun l => by
    induction l with
    | nil => exact fun _ => ⟨[], .nil⟩
    | cons v l ih =>
      intro hm
      obtain ⟨fs, h⟩ := ih fun u hu => hm u (List.mem_cons_of_mem _ hu)
      obtain ⟨t, o, zs, n, rfl, ho, hc, hd, r2, hne⟩ := obj v (hm v List.mem_cons_self)
      cases hk : k (backV (.ref t)) with
      | nil => exact absurd hk hne
      | cons n0 ns =>
        rw [hk] at r2
        cases r2 with
        | cons rr tt =>
          obtain ⟨tk, rfl⟩ := rr
          exact ⟨_, .cons ⟨t, o, _, n, rfl, ho, hc, hd, rfl, fun _ => ⟨n0, tk, rfl⟩, fun h => absurd h (by unfold sh0; exact Bool.false_ne_true)⟩ h⟩
  obtain ⟨fs, ht⟩ := tups its fun _ h => h
  refine sorted_tups hl.isList ht (fun v hv => ⟨_, key v hv⟩) (by rw [← rv.length]; exact hz) fun st' h1 h2 _ => ?_
  have pm : ((arrOf st').map (·.2)).toList.Perm its := by
    have := h1.toList.map (·.2)
    rw [pairsOf_toList] at this
    rw [Array.toList_map]
    refine this.trans ?_
    have z : ∀ l : List Value, (l.zip l).map (·.2) = l := fun l => by
      induction l with
      | nil => rfl
      | cons x l ih => rw [List.zip_cons_cons, List.map_cons, ih]
    rw [z]
  have mem : ∀ p ∈ (arrOf st').toList, p.1 = p.2 ∧ p.2 ∈ its := fun p hp => by
    have := (h1.toList.mem_iff).mp hp
    rw [pairsOf_toList] at this
    have z : ∀ l : List Value, ∀ p ∈ l.zip l, p.1 = p.2 ∧ p.2 ∈ l := fun l => by
      induction l with
      | nil => intro p hp; cases hp
      | cons x l ih =>
        intro p hp
        rw [List.zip_cons_cons] at hp
        rcases List.mem_cons.mp hp with rfl | hp
        · exact ⟨rfl, List.mem_cons_self⟩
        · exact ⟨(ih p hp).1, List.mem_cons_of_mem _ (ih p hp).2⟩
    exact z its p this
  have so : (((arrOf st').map (·.2)).toList.map backV).Pairwise (fun x y => HT.lexLt (k y) (k x) = false) := by
    rw [List.pairwise_map, Array.toList_map, List.pairwise_map, List.pairwise_iff_getElem]
    intro i j hi hj hij
    have sz : (arrOf st').size = (pairsOf its).size := h1.size_eq
    have hj' : j < (arrOf st').size := by simpa using hj
    have hi' : i < (arrOf st').size := by simpa using hi
    have le := h2 i j (Nat.le_of_lt hij) (by rw [← sz]; exact hj')
    have kk : ∀ m (hm : m < (arrOf st').size), KK (tupKindC s.heap sh0) (arrOf st') m = (k (backV ((arrOf st')[m]).2)).map Sum.inl := fun m hm => by
      obtain ⟨a1, a2⟩ := mem _ (Array.getElem_mem_toList hm)
      unfold KK
      rw [Array.getElem?_eq_getElem hm]
      show (tupKeyC s.heap sh0 ((arrOf st')[m]).1).getD _ = _
      rw [a1, key _ a2]
      rfl
    rw [kk i hi', kk j hj'] at le
    have le' : PyProof.Rows.lexLt itemOrd ((k (backV ((arrOf st')[j]).2)).map Sum.inl) ((k (backV ((arrOf st')[i]).2)).map Sum.inl) = false := le
    rw [lex_eq] at le'
    simpa using le'
  have h3 : ∀ u ∈ ((arrOf st').map (·.2)).toList, ∃ a, u = Value.ref a := fun u hu => e2 u (pm.mem_iff.mp hu)
  obtain ⟨ee, hat⟩ := sortedAll_at s.heap its ((arrOf st').map (·.2))
  refine ⟨.ref (s.heap.objs.size + 1), upd H (s.heap.objs.size + 1) (.lst (((arrOf st').map (·.2)).toList.map backV)), I.laid (t' := s.toks) (fun b o e => sortedAll_old e) (Nat.le_succ _) ⟨?_, _, ee, vals_back h3, ?_⟩, rfl, q _ _ ?_ so (I.hok.fresh (Nat.le_succ _))⟩
  · rw [List.length_map, pm.length_eq, ← rv.length]; exact hz
  · rw [hat]
  · rw [e1]; exact pm.map backV
/-- lists of tuples of ints -/
def tupI (ns : List Int) : D := .tup (ns.map .int)
def gSortT : GD := fun ds P => ∃ L : List (List Int), ds = [.lst (L.map tupI)] ∧ (∀ l ∈ L, l ≠ []) ∧ ∀ L' : List (List Int), L'.Perm L → L'.Pairwise (fun x y => HT.lexLt y x = false) → P (.lst (L'.map tupI))
theorem den_tupI {K : PySem.W.Frag} {S : Hp} {v : V} {ns : List Int} (h : Den K S v (tupI ns)) : ∃ t, v = .ref t ∧ S t = some (.tup (ns.map V.int)) := by
  obtain ⟨a, xs, rfl, h1, h2⟩ := den_tup h
  rw [Dens.ints_inv h2] at h1
  exact ⟨a, rfl, h1⟩
theorem tupI_den {K : PySem.W.Frag} {S : Hp} {t : Addr} {ns : List Int} (h : S t = some (.tup (ns.map V.int))) : Den K S (.ref t) (tupI ns) := .tup h (Dens.ints ns)
def intOf : V → Int
  | .int i => i
  | _ => 0
def keyOfS (S : Hp) (v : V) : List Int := match v with
  | .ref t => match S t with
    | some (.tup xs) => xs.map intOf
    | _ => []
  | _ => []
theorem intOf_map (ns : List Int) : (ns.map V.int).map intOf = ns := by
  rw [List.map_map]
  exact (List.map_congr_left fun _ _ => rfl).trans (List.map_id ns)
theorem keyOfS_at {K : PySem.W.Frag} {S : Hp} {v : V} {ns : List Int} (h : Den K S v (tupI ns)) : keyOfS S v = ns := by
  obtain ⟨t, rfl, h'⟩ := den_tupI h
  show (match S t with | some (.tup xs) => xs.map intOf | _ => []) = ns
  rw [h']
  exact intOf_map ns
theorem cf_sortT : CallF X (.builtin "sorted") gSortT := by
  refine ⟨_, cr_sortTu, fun xs ds S H P Q ex hd hg k => ?_⟩
  obtain ⟨L, rfl, hne, hP⟩ := hg
  cases hd with
  | cons h t =>
    cases t
    obtain ⟨a, vs, rfl, h1, h2⟩ := den_lst h
    have each : ∀ v ∈ vs, Den X.K S v (tupI (keyOfS S v)) ∧ keyOfS S v ∈ L := fun v hv => by
      obtain ⟨i, hi⟩ := List.mem_iff_getElem?.mp hv
      obtain ⟨d, h3, h4⟩ := h2.getV hi
      rw [List.getElem?_map] at h3
      cases hl : L[i]? with
      | none => rw [hl] at h3; cases h3
      | some l =>
        rw [hl] at h3
        cases h3
        have := keyOfS_at h4
        rw [this]
        exact ⟨h4, List.mem_of_getElem? hl⟩
    refine ⟨a, vs, keyOfS S, rfl, SqL.of (ex _ _ h1), fun v hv => ?_, fun ys p hp so h0 => ?_⟩
    · obtain ⟨g1, g2⟩ := each v hv
      obtain ⟨t, rfl, h3⟩ := den_tupI g1
      exact ⟨t, rfl, ex _ _ h3, hne _ g2⟩
    · have den : ∀ zs : List V, (∀ z ∈ zs, z ∈ vs) → Dens X.K S zs ((zs.map (keyOfS S)).map tupI) := fun zs => by
        induction zs with
        | nil => exact fun _ => .nil
        | cons z zs ih => exact fun hm => .cons (each z (hm z List.mem_cons_self)).1 (ih fun u hu => hm u (List.mem_cons_of_mem _ hu))
      have eL : vs.map (keyOfS S) = L := by
        have : ∀ (vs : List V) (L : List (List Int)), Dens X.K S vs (L.map tupI) → vs.map (keyOfS S) = L := fun vs => by
          induction vs with
          | nil => intro L h; cases L with
            | nil => rfl
            | cons _ _ => cases h
          | cons v vs ih => intro L h; cases L with
            | nil => cases h
            | cons l L =>
              cases h with
              | cons a b => rw [List.map_cons, keyOfS_at a, ih L b]
        exact this vs L h2
      refine k p S (upd H p (.lst ys)) (.lst ys) _ (hP (ys.map (keyOfS S)) ?_ ?_) h0 (Gr.hid ex h0) (ex.free h0) upd_same (den ys fun z hz => hp.mem_iff.mp hz)
      · rw [← eL]; exact hp.map _
      · exact List.pairwise_map.mpr so
end
end DL

/-! DLA: defs as they are known to their callers; loops by an invariant; more rules. -/
namespace DL
open PySem PySem.Spec PyProof.Rows L2
variable [HW]

/-- a def that a text may call: where it stands, what it promises -/
structure Df (P : Program) (w : World) (K : PySem.W.Frag) (mg : Str → Option Value) (base : Heap) (L : Nat) (x : Str) (ps : List Str) (sp : Sp) : Prop where
  ex : ∃ (f : Addr) (fd : FuncData), FnOk P w K mg base CX0 L f fd ps sp ∧ mg x = some (.ref f) ∧ PySem.W.keepIn K (.ref f) = true ∧ Binds K fd ps []
/-- .. by keywords alone -/
structure Dk (P : Program) (w : World) (K : PySem.W.Frag) (mg : Str → Option Value) (base : Heap) (L : Nat) (x : Str) (ps ks : List Str) (ix : List Nat) (sp : Sp) : Prop where
  ex : ∃ (f : Addr) (fd : FuncData), FnOk P w K mg base CX0 L f fd ps sp ∧ mg x = some (.ref f) ∧ PySem.W.keepIn K (.ref f) = true ∧ KB0 K fd ps ks ix
section
variable {X : Cx} {fi : List Nat} {fa : Nat → Addr} {e : Expr} {es : List Expr} {fs : FA} {pos p : Pos} {n L : Nat} {ps : List Str} {x : Str} {kws : List Keyword}
theorem pd_c {g : GD} (D : Df X.prog X.w X.K X.mg X.base L x ps (spP X.K n g)) (hr : Room L X.A) (ha : PAD X fi fa (e :: es) fs) (hg : Gl X x := by rfl) (hdb : (x == ("__debug__" : Str)) = false := by decide)
    (he : starEach (e :: es) X.env = (false, eval e X.env) :: starEach es X.env := by rfl) (hpl : (backTo pos (starEach es X.env)).any (·.1) = false := by rfl) : PED X fi fa (.Call (.Name x p) (e :: es) [] pos) (fCallP n g fs) := by
  obtain ⟨f, fd, F, hm, hk, hb⟩ := D.ex
  exact pd_call F hr hg hm hk hb pass0 ha hdb he hpl
theorem pf_c {g : GD} (D : Df X.prog X.w X.K X.mg X.base L x ps (spF X.K n g)) (hr : Room L X.A) (ha : PAD X fi fa (e :: es) fs) (hg : Gl X x := by rfl) (hdb : (x == ("__debug__" : Str)) = false := by decide)
    (he : starEach (e :: es) X.env = (false, eval e X.env) :: starEach es X.env := by rfl) (hpl : (backTo pos (starEach es X.env)).any (·.1) = false := by rfl) : PEF X fi fa (.Call (.Name x p) (e :: es) [] pos) (fCallP n g fs) := by
  obtain ⟨f, fd, F, hm, hk, hb⟩ := D.ex
  exact pf_call F hr hg hm hk hb pass0 ha hdb he hpl
theorem pd_i (i : Nat) {g : GI} {y : Str} {py : Pos} (D : Df X.prog X.w X.K X.mg X.base L x ps (spI X.K n g)) (hr : Room L X.A) (ha : PAD X fi fa es fs) (hg : Gl X x := by rfl) (hN : X.N[i]? = some y := by rfl) (hv : Vis X.env.scope y := by first | exact Or.inl rfl | exact Or.inr (Or.inl rfl) | exact Or.inr (Or.inr rfl)) (hd : (y == ("__debug__" : Str)) = false := by decide)
    (hcd : (y == ("__classdict__" : Str)) = false := by decide) (hs : starEach (Expr.Name y py :: es) X.env = (false, eval (Expr.Name y py) X.env) :: starEach es X.env := by rfl)
    (hdb : (x == ("__debug__" : Str)) = false := by decide) (hpl : (backTo pos (starEach es X.env)).any (·.1) = false := by rfl) : PED X fi fa (.Call (.Name x p) (.Name y py :: es) [] pos) (fCallI i n g fs) := by
  obtain ⟨f, fd, F, hm, hk, hb⟩ := D.ex
  exact pd_callI i F hr hg hm hk hb pass0 ha hN hv hd hcd hs hdb hpl
theorem pd_k {g : GD} {ix : List Nat} {ks : List Str} {m : Nat} (D : Dk X.prog X.w X.K X.mg X.base L x ps ks ix (spP X.K n g)) (hr : Room L X.A) (hkw : PKD X fi fa kws fs) (hg : Gl X x := by rfl) (hall : (backToKw pos (keywordEach kws X.env)).all (·.1.isSome) = true := by rfl) (hks : (backToKw pos (keywordEach kws X.env)).filterMap (·.1) = ks := by rfl) (hdb : (x == ("__debug__" : Str)) = false := by decide)
    (hpl : ((backTo pos (starEach [] X.env)).any (·.1) || (backToKw pos (keywordEach kws X.env)).any (·.1.isNone)) = false := by rfl) (hm' : ks.length = m := by rfl) : PED X fi fa (.Call (.Name x p) [] kws pos) (fCallK ix n m g fs) := by
  subst hm'
  obtain ⟨f, fd, F, hm, hk, hb⟩ := D.ex
  exact pd_callK ix ks F hr hg hm hk hb pass0 hkw hall hks hdb hpl
end

/-! ### a def as the top has left it -/
def At (K : PySem.W.Frag) (x : Str) (st : Stmt) : Prop := ∃ (f : Addr) (fd : FuncData), Fun K x x st f fd ∧ PySem.W.nsIn K mainGlobals x = some (some (.ref f))
theorem at_mk {K : PySem.W.Frag} {x : Str} {st : Stmt} {f : Addr} {oc : Value} {od an : Option Addr} {osl : Array (Option Value)} {kV doc pm cdv ct : Value} (a : PySem.W.nsIn K mainGlobals x = some (some (.ref f)))
    (l : K.lookup f = some ⟨oc, od, .func (PySem.W.fnOf x x (defArgs st) (defBody st) (defScope st) .none kV doc pm an cdv ct), osl⟩) (c : PySem.W.codeIn K cdv x = true) (k : PySem.W.keepIn K (.ref f) = true) : At K x st := ⟨f, _, fun_mk l c k, a⟩
section
variable {P : Program} {w : World} {K : PySem.W.Frag} {mg : Str → Option Value} {base h : Heap} {x : Str} {st : Stmt} {L : Nat} {ps ks : List Str} {ix : List Nat} {sp : Sp}
theorem df_mk (A : At K x st) (X : K.In h) (G : h.Ns mainGlobals mg) (hb : ∀ (kV doc pm : Value) (an : Option Addr) (cdv ct : Value) (us : List Value), us.length = ps.length → bindArgs (PySem.W.fnOf x x (defArgs st) (defBody st) (defScope st) .none kV doc pm an cdv ct) ⟨us, []⟩ = pure (ps.zip us))
    (ok : ∀ (f : Addr) (fd : FuncData), Fun K x x st f fd → FnOk P w K mg base CX0 L f fd ps sp) : Df P w K mg base L x ps sp := by
  obtain ⟨f, fd, F, a⟩ := A
  exact ⟨f, fd, ok f fd F, PySem.W.mg_of X G a, F.kp, F.binds hb⟩
theorem dk_mk (A : At K x st) (X : K.In h) (G : h.Ns mainGlobals mg) (hb : ∀ (kV doc pm : Value) (an : Option Addr) (cdv ct : Value) (us : List Value), us.length = ks.length → bindArgs (PySem.W.fnOf x x (defArgs st) (defBody st) (defScope st) .none kV doc pm an cdv ct) ⟨[], ks.zip us⟩ = pure (ps.zip (permL ix us)))
    (ok : ∀ (f : Addr) (fd : FuncData), Fun K x x st f fd → FnOk P w K mg base CX0 L f fd ps sp) : Dk P w K mg base L x ps ks ix sp := by
  obtain ⟨f, fd, F, a⟩ := A
  exact ⟨f, fd, ok f fd F, PySem.W.mg_of X G a, F.kp, kb0_of F hb⟩
/-- the law's own promise, from its worth on the script -/
theorem law_sp {K : PySem.W.Frag} {g : GD} (h : ∀ ns : List Int, ns.length ≤ 63 → g [.rol (ns.map .int)] fun d => d = .bl true) {H : Hp} {a : Addr} {ns : List Int} (hl : ns.length ≤ 63) (hS : SqL K H a (ns.map V.int)) :
    spP K 1 g [.ref a] H (fun v _ => v = .bl true) fun _ _ _ => False :=
  ⟨H, _, _, rfl, Ex.refl H, .one (.rol hS (Dens.ints ns)), h ns hl, fun v S' H' d e _ hd => by subst e; exact den_bl hd⟩
end

/-! ### a chain of comparisons; in a dict as a test -/
section
variable {X : Cx} {fi : List Nat} {fa : Nat → Addr} {a b c i o : Expr} {fx fy fz fd : FE} {pos : Pos}
def fChain (g h : D → D → (D → Prop) → Prop) (fx fy fz : FE) : FE := fun ρ P => fx ρ fun x ρ1 => fy ρ1 fun y ρ2 => g x y fun d => asB d fun k => if k = true then fz ρ2 fun z ρ3 => h y z fun d => P d ρ3 else P (.bl false) ρ2
theorem pd_chain {op op' : CmpOp} {g h : D → D → (D → Prop) → Prop} (ho : OpD X (compareOp op) g) (ho' : OpD X (compareOp op') h) (ha : PED X fi fa a fx) (hb : PED X fi fa b fy) (hc : PED X fi fa c fz)
    (hp : ∀ (r r' : R2) (ta tb tc : TE), OpR X (compareOp op) r → OpR X (compareOp op') r' → PE X a ta → PE X b tb → PE X c tc → PE X (.Compare a [op, op'] [b, c] pos) (tChain r r' ta tb tc) := by exact fun _ _ _ _ _ h1 h2 h3 h4 h5 => pe_chain h1 h2 h3 h4 h5) :
    PED X fi fa (.Compare a [op, op'] [b, c] pos) (fChain g h fx fy fz) := by
  obtain ⟨r, h1, h2⟩ := ho
  obtain ⟨r', h1', h2'⟩ := ho'
  obtain ⟨tx, px, ox⟩ := ha
  obtain ⟨ty, py, oy⟩ := hb
  obtain ⟨tz, pz, oz⟩ := hc
  refine ⟨_, hp r r' tx ty tz h1 h1' px py pz, fun σ H S ρ P Q rr hf k => ox σ H S ρ _ _ rr hf fun v H1 S1 d ρ1 q1 r1 t1 d1 => oy σ H1 S1 ρ1 _ _ r1 q1 fun u H2 S2 e ρ2 q2 r2 t2 d2 => ?_⟩
  refine h2 v u d e S2 H2 _ _ r2.ex (d1.mono t2.exS) d2 q2 fun z S3 H3 x hx g3 d3 => ?_
  obtain ⟨k3, rfl, hx⟩ := asB_inv hx
  have r3 := r2.grow g3
  have T := (t1.trans t2).trans (g3.tr (σ := σ) (ρ := ρ2))
  refine ⟨k3, den_bl d3, ?_⟩
  cases k3 with
  | true => exact iteT (oz σ H3 S3 ρ2 _ _ r3 (by simpa [asB] using hx) fun y H4 S4 y' ρ4 q4 r4 t4 d4 => h2' u y e y' S4 H4 _ Q r4.ex ((d2.mono g3.s).mono t4.exS) d4 q4 fun z' S5 H5 x' hP g5 d5 => k z' H5 S5 x' ρ4 hP (r4.grow g5) ((T.trans t4).trans g5.tr) d5)
  | false => exact iteF (k _ H3 S3 _ ρ2 (by simpa [asB] using hx) r3 T (.bl _))
theorem pt_din (hu : X.A.units + 64 < cLine) (hi : PED X fi fa i fy) (ho : PED X fi fa o fd) (hm : behindInMarks .In o = false := by rfl) (hw : X.w = HW.w := by rfl) : PTD X fi fa (.Compare i [.In] [o] pos) (fTst (fDIn false fy fd)) := by
  obtain ⟨t1, p1, o1⟩ := hi
  obtain ⟨t2, p2, o2⟩ := ho
  refine ⟨_, pt_cmp (pc_xin hw hu p1 p2) hm, fun σ H S ρ P Q r hf k => ?_⟩
  have := din_ok (Q := fun x H1 => ∃ c, x = .bl c ∧ Q c H1) o1 o2 r hf fun v H' S' d ρ' hP r' t' den => by
    obtain ⟨b, rfl, hP⟩ := asB_inv hP
    exact ⟨b, den_bl den, k b H' S' ρ' hP r' t'⟩
  simp only [Bool.false_bne] at this
  exact this
theorem pt_dnotin (hu : X.A.units + 64 < cLine) (hi : PED X fi fa i fy) (ho : PED X fi fa o fd) (hm : behindInMarks .NotIn o = false := by rfl) (hw : X.w = HW.w := by rfl) : PTD X fi fa (.Compare i [.NotIn] [o] pos) (fTst (fDIn true fy fd)) := by
  obtain ⟨t1, p1, o1⟩ := hi
  obtain ⟨t2, p2, o2⟩ := ho
  refine ⟨_, pt_cmp (pc_xnotin hw hu p1 p2) hm, fun σ H S ρ P Q r hf k => ?_⟩
  have := din_ok (Q := fun x H1 => ∃ c, x = .bl c ∧ Q c H1) o1 o2 r hf fun v H' S' d ρ' hP r' t' den => by
    obtain ⟨b, rfl, hP⟩ := asB_inv hP
    exact ⟨b, den_bl den, k b H' S' ρ' hP r' t'⟩
  simp only [Bool.true_bne] at this
  exact this
end

theorem pd_gi {X : Cx} {fi : List Nat} {fa : Nat → Addr} {pos : Pos} {x : Str} {i : Int} (hg : Gl X x) (hm : ∃ t, X.mg x = some (.int i t)) (hd : (x == ("__debug__" : Str)) = false := by decide) : PED X fi fa (.Name x pos) (fC (.int i)) :=
  let ⟨_, h⟩ := hm; pd_globI hg h hd
/-! ### y = [.. for ..] -/
section
variable {X : Cx} {fi : List Nat} {fa : Nat → Addr} {tg iter elt : Expr} {ifs : List Expr} {fe : FE} {ft : FT} {g : FG} {fit : FI} {pos spos py : Pos} {y : Str}
theorem psd_setLc (i : Nat) {scope : Scope} (own : List (Str × Nat)) {ws : List Nat} (hN : X.N.Nodup) (hi : PID X fi fa tg iter fit) (ok : BlkOk X.N X.env.scope scope own)
    (hg : ∀ (s : Shared) (H : Hp) (C : Addr) (cl : List (Str × Addr)) (fp : List Addr), PGD (Blk X s H scope cl C fp) fi fa tg ws g)
    (ht : ∀ (s : Shared) (H : Hp) (C : Addr) (cl : List (Str × Addr)) (fp : List Addr), PTsD (Blk X s H scope cl C fp) fi fa ifs ft)
    (he : ∀ (s : Shared) (H : Hp) (C : Addr) (cl : List (Str × Addr)) (fp : List Addr), PED (Blk X s H scope cl C fp) fi fa elt fe)
    (hc : X.calm = true := by rfl) (hy : X.N[i]? = some y := by rfl) (hyl : X.env.scope.names.lookup y = some .local := by rfl)
    (hsw : swapsWith (.ListComp elt [⟨tg, iter, ifs, 0⟩] scope pos) (some (.Name y py)) spos.line X.env = pure true := by exact sw_true rfl rfl rfl (by decide +kernel))
    (hs : ∀ x, foldedSetIterable iter X.env x = pure x := by intro _; rfl) (hv : (own.map (·.2)).all (fun i => !fi.contains i) = true := by rfl) (hw : ws.all (fun i => (own.map (·.2)).contains i) = true := by rfl) (hf : fi.contains i = false := by rfl) :
    PSD X fi fa (.Assign [.Name y py] (.ListComp elt [⟨tg, iter, ifs, 0⟩] scope pos) spos) (fSet i (fLc fit g ft fe (own.map (·.2)))) := by
  obtain ⟨ti, p, oi⟩ := hi
  refine ⟨_, ps_setLc (i := i) (g := uG X.K fi fa ws g) (tt := uT X.K fi fa ft) (te := uE X.K fi fa fe) hc hN hy hyl hsw p ok (fun s H C cl fp => (hg s H C cl fp).uni) (fun s H C cl fp => (ht s H C cl fp).uni) (fun s H C cl fp => (he s H C cl fp).uni) hs, fun σ H S ρ P E r h k => ?_⟩
  refine ok_lc oi (notin_of hv) (allin_of hw) σ H S ρ _ _ r h fun v H' S' d ρ' hP r' tr ⟨p, o, ev, h0, hs, no, hp, hd⟩ => ?_
  subst ev
  exact k.1 _ H' _ _ hP ((r'.take hp hs no).storeVal ((hd.mono (Ex.new hs)).den upd_same) (fresh_lt (j := 0) hf)) ((tr.takeNew (K := X.K) h0 hs).trans Tr.storeVal)
theorem psd_setLcF (i : Nat) {scope : Scope} (own : List (Str × Nat)) {ws : List Nat} (hN : X.N.Nodup) (hi : PID X fi fa tg iter fit) (ok : BlkOk X.N X.env.scope scope own)
    (hg : ∀ (s : Shared) (H : Hp) (C : Addr) (cl : List (Str × Addr)) (fp : List Addr), PGD (Blk X s H scope cl C fp) fi fa tg ws g)
    (ht : ∀ (s : Shared) (H : Hp) (C : Addr) (cl : List (Str × Addr)) (fp : List Addr), PTsD (Blk X s H scope cl C fp) fi fa ifs ft)
    (he : ∀ (s : Shared) (H : Hp) (C : Addr) (cl : List (Str × Addr)) (fp : List Addr), PED (Blk X s H scope cl C fp) fi fa elt fe)
    (hc : X.calm = true := by rfl) (hy : X.N[i]? = some y := by rfl) (hyl : X.env.scope.names.lookup y = some .local := by rfl)
    (hsw : swapsWith (.ListComp elt [⟨tg, iter, ifs, 0⟩] scope pos) (some (.Name y py)) spos.line X.env = pure true := by exact sw_true rfl rfl rfl (by decide +kernel))
    (hs : ∀ x, foldedSetIterable iter X.env x = pure x := by intro _; rfl) (hv : (own.map (·.2)).all (fun i => !fi.contains i) = true := by rfl) (hw : ws.all (fun i => (own.map (·.2)).contains i) = true := by rfl) (hf : fi.contains i = false := by rfl) :
    PSD X fi fa (.Assign [.Name y py] (.ListComp elt [⟨tg, iter, ifs, 0⟩] scope pos) spos) (fSetF i (fLc fit g ft fe (own.map (·.2)))) := by
  obtain ⟨ti, p, oi⟩ := hi
  refine ⟨_, ps_setLc (i := i) (g := uG X.K fi fa ws g) (tt := uT X.K fi fa ft) (te := uE X.K fi fa fe) hc hN hy hyl hsw p ok (fun s H C cl fp => (hg s H C cl fp).uni) (fun s H C cl fp => (ht s H C cl fp).uni) (fun s H C cl fp => (he s H C cl fp).uni) hs, fun σ H S ρ P E r h k => ?_⟩
  exact ok_lc oi (notin_of hv) (allin_of hw) σ H S ρ _ _ r h fun v H' S' d ρ' hP r' tr hd => k.1 _ H' S' _ hP (r'.storeOwn hd (fresh_lt (j := 0) hf)) (tr.storeOwn hd)
end

/-! ### loops by an invariant -/
omit [HW]
theorem lc_inv {g : FG} {t : FT} {fe : FE} {vs : List Nat} {P : List D → List Sl → Prop} (I : Nat → List D → List Sl → Prop) : ∀ (ds : List D) (i : Nat) (acc : List D) (ρ : List Sl), I i acc ρ →
    (∀ (j : Nat) (d : D) (acc : List D) (ρ : List Sl), ds[j]? = some d → I (i + j) acc ρ → ∀ k : List D → List Sl → Prop, (∀ acc' ρ', I (i + j + 1) acc' ρ' → k acc' ρ') →
      g d ρ fun ρ1 => t ρ1 fun b ρ2 => if b = true then fe ρ2 fun x ρ3 => acc.length < 100000 ∧ k (acc ++ [x]) (wipeS ρ3 vs) else k acc (wipeS ρ2 vs)) →
    (∀ acc ρ, I (i + ds.length) acc ρ → P acc ρ) → lcGo g t fe vs ds acc ρ P
  | [], i, acc, ρ, h0, _, hd => hd acc ρ h0
  | d :: ds, i, acc, ρ, h0, hs, hd => by
    refine hs 0 d acc ρ rfl h0 (fun acc' ρ' => lcGo g t fe vs ds acc' ρ' P) fun acc' ρ' hI => ?_
    refine lc_inv I ds (i + 1) acc' ρ' hI (fun j d acc ρ e h k hk => ?_) fun acc ρ h => hd acc ρ ?_
    · have := hs (j + 1) d acc ρ (by simpa using e) (by rw [show i + (j + 1) = i + 1 + j by omega]; exact h) k
      rw [show i + (j + 1) + 1 = i + 1 + j + 1 by omega] at this
      exact this hk
    · rw [List.length_cons, show i + (ds.length + 1) = i + 1 + ds.length by omega]; exact h
/-- a comprehension that changes nothing, without a test -/
theorem lc_map {g : FG} {fe : FE} {vs : List Nat} {P : List D → List Sl → Prop} {ρ : List Sl} (F : D → D) : ∀ (ds acc : List D), acc.length + ds.length ≤ 100000 →
    (∀ d ∈ ds, ∀ k : D → List Sl → Prop, (∀ ρ3, wipeS ρ3 vs = ρ → k (F d) ρ3) → g d ρ fun ρ1 => fe ρ1 k) → P (acc ++ ds.map F) ρ → lcGo g fYes fe vs ds acc ρ P
  | [], acc, _, _, h => by
    rw [List.map_nil, List.append_nil] at h
    exact h
  | d :: ds, acc, hl, hs, h => by
    rw [List.length_cons] at hl
    show g d ρ fun ρ1 => fYes ρ1 fun b ρ2 => _
    refine hs d List.mem_cons_self _ fun ρ3 e => ?_
    refine ⟨by omega, ?_⟩
    rw [e]
    refine lc_map F ds (acc ++ [F d]) (by rw [List.length_append, List.length_singleton]; omega) (fun x hx => hs x (List.mem_cons_of_mem _ hx)) ?_
    rw [List.append_assoc]
    exact h
theorem for_inv {g : FG} {B : FS} {P : Fl → Prop} (I : Nat → List Sl → Prop) : ∀ (ds : List D) (i : Nat) (ρ : List Sl), I i ρ →
    (∀ (j : Nat) (d : D) (ρ : List Sl), ds[j]? = some d → I (i + j) ρ → ∀ k : Fl → Prop, (∀ ρ', I (i + j + 1) ρ' → k (.nx ρ') ∧ k (.ct ρ')) → (∀ ρ', P (.nx ρ') → k (.bk ρ')) → (∀ d ρ', P (.rt d ρ') → k (.rt d ρ')) → (∀ d ρ', P (.rf d ρ') → k (.rf d ρ')) →
      g d ρ fun ρ1 => B ρ1 k) →
    (∀ ρ, I (i + ds.length) ρ → P (.nx ρ)) → forGo g B ds ρ P
  | [], i, ρ, h0, _, hd => hd ρ h0
  | d :: ds, i, ρ, h0, hs, hd => by
    refine hs 0 d ρ rfl h0 (lpK (forGo g B ds) P) (fun ρ' hI => ?_) (fun ρ' h => h) (fun d ρ' h => h) (fun d ρ' h => h)
    have : forGo g B ds ρ' P := by
      refine for_inv I ds (i + 1) ρ' hI (fun j d ρ e h k h1 h2 h3 h4 => ?_) fun ρ h => hd ρ ?_
      · refine hs (j + 1) d ρ (by simpa using e) (by rw [show i + (j + 1) = i + 1 + j by omega]; exact h) k (fun ρ' hh => h1 ρ' ?_) h2 h3 h4
        rw [show i + 1 + j + 1 = i + (j + 1) + 1 by omega]; exact hh
      · rw [List.length_cons, show i + (ds.length + 1) = i + 1 + ds.length by omega]; exact h
    exact ⟨this, this⟩
end DL

/-! DLD: a dict that is walked (under a lock); sorted of data. -/
namespace DL
open PySem PySem.Spec PyProof.Rows L2
variable [HW]

/-! ### for and comprehensions, at one state -/
def IAt (K : PySem.W.Frag) (fi : List Nat) (fa : Nat → Addr) (ti : TI) (f : FI) (σ : L2.St) (H S : Hp) (ρ : List Sl) : Prop := ∀ (P : List D → List Sl → Prop) (R : It → Hp → Prop), Rel K fi fa σ H S ρ → f ρ P →
  (∀ J H' S' ds ρ', P ds ρ' → Rel K fi fa σ H' S' ρ' → Tr σ H S ρ σ H' S' ρ' → ItD K J S' ds → R J H') → ti σ H R
def FAt (K : PySem.W.Frag) (fi : List Nat) (fa : Nat → Addr) (te : TE) (f : FE) (σ : L2.St) (H S : Hp) (ρ : List Sl) : Prop := ∀ (P : D → List Sl → Prop) (Q : VK), Rel K fi fa σ H S ρ → f ρ P →
  (∀ v H' S' d ρ', P d ρ' → Rel K fi fa σ H' S' ρ' → Tr σ H S ρ σ H' S' ρ' → Fresh K σ H' S' ρ' (Nw σ ρ H) v d → Q v H') → te σ H Q
def SAt (K : PySem.W.Frag) (fi : List Nat) (fa : Nat → Addr) (ts : TS) (f : FS) (σ : L2.St) (H S : Hp) (ρ : List Sl) : Prop := ∀ (P : Fl → Prop) (E : Ends), Rel K fi fa σ H S ρ → f ρ P → Beh K fi fa σ H S ρ P E → ts E σ H
section
variable {fi : List Nat} {fa : Nat → Addr}
theorem for_at {K : PySem.W.Frag} {ti : TI} {tg' : TG} {tb : TS} {fit : FI} {ws : List Nat} {g : FG} {B : FS} {σ : L2.St} {H S : Hp} {ρ : List Sl} (o1 : IAt K fi fa ti fit σ H S ρ) (o2 : OkG K fi fa ws tg' g) (o3 : OkS K fi fa tb B) : SAt K fi fa (tFor ti tg' tb) (fFor fit g B) σ H S ρ := by
  intro P E r hf k
  refine o1 _ _ r hf fun J H1 S1 ds ρ1 hP r1 t1 it => ?_
  refine ⟨fun i m σ' H' => ∃ S' ρ', m = ds.length - i ∧ i ≤ ds.length ∧ Rel K fi fa σ' H' S' ρ' ∧ Tr σ H1 S1 ρ1 σ' H' S' ρ' ∧ forGo g B (ds.drop i) ρ' P, ⟨_, S1, ρ1, rfl, Nat.zero_le _, r1, Tr.refl _ _ _ _, by rw [List.drop_zero]; exact hP⟩, ?_⟩
  rintro i m σ' H' ⟨S', ρ', rfl, hi, r', t', w⟩
  obtain ⟨stop, go⟩ := it i S' H' t'.exS r'.ex
  by_cases hlt : i < ds.length
  · have hd : ds.drop i = ds[i] :: ds.drop (i + 1) := List.drop_eq_getElem_cons hlt
    rw [hd] at w
    obtain ⟨g1, g2⟩ := go ds[i] (List.getElem?_eq_getElem hlt)
    refine .inr ⟨g1, fun σ2 H2 => ∃ S2 ρ2, Rel K fi fa σ2 H2 S2 ρ2 ∧ Tr σ H1 S1 ρ1 σ2 H2 S2 ρ2 ∧ forGo g B (ds.drop (i + 1)) ρ2 P, fun σ2 H2 ⟨S2, ρ2, r2, t2, w2⟩ => ⟨ds.length - (i + 1), by omega, S2, ρ2, rfl, hlt, r2, t2, w2⟩, fun x H'' hy => ?_⟩
    obtain ⟨S'', gr, den⟩ := g2 x H'' hy
    refine o2 σ' H'' S'' ρ' x _ _ _ (r'.grow gr) den w fun σ3 H3 S3 ρ3 hP3 r3 t3 _ => ?_
    have T3 := (t'.trans gr.tr).trans t3
    refine o3 σ3 H3 S3 ρ3 _ _ r3 hP3 ⟨?_, ?_, ?_, ?_, ?_⟩
    · exact fun σ4 H4 S4 ρ4 h4 r4 t4 => ⟨S4, ρ4, r4, T3.trans t4, h4⟩
    · exact fun σ4 H4 S4 ρ4 h4 r4 t4 => k.1 σ4 H4 S4 ρ4 h4 r4 ((t1.trans T3).trans t4)
    · exact fun σ4 H4 S4 ρ4 h4 r4 t4 => ⟨S4, ρ4, r4, T3.trans t4, h4⟩
    · exact fun v d σ4 H4 S4 ρ4 h4 r4 t4 hd => k.2.2.2.1 v d σ4 H4 S4 ρ4 h4 r4 ((t1.trans T3).trans t4) hd
    · exact fun v d σ4 H4 S4 ρ4 h4 r4 t4 hd => k.2.2.2.2 v d σ4 H4 S4 ρ4 h4 r4 ((t1.trans T3).trans t4) (hd.back (t1.trans T3))
  · have hl : ds.length ≤ i := Nat.le_of_not_lt hlt
    rw [List.drop_eq_nil_of_le hl] at w
    exact .inl ⟨stop hl, k.1 σ' H' S' ρ' w r' (t1.trans t')⟩
theorem lc_at {K : PySem.W.Frag} {ti : TI} {ws vs : List Nat} {fit : FI} {g : FG} {ft : FT} {fe : FE} {σ : L2.St} {H S : Hp} {ρ : List Sl} (hi : IAt K fi fa ti fit σ H S ρ) (hv : ∀ i ∈ vs, i ∉ fi) (hw : ∀ i ∈ ws, i ∈ vs) : FAt K fi fa (tLc ti (uG K fi fa ws g) (uT K fi fa ft) (uE K fi fa fe) vs) (fLc fit g ft fe vs) σ H S ρ := by
  intro P Q r hf k
  refine hi _ _ r hf fun J H1 S1 ds ρ1 hP r1 t1 it Dd hD => ?_
  have same : ∀ i, i ∉ vs → (wipe σ vs)[i]? = σ[i]? := fun i hi => wipe_get hi
  refine ⟨fun i m H' => ∃ S' ρ' acc dacc, m = ds.length - i ∧ i ≤ ds.length ∧ Rel K fi fa (wipe σ vs) H' S' (wipeS ρ' vs) ∧ Tr σ H1 S1 ρ1 (wipe σ vs) H' S' (wipeS ρ' vs) ∧ H' Dd = some (.lst acc) ∧ S' Dd = none ∧ ¬ Owned (wipe σ vs) (wipeS ρ' vs) Dd ∧ Dens K S' acc dacc ∧
    lcGo g ft fe vs (ds.drop i) dacc (wipeS ρ' vs) (fun acc ρ2 => P (.lst acc) ρ2), ⟨_, S1, ρ1, [], [], rfl, Nat.zero_le _, ?_⟩, ?_⟩
  · have g0 : Gr S1 H1 S1 (upd H1 Dd (.lst [])) := Gr.hid r1.ex hD
    have rw0 := (r1.grow g0).wipe vs hv
    refine ⟨rw0, (g0.tr (ρ := ρ1) (σ := σ)).trans (Tr.wipe vs), upd_same, r1.ex.free hD, fun ⟨i, d, h1, h2⟩ => ?_, .nil, by rw [List.drop_zero]; exact hP⟩
    obtain ⟨q, u, e1, e2, e3, e4⟩ := (r1.wipe vs hv).own i d h1
    rw [h2] at e1
    cases e1
    rw [hD] at e3
    cases e3
  · rintro i m H' ⟨S', ρ', acc, dacc, rfl, hi', r', t', hDd, hSd, nOd, hacc, w⟩
    obtain ⟨stop, go⟩ := it i S' H' t'.exS r'.ex
    by_cases hlt : i < ds.length
    · have hd : ds.drop i = ds[i] :: ds.drop (i + 1) := List.drop_eq_getElem_cons hlt
      rw [hd] at w
      obtain ⟨g1, g2⟩ := go ds[i] (List.getElem?_eq_getElem hlt)
      refine .inr ⟨g1, fun H2 => ∃ S2 ρ2 acc2 dacc2, Rel K fi fa (wipe σ vs) H2 S2 (wipeS ρ2 vs) ∧ Tr σ H1 S1 ρ1 (wipe σ vs) H2 S2 (wipeS ρ2 vs) ∧ H2 Dd = some (.lst acc2) ∧ S2 Dd = none ∧ ¬ Owned (wipe σ vs) (wipeS ρ2 vs) Dd ∧ Dens K S2 acc2 dacc2 ∧
        lcGo g ft fe vs (ds.drop (i + 1)) dacc2 (wipeS ρ2 vs) (fun acc ρ2 => P (.lst acc) ρ2), fun H2 ⟨S2, ρ2, acc2, dacc2, h⟩ => ⟨ds.length - (i + 1), by omega, S2, ρ2, acc2, dacc2, rfl, hlt, h⟩, fun x H'' hy => ?_⟩
      obtain ⟨S'', gr, den⟩ := g2 x H'' hy
      have T2 := t'.trans (gr.tr (σ := wipe σ vs) (ρ := wipeS ρ' vs))
      obtain ⟨k1, k2, k3⟩ := (gr.tr (σ := wipe σ vs) (ρ := wipeS ρ' vs)).hides hDd hSd nOd (fun _ => HO.noConfusion)
      refine ⟨S'', wipeS ρ' vs, ds[i], _, r'.grow gr, den, w, fun σ3 H3 S3 ρ3 hP3 r3 t3 sb => ?_⟩
      have hsame3 : ∀ j, j ∉ vs → σ3[j]? = (wipe σ vs)[j]? := fun j hj => sb.2 j fun z => hj (hw j z)
      have e3 : wipe σ3 vs = wipe σ vs := by
        rw [wipe_ext sb.1 hsame3]
        exact wipe_ext (wipe_length σ vs) same
      obtain ⟨l1, l2, l3⟩ := t3.hides k1 k2 k3 (fun _ => HO.noConfusion)
      refine ⟨e3, S3, ρ3, _, r3, hP3, fun b H4 S4 ρ4 hP4 r4 t4 => ?_⟩
      obtain ⟨m1, m2, m3⟩ := t4.hides l1 l2 l3 (fun _ => HO.noConfusion)
      cases b with
      | true =>
        refine iteT ⟨S4, ρ4, _, r4, by simpa using hP4, fun y H5 S5 d5 ρ5 hP5 r5 t5 den5 => ?_⟩
        obtain ⟨n1, n2, n3⟩ := t5.hides m1 m2 m3 (fun _ => HO.noConfusion)
        have ex5 : Ex S' S5 := ((gr.s.trans t3.exS).trans t4.exS).trans t5.exS
        refine ⟨acc, n1, sz_lt (by rw [hacc.length]; exact hP5.1), S5, ρ5, acc ++ [y], dacc ++ [d5], ?_, ?_, upd_same, n2, ?_, (hacc.mono ex5).snoc den5, hP5.2⟩
        · have := (r5.hid (o := .lst (acc ++ [y])) n2 n3).wipe vs hv
          rw [e3] at this; exact this
        · have t := (((T2.trans t3).trans t4).trans t5).hid (p := Dd) (o := .lst (acc ++ [y])) hD
          have := t.trans (Tr.wipe vs)
          rw [e3] at this; exact this
        · intro h
          have hh : Owned (wipe σ3 vs) (wipeS ρ5 vs) Dd := by rw [e3]; exact h
          exact ((Tr.wipe (σ := σ3) (H := H5) (S := S5) (ρ := ρ5) vs).owned Dd hh).elim n3 fun z => by rw [n1] at z; cases z
      | false =>
        refine iteF ⟨S4, ρ4, acc, dacc, ?_, ?_, m1, m2, ?_, hacc.mono ((gr.s.trans t3.exS).trans t4.exS), by simpa using hP4⟩
        · have := r4.wipe vs hv
          rw [e3] at this; exact this
        · have := ((T2.trans t3).trans t4).trans (Tr.wipe vs)
          rw [e3] at this; exact this
        · intro h
          have hh : Owned (wipe σ3 vs) (wipeS ρ4 vs) Dd := by rw [e3]; exact h
          exact ((Tr.wipe (σ := σ3) (H := H4) (S := S4) (ρ := ρ4) vs).owned Dd hh).elim m3 fun z => by rw [m1] at z; cases z
    · have hl : ds.length ≤ i := Nat.le_of_not_lt hlt
      rw [List.drop_eq_nil_of_le hl] at w
      have r2 := Rel.unwipe (wipe_length σ vs) same hv r'
      have t2 := Tr.unwipe same t'
      refine .inl ⟨stop hl, k _ H' S' _ _ w r2 (t1.trans t2) ⟨Dd, _, rfl, .inl (t1.dom Dd hD), hSd, fun h => ?_, hDd, hacc⟩⟩
      exact (t2.owned Dd h).elim (fun ⟨j, d, h1, h2⟩ => by
        obtain ⟨q, u, e1, e2, e3, e4⟩ := r1.own j d h1
        rw [h2] at e1
        cases e1
        rw [hD] at e3
        cases e3) fun z => by
        obtain ⟨j, d, h1, h2⟩ := h
        have hj : j ∉ vs := fun z => by have := wipeS_get z _ h1; cases this
        exact nOd ⟨j, d, h1, by rw [same j hj]; exact h2⟩

/-! ### locks -/
def dicO : HO → Prop
  | .dT _ => True
  | .dK _ => True
  | .ext _ => True
  | _ => False
theorem dic_mut {u : HO} (h : dicO u) : Mut (some u) := by
  cases u <;> first | exact trivial | exact (show False from h).elim
/-- S2 is S but that at d another thing stands, and dicts at d are read the same -/
structure Lk (S S2 : Hp) (d : Addr) : Prop where
  ne : ∀ a, a ≠ d → S2 a = S a
  dT : ∀ kvs, Rd S d (.dT kvs) → Rd S2 d (.dT kvs)
  dK : ∀ kvs, Rd S d (.dK kvs) → Rd S2 d (.dK kvs)
  dE : ∀ φ, Rd S d (.ext φ) → Rd S2 d (.ext φ)
  no : ∀ o, S d = some o → dicO o ∨ ∃ od u, o = .frz od u ∧ dicO u
section
variable {K : PySem.W.Frag} {S S2 : Hp} {d : Addr}
theorem Lk.at (l : Lk S S2 d) {a : Addr} {o : HO} (h : S a = some o) (hn : ¬ dicO o) (hz : ∀ od u, o = .frz od u → ¬ dicO u) : S2 a = some o := by
  by_cases e : a = d
  · subst e
    rcases l.no o h with z | ⟨od, u, rfl, z⟩
    · exact absurd z hn
    · exact absurd z (hz od u rfl)
  · rw [l.ne a e]; exact h
theorem Lk.rd (l : Lk S S2 d) {a : Addr} {u : HO} (h : Rd S a u) (hn : ¬ dicO u) (hz : ∀ od w, u = .frz od w → ¬ dicO w) : Rd S2 a u := by
  rcases h with h | ⟨o, h⟩
  · exact .inl (l.at h hn hz)
  · exact .inr ⟨o, l.at h (fun z => z) fun od w e => by cases e; exact hn⟩
theorem Lk.rdT (l : Lk S S2 d) {a : Addr} {kvs : List (List Key × V)} (h : Rd S a (.dT kvs)) : Rd S2 a (.dT kvs) := by
  by_cases e : a = d
  · subst e; exact l.dT _ h
  · rcases h with h | ⟨o, h⟩
    · exact .inl (by rw [l.ne a e]; exact h)
    · exact .inr ⟨o, by rw [l.ne a e]; exact h⟩
theorem Lk.rdK (l : Lk S S2 d) {a : Addr} {kvs : List (Key × V)} (h : Rd S a (.dK kvs)) : Rd S2 a (.dK kvs) := by
  by_cases e : a = d
  · subst e; exact l.dK _ h
  · rcases h with h | ⟨o, h⟩
    · exact .inl (by rw [l.ne a e]; exact h)
    · exact .inr ⟨o, by rw [l.ne a e]; exact h⟩
theorem Lk.rdE (l : Lk S S2 d) {a : Addr} {φ : Heap → Prop} (h : Rd S a (.ext φ)) : Rd S2 a (.ext φ) := by
  by_cases e : a = d
  · subst e; exact l.dE _ h
  · rcases h with h | ⟨o, h⟩
    · exact .inl (by rw [l.ne a e]; exact h)
    · exact .inr ⟨o, by rw [l.ne a e]; exact h⟩
theorem Lk.tup (l : Lk S S2 d) {a : Addr} {xs : List V} (h : S a = some (.tup xs)) : S2 a = some (.tup xs) := l.at h (fun z => z) fun _ _ e => nomatch e
theorem Lk.lst (l : Lk S S2 d) {a : Addr} {xs : List V} (h : S a = some (.lst xs)) : S2 a = some (.lst xs) := l.at h (fun z => z) fun _ _ e => nomatch e
theorem Lk.ins (l : Lk S S2 d) {a C dx : Addr} {fs : List (Str × V)} (h : S a = some (.ins C dx fs)) : S2 a = some (.ins C dx fs) := l.at h (fun z => z) fun _ _ e => nomatch e
theorem Lk.sql (l : Lk S S2 d) {a : Addr} {xs : List V} (h : SqL K S a xs) : SqL K S2 a xs := h.imp (fun h => l.rd h (fun z => z) fun _ _ e => nomatch e) id
mutual
theorem Den.lk (l : Lk S S2 d) : ∀ {v : V} {x : D}, Den K S v x → Den K S2 v x
  | _, _, .non => .non
  | _, _, .bl b => .bl b
  | _, _, .int i => .int i
  | _, _, .str x => .str x
  | _, _, .ty n => .ty n
  | _, _, .ref a => .ref a
  | _, _, .tup h t => .tup (l.tup h) (Dens.lk l t)
  | _, _, .lst h t => .lst (l.lst h) (Dens.lk l t)
  | _, _, .rol h t => .rol (l.sql h) (Dens.lk l t)
  | _, _, .dT h q t => .dT (l.rdT h) q (Dens.lk l t)
  | _, _, .dK h q t => .dK (l.rdK h) q (Dens.lk l t)
  | _, _, .dN h t q u => .dN (l.rdE h) (Dens.lk l t) q (Dens.lk l u)
  | _, _, .obj c h q t => .obj c (l.ins h) q (Dens.lk l t)
  | _, _, .cls c => .cls c
theorem Dens.lk (l : Lk S S2 d) : ∀ {vs : List V} {ds : List D}, Dens K S vs ds → Dens K S2 vs ds
  | _, _, .nil => .nil
  | _, _, .cons h t => .cons (Den.lk l h) (Dens.lk l t)
end
theorem HOD.lk (l : Lk S S2 d) {o : HO} {x : D} (h : HOD K S o x) : HOD K S2 o x := by
  unfold HOD at h ⊢
  split at h
  · exact h.lk l
  · exact ⟨h.1, h.2.lk l⟩
  · exact ⟨h.1, h.2.lk l⟩
  · obtain ⟨b, kvs, e1, e2, e3, e4⟩ := h
    exact ⟨b, kvs, e1, e2.lk l, e3, e4.lk l⟩
  · exact ⟨h.1, h.2.1, h.2.2.lk l⟩
  · exact h.elim
theorem lk_lock {u : HO} (hu : dicO u) (h : S d = some u) (od : Obj) : Lk S (upd S d (.frz od u)) d where
  ne := fun a e => upd_ne e
  dT := fun kvs hr => by
    rcases hr with hr | ⟨o, hr⟩
    · rw [h] at hr; cases hr; exact .inr ⟨od, upd_same⟩
    · rw [h] at hr; cases hr; exact (show False from hu).elim
  dK := fun kvs hr => by
    rcases hr with hr | ⟨o, hr⟩
    · rw [h] at hr; cases hr; exact .inr ⟨od, upd_same⟩
    · rw [h] at hr; cases hr; exact (show False from hu).elim
  dE := fun φ hr => by
    rcases hr with hr | ⟨o, hr⟩
    · rw [h] at hr; cases hr; exact .inr ⟨od, upd_same⟩
    · rw [h] at hr; cases hr; exact (show False from hu).elim
  no := fun o e => by rw [h] at e; cases e; exact .inl hu
theorem lk_unlock {u : HO} {od : Obj} (hu : dicO u) (h : S d = some (.frz od u)) : Lk S (upd S d u) d where
  ne := fun a e => upd_ne e
  dT := fun kvs hr => by
    rcases hr with hr | ⟨o, hr⟩
    · rw [h] at hr; cases hr
    · rw [h] at hr; cases hr; exact .inl upd_same
  dK := fun kvs hr => by
    rcases hr with hr | ⟨o, hr⟩
    · rw [h] at hr; cases hr
    · rw [h] at hr; cases hr; exact .inl upd_same
  dE := fun φ hr => by
    rcases hr with hr | ⟨o, hr⟩
    · rw [h] at hr; cases hr
    · rw [h] at hr; cases hr; exact .inl upd_same
  no := fun o e => by rw [h] at e; cases e; exact .inr ⟨od, u, rfl, hu⟩
end
section
variable {K : PySem.W.Frag} {S S1 H H1 : Hp} {d : Addr} {σ σ1 : L2.St} {ρ ρ1 : List Sl} {u w : HO} {od : Obj}
theorem rel_lkw (r : Rel K fi fa σ H S ρ) (l : Lk S (upd S d w) d) (hd : S d ≠ none) : Rel K fi fa σ (upd H d w) (upd S d w) ρ where
  ex := fun a o h => by
    by_cases e : a = d
    · subst e; rw [upd_same] at h ⊢; exact h
    · rw [upd_ne e] at h ⊢; exact r.ex a o h
  len := r.len
  val := fun i x h => by
    obtain ⟨v, e, q⟩ := r.val i x h
    exact ⟨v, e, q.lk l⟩
  own := fun i x h => by
    obtain ⟨p, o, e, h1, h2, h3⟩ := r.own i x h
    have : p ≠ d := fun z => hd (by rw [← z]; exact h1)
    exact ⟨p, o, e, by rw [upd_ne this]; exact h1, by rw [upd_ne this]; exact h2, h3.lk l⟩
  dis := r.dis
  fix := r.fix
theorem tr_unlock (hS : S d = some u) (hH : H d = some u) (t : Tr σ (upd H d (.frz od u)) (upd S d (.frz od u)) ρ σ1 H1 S1 ρ1) : Tr σ H S ρ σ1 (upd H1 d u) (upd S1 d u) ρ1 where
  exS := fun a o h => by
    by_cases e : a = d
    · subst e; rw [hS] at h; rw [upd_same]; exact h
    · rw [upd_ne e]; exact t.exS a o (by rw [upd_ne e]; exact h)
  keep := fun a o h n => by
    by_cases e : a = d
    · subst e; rw [hH] at h; rw [upd_same]; exact h
    · rw [upd_ne e]; exact t.keep a o (by rw [upd_ne e]; exact h) n
  owned := fun a h => (t.owned a h).imp id fun z => by
    by_cases e : a = d
    · subst e; rw [upd_same] at z; cases z
    · rw [upd_ne e] at z; exact z
  new := fun a h => by
    by_cases e : a = d
    · subst e; exact .inl (by rw [hS]; exact fun z => nomatch z)
    · rw [upd_ne e] at h
      have := t.new a h
      rw [upd_ne e, upd_ne e] at this
      exact this
  dom := fun a h => by
    by_cases e : a = d
    · subst e; rw [upd_same] at h; cases h
    · rw [upd_ne e] at h
      have := t.dom a h
      rw [upd_ne e] at this
      exact this
theorem fresh_unlock {v : V} {x : D} (hu : dicO u) (hS1 : S1 d = some (.frz od u)) (f : Fresh K σ1 H1 S1 ρ1 (Nw σ ρ (upd H d (.frz od u))) v x) : Fresh K σ1 (upd H1 d u) (upd S1 d u) ρ1 (Nw σ ρ H) v x := by
  obtain ⟨p, o, e, h1, h2, h3, h4, h5⟩ := f
  have ne : p ≠ d := fun z => by rw [z, hS1] at h2; cases h2
  refine ⟨p, o, e, h1.imp (fun z => by rw [upd_ne ne] at z; exact z) id, by rw [upd_ne ne]; exact h2, h3, by rw [upd_ne ne]; exact h4, h5.lk (lk_unlock hu hS1)⟩
theorem lockS {t : TS} {F : FS} (hS : S d = some u) (hu : dicO u) (h : ∀ od, SAt K fi fa t F σ (upd H d (.frz od u)) (upd S d (.frz od u)) ρ) : SAt K fi fa (tLock t) F σ H S ρ := fun P E r hf k => by
  have hH := r.ex _ _ hS
  refine ⟨d, u, hH, dic_mut hu, fun od => h od P _ (rel_lkw r (lk_lock hu hS od) (by rw [hS]; exact fun z => nomatch z)) hf ?_⟩
  have s1 : ∀ {σ1 H1 S1 ρ1}, Tr σ (upd H d (.frz od u)) (upd S d (.frz od u)) ρ σ1 H1 S1 ρ1 → S1 d = some (.frz od u) := fun t => t.exS _ _ upd_same
  refine ⟨?_, ?_, ?_, ?_, ?_⟩
  · exact fun σ1 H1 S1 ρ1 hP r1 t1 => ⟨r1.ex _ _ (s1 t1), k.1 _ _ _ _ hP (rel_lkw r1 (lk_unlock hu (s1 t1)) (by rw [s1 t1]; exact fun z => nomatch z)) (tr_unlock hS hH t1)⟩
  · exact fun σ1 H1 S1 ρ1 hP r1 t1 => ⟨r1.ex _ _ (s1 t1), k.2.1 _ _ _ _ hP (rel_lkw r1 (lk_unlock hu (s1 t1)) (by rw [s1 t1]; exact fun z => nomatch z)) (tr_unlock hS hH t1)⟩
  · exact fun σ1 H1 S1 ρ1 hP r1 t1 => ⟨r1.ex _ _ (s1 t1), k.2.2.1 _ _ _ _ hP (rel_lkw r1 (lk_unlock hu (s1 t1)) (by rw [s1 t1]; exact fun z => nomatch z)) (tr_unlock hS hH t1)⟩
  · exact fun v x σ1 H1 S1 ρ1 hP r1 t1 hd => ⟨r1.ex _ _ (s1 t1), k.2.2.2.1 v x _ _ _ _ hP (rel_lkw r1 (lk_unlock hu (s1 t1)) (by rw [s1 t1]; exact fun z => nomatch z)) (tr_unlock hS hH t1) (hd.lk (lk_unlock hu (s1 t1)))⟩
  · exact fun v x σ1 H1 S1 ρ1 hP r1 t1 hd => ⟨r1.ex _ _ (s1 t1), k.2.2.2.2 v x _ _ _ _ hP (rel_lkw r1 (lk_unlock hu (s1 t1)) (by rw [s1 t1]; exact fun z => nomatch z)) (tr_unlock hS hH t1) (fresh_unlock hu (s1 t1) hd)⟩
theorem lockF {t : TE} {F : FE} (hS : S d = some u) (hu : dicO u) (h : ∀ od, FAt K fi fa t F σ (upd H d (.frz od u)) (upd S d (.frz od u)) ρ) : FAt K fi fa (tLockE t) F σ H S ρ := fun P Q r hf k => by
  have hH := r.ex _ _ hS
  refine ⟨d, u, hH, dic_mut hu, fun od => h od P _ (rel_lkw r (lk_lock hu hS od) (by rw [hS]; exact fun z => nomatch z)) hf fun v H1 S1 x ρ1 hP r1 t1 hd => ?_⟩
  have s1 : S1 d = some (.frz od u) := t1.exS _ _ upd_same
  exact ⟨r1.ex _ _ s1, k v _ _ x ρ1 hP (rel_lkw r1 (lk_unlock hu s1) (by rw [s1]; exact fun z => nomatch z)) (tr_unlock hS hH t1) (fresh_unlock hu s1 hd)⟩
end

/-! ### the keys of a dict with nested keys, in their order -/
section
variable {X : Cx} {pins : List (Addr × Obj)} {σ : L2.St} {H : Hp} {s : Shared} {d : Addr} {o : Obj}
theorem inv_frzN {b : Addr} {kvs : List (NestedKey × Addr × V)} (I : Inv X pins σ H s) (h : H d = some (.frz o (HoN b kvs))) :
    (d == sysModules) = false ∧ s.heap.get? d = some o ∧ o.ExactDict ∧ ∃ (es : Array DictEntry) (ep : Nat), o.data = .dict es ep ∧ es.size = kvs.length ∧
      ∀ (i : Nat) (k : NestedKey) (q : Addr) (v : V), kvs[i]? = some (k, q, v) → ∃ (en : DictEntry), es[i]? = some en ∧ en.key = .ref q := by
  obtain ⟨hd, z⟩ := (show ObjOk X.prog X.w H s.heap d (.frz o (HoN b kvs)) from I.hok d _ h)
  obtain ⟨_, l, hs, xs, pr, o', es, ep, ho, hx, hdt, he, hn⟩ := good_of z
  rw [hd] at ho
  cases ho
  have l1 : es.size = xs.length := by rw [← Array.length_toList, he, List.length_map]
  have l2 : kvs.length = xs.length := Paired.length pr
  refine ⟨hs, hd, hx, es, ep, hdt, by omega, fun i k q v e => ?_⟩
  obtain ⟨x, hb, e1, e2, _⟩ := paired_get pr e
  have qe : es[i]? = (xs[i]?).map fun x => (⟨x.1.hash HW.w, .ref x.2.1, x.2.2⟩ : DictEntry) := by rw [← Array.getElem?_toList, he, List.getElem?_map]
  rw [hb] at qe
  exact ⟨_, qe, by rw [show q = x.2.1 from e2]⟩
end
def Itn (d : Addr) (o : Obj) (b : Addr) (kvs : List (NestedKey × Addr × V)) : It :=
  ⟨fun i H => H d = some (.frz o (HoN b kvs)) ∧ i < kvs.length, fun i H x H' => H' = H ∧ ∃ k q v, kvs[i]? = some (k, q, v) ∧ x = .ref q, fun i H => H d = some (.frz o (HoN b kvs)) ∧ kvs.length ≤ i⟩
theorem turn_keysN {P : Program} {w : World} {K : PySem.W.Frag} {tg : Expr} {d b : Addr} {o : Obj} {es : Array DictEntry} {ep : Nat} {kvs : List (NestedKey × Addr × V)} (it : Addr) (hod : o.data = .dict es ep) : Turn P w K tg (Itn d o b kvs) [it] it (fun i h => h.IsKeyIter it d i kvs.length ep) where
  mem := by simp
  obj := fun i h st b hb => by
    have e : b = it := by simpa using hb
    subst e
    obtain ⟨oi, e, c, dd⟩ := st
    exact ⟨oi, e, fun v z => by rw [dd] at z; cases z⟩
  keep := fun i h h' st k => st.at fun oi e => k it (by simp) oi e
  item := by
    intro X hP hw hK hc i pins s σ H E I hf st hg
    subst hP hw hK
    obtain ⟨hd, hi⟩ := hg
    obtain ⟨f0, f1, f2, f3, f4, f5⟩ := hf it (by simp)
    obtain ⟨hs, hgd, hx, es', ep', hdt, hsz, ent⟩ := inv_frzN I hd
    obtain ⟨rfl, rfl⟩ := dict_ep hod hdt
    obtain ⟨⟨k, q, v⟩, hkv⟩ : ∃ p, kvs[i]? = some p := ⟨kvs[i], List.getElem?_eq_getElem hi⟩
    obtain ⟨en, hen, hkey⟩ := ent i k q v hkv
    refine next_key_item st hgd hdt hsz hen fun h' st' sb => ?_
    have I1 : Inv X pins σ H { s with heap := h' } := I.turned (t' := s.toks) (fun b ob hb e => (sb.2 b hb).trans e) f0 f1 f3 f4 f5
    obtain ⟨oi, e, c, dd⟩ := id st'
    exact ⟨en.key, rfl, go_of (s := { s with heap := h' }) e c dd (by decide) ⟨.ref q, H, I1, hkey, ⟨rfl, k, q, v, hkv, rfl⟩, st', fun b hb => (hf b hb).1⟩⟩
  done := by
    intro X hP hw hK hc i pins s σ H E I hf st hg
    subst hP hw hK
    obtain ⟨hd, hi⟩ := hg
    obtain ⟨f0, f1, f2, f3, f4, f5⟩ := hf it (by simp)
    obtain ⟨hs, hgd, hx, es', ep', hdt, hsz, ent⟩ := inv_frzN I hd
    obtain ⟨rfl, rfl⟩ := dict_ep hod hdt
    exact next_key_end (I.ok.hd hc) st hgd hdt hsz hi fun h' eb => ⟨rfl, I.turned (t' := s.toks) (fun b ob hb e => eb b ob hb e) f0 f1 f3 f4 f5⟩
  self := fun A i s Q E st h => by
    refine wpAny_pyIter_slot st.typeIs PySem.F.slot_dict_keyiterator_iter (wpAny_call_entry PySem.F.slot_dict_keyiterator_iter st.typeIs PySem.F.entry_dict_keyiterator_iter ?_ (PySem.F.args_dict_keyiterator_iter_1 _))
    show wpAny _ _ (ret (.ref it)) _ _ s
    exact wpAny_pure ⟨_, rfl, "dict_keyiterator", _, st.typeIs, PySem.F.slot_dict_keyiterator_next.lookup, h⟩
def iKeysN (td : TE) : TI := fun σ H R => td σ H fun x H1 => ∃ d o b kvs, x = .ref d ∧ H1 d = some (.frz o (HoN b kvs)) ∧ R (Itn d o b kvs) H1
theorem pi_keysN {X : Cx} {tg e : Expr} {td : TE} (he : PE X e td) : PI X tg e (iKeysN td) := by
  refine ⟨fun pins s σ H R I h => ?_⟩
  refine thn (he.run pins s σ H _ I h) fun u s1 ⟨x, H1, I1, rx, d, o, b, kvs, ex, hd, q⟩ => ?_
  subst ex
  obtain rfl : u = Value.ref d := rx
  obtain ⟨hs, hgd, hx, es, ep, hdt, hsz, ent⟩ := inv_frzN I1 hd
  refine iter_keys hs hgd hx hdt (pi_one (tk := s1.toks) I1 _ (turn_keysN _ hdt) ⟨_, Heap.get?_push_size _ rfl, rfl, ?_⟩ q)
  rw [hsz] <;> rfl
def iOr (t u : TI) : TI := fun σ H R => t σ H R ∨ u σ H R
theorem pi_or {X : Cx} {tg e : Expr} {t u : TI} (a : PI X tg e t) (b : PI X tg e u) : PI X tg e (iOr t u) := ⟨fun pins s σ H R I h => h.elim (a.run pins s σ H R I) (b.run pins s σ H R I)⟩
abbrev iKeysX (td : TE) : TI := iOr (iKeys td) (iKeysN td)
theorem pi_keysX {X : Cx} {tg e : Expr} {td : TE} (he : PE X e td) : PI X tg e (iKeysX td) := pi_or (pi_keys he) (pi_keysN he)

/-! ### the keys of a dict -/
def keysD (d : D) (P : List D → Prop) : Prop := match d with
  | .dT ks _ => P (ks.map fun k => .tup (k.map kD))
  | .dK ks _ => P (ks.map kD)
  | .dN ks _ => P ks
  | _ => False
def fDicI (j : Nat) : FI := fun ρ P => fVar j ρ fun d ρ1 => keysD d fun ds => P ds ρ1
theorem itd_keysT {K : PySem.W.Frag} {S : Hp} {a : Addr} {o : Obj} {kvs : List (List Key × V)} (h : S a = some (.frz o (.dT kvs))) : ItD K (Itkt a o kvs) S ((kvs.map (·.1)).map fun k => .tup (k.map kD)) := fun i S' H' e1 e2 =>
  ⟨fun hl => ⟨(e1.trans e2) _ _ h, by rw [List.length_map, List.length_map] at hl; exact hl⟩, fun x he => by
    have hi : i < kvs.length := by
      have := (List.getElem?_eq_some_iff.mp he).1
      rw [List.length_map, List.length_map] at this
      exact this
    refine ⟨⟨(e1.trans e2) _ _ h, hi⟩, fun y H'' ⟨e, k, v, q, h1, h2, h3⟩ => ?_⟩
    subst e
    subst h2
    rw [List.getElem?_map, List.getElem?_map, h1] at he
    cases he
    have g := addT_gr (bs := [q]) e2 fun b hb => by rw [List.mem_singleton.mp hb]; exact ⟨_, h3⟩
    refine ⟨_, g, .tup (xs := k.map kV) ?_ (den_keys k)⟩
    unfold addT
    rw [if_pos List.mem_cons_self]
    exact h3⟩
theorem itd_keysK {K : PySem.W.Frag} {S : Hp} {a : Addr} {o : Obj} {kvs : List (Key × V)} (h : S a = some (.frz o (.dK kvs))) : ItD K (Itk a o kvs) S ((kvs.map (·.1)).map kD) := fun i S' H' e1 e2 =>
  ⟨fun hl => ⟨(e1.trans e2) _ _ h, by rw [List.length_map, List.length_map] at hl; exact hl⟩, fun x he => by
    have hi : i < kvs.length := by
      have := (List.getElem?_eq_some_iff.mp he).1
      rw [List.length_map, List.length_map] at this
      exact this
    refine ⟨⟨(e1.trans e2) _ _ h, hi⟩, fun y H'' ⟨e, k, v, h1, h2⟩ => ?_⟩
    subst e
    subst h2
    rw [List.getElem?_map, List.getElem?_map, h1] at he
    cases he
    refine ⟨S', Gr.refl e2, ?_⟩
    cases k with
    | inl i => exact .int i
    | inr s => exact .str s⟩
theorem itd_keysN {K : PySem.W.Frag} {S : Hp} {a b : Addr} {o : Obj} {kvs : List (NestedKey × Addr × V)} {ks : List D} (h : S a = some (.frz o (HoN b kvs))) (hk : Dens K S (kvs.map fun q => V.ref q.2.1) ks) : ItD K (Itn a o b kvs) S ks := fun i S' H' e1 e2 => by
  have hl : ks.length = kvs.length := by rw [← hk.length, List.length_map]
  refine ⟨fun hi => ⟨(e1.trans e2) _ _ h, by omega⟩, fun x he => ?_⟩
  have hi : i < kvs.length := by
    have := (List.getElem?_eq_some_iff.mp he).1
    omega
  refine ⟨⟨(e1.trans e2) _ _ h, hi⟩, fun y H'' ⟨e, k, q, v, h1, h2⟩ => ?_⟩
  subst e
  subst h2
  obtain ⟨v', hv, hd⟩ := hk.get he
  rw [List.getElem?_map, h1] at hv
  cases hv
  exact ⟨S', Gr.refl e2, hd.mono e1⟩
/-- a name's thing, no longer owned -/
theorem var_frz {K : PySem.W.Frag} {j : Nat} {σ : L2.St} {H S : Hp} {ρ : List Sl} {P : D → List Sl → Prop} (r : Rel K fi fa σ H S ρ) (h : fVar j ρ P) :
    ∃ v S' d ρ', σ[j]? = some (some v) ∧ P d ρ' ∧ ρ'[j]? = some (.val d) ∧ Rel K fi fa σ H S' ρ' ∧ Tr σ H S ρ σ H S' ρ' ∧ Den K S' v d := by
  have h' : fVar j ρ fun d ρ' => P d ρ' ∧ ρ'[j]? = some (.val d) := by
    unfold fVar at h ⊢
    cases q : ρ[j]? with
    | none => rw [q] at h; exact h
    | some s =>
      rw [q] at h
      cases s with
      | non => exact h
      | val d => exact ⟨h, q⟩
      | own d => exact ⟨h, by rw [List.getElem?_set_self (List.getElem?_eq_some_iff.mp q).1]⟩
  obtain ⟨v, e, S', d, ρ', h1, h2, h3, h4⟩ := ok_var K j σ H S ρ _ (fun v H' => ∃ S' d ρ', (P d ρ' ∧ ρ'[j]? = some (.val d)) ∧ Rel K fi fa σ H' S' ρ' ∧ Tr σ H S ρ σ H' S' ρ' ∧ Den K S' v d) r h' fun v H' S' d ρ' hP r' t' hd => ⟨S', d, ρ', hP, r', t', hd⟩
  exact ⟨v, S', d, ρ', e, h1.1, h1.2, h2, h3, h4⟩
theorem fVar_val {j : Nat} {ρ : List Sl} {d : D} {P : D → List Sl → Prop} (h : ρ[j]? = some (.val d)) : fVar j ρ P = P d ρ := by
  unfold fVar
  rw [h]
theorem iat_keys {K : PySem.W.Frag} {j : Nat} {a : Addr} {od : Obj} {u : HO} {σ : L2.St} {H S : Hp} {ρ : List Sl} (hu : dicO u) (hσ : σ[j]? = some (some (.ref a))) (hl : S a = some (.frz od u)) : IAt K fi fa (iKeysX (tVar j)) (fDicI j) σ H S ρ := by
  intro P R r hf k
  obtain ⟨v, S', d, ρ', e, hP, e2, r', t', hd⟩ := var_frz r hf
  rw [hσ] at e
  cases e
  have hl' := t'.exS _ _ hl
  unfold keysD at hP
  split at hP
  · obtain ⟨b, kvs, e, h1, h2, h3⟩ := den_dT hd
    cases e
    subst h2
    have : u = .dT kvs := by
      rcases h1 with h1 | ⟨o, h1⟩
      · rw [hl'] at h1; cases h1
      · rw [hl'] at h1; cases h1; rfl
    subst this
    exact .inl ⟨_, hσ, a, od, rfl, .inr ⟨kvs, r'.ex _ _ hl', k _ H S' _ ρ' hP r' t' (itd_keysT hl')⟩⟩
  · obtain ⟨b, kvs, e, h1, h2, h3⟩ := den_dK hd
    cases e
    subst h2
    have : u = .dK kvs := by
      rcases h1 with h1 | ⟨o, h1⟩
      · rw [hl'] at h1; cases h1
      · rw [hl'] at h1; cases h1; rfl
    subst this
    exact .inl ⟨_, hσ, a, od, rfl, .inl ⟨kvs, r'.ex _ _ hl', k _ H S' _ ρ' hP r' t' (itd_keysK hl')⟩⟩
  · obtain ⟨b, c, kvs, e, h1, h2, h3, h4⟩ := den_dN hd
    cases e
    have : u = HoN c kvs := by
      rcases h1 with h1 | ⟨o, h1⟩
      · rw [hl'] at h1; cases h1
      · rw [hl'] at h1; cases h1; rfl
    subst this
    exact .inr ⟨_, hσ, a, od, c, kvs, rfl, r'.ex _ _ hl', k _ H S' _ ρ' hP r' t' (itd_keysN hl' h2)⟩
  · exact hP.elim
/-- a dict is locked already, or it is locked now -/
def tOrS (t u : TS) : TS := fun D σ H => t D σ H ∨ u D σ H
theorem ps_or {X : Cx} {st : Stmt} {t u : TS} (a : PS X st t) (b : PS X st u) : PS X st (tOrS t u) := ⟨fun pins s σ H D I h => h.elim (a.run pins s σ H D I) (b.run pins s σ H D I)⟩
def tOrE (t u : TE) : TE := fun σ H Q => t σ H Q ∨ u σ H Q
theorem pe_or {X : Cx} {e : Expr} {t u : TE} (a : PE X e t) (b : PE X e u) : PE X e (tOrE t u) := ⟨fun pins s σ H Q I h => h.elim (a.run pins s σ H Q I) (b.run pins s σ H Q I)⟩
theorem dict_at {K : PySem.W.Frag} {S : Hp} {v : V} {d : D} {P : List D → Prop} (h : keysD d P) (hd : Den K S v d) : ∃ a u, v = .ref a ∧ dicO u ∧ (S a = some u ∨ ∃ od, S a = some (.frz od u)) := by
  unfold keysD at h
  split at h
  · obtain ⟨a, kvs, e, h1, _⟩ := den_dT hd
    exact ⟨a, .dT kvs, e, trivial, h1⟩
  · obtain ⟨a, kvs, e, h1, _⟩ := den_dK hd
    exact ⟨a, .dK kvs, e, trivial, h1⟩
  · obtain ⟨a, b, kvs, e, h1, _⟩ := den_dN hd
    exact ⟨a, HoN b kvs, e, trivial, h1⟩
  · exact h.elim
theorem beh_back {K : PySem.W.Frag} {σ : L2.St} {H S S' : Hp} {ρ ρ' : List Sl} {P : Fl → Prop} {E : Ends} (k : Beh K fi fa σ H S ρ P E) (t : Tr σ H S ρ σ H S' ρ') : Beh K fi fa σ H S' ρ' P E :=
  ⟨fun σ1 H1 S1 ρ1 hP r1 t1 => k.1 σ1 H1 S1 ρ1 hP r1 (t.trans t1), fun σ1 H1 S1 ρ1 hP r1 t1 => k.2.1 σ1 H1 S1 ρ1 hP r1 (t.trans t1), fun σ1 H1 S1 ρ1 hP r1 t1 => k.2.2.1 σ1 H1 S1 ρ1 hP r1 (t.trans t1),
    fun v d σ1 H1 S1 ρ1 hP r1 t1 hd => k.2.2.2.1 v d σ1 H1 S1 ρ1 hP r1 (t.trans t1) hd, fun v d σ1 H1 S1 ρ1 hP r1 t1 hd => k.2.2.2.2 v d σ1 H1 S1 ρ1 hP r1 (t.trans t1) (hd.back t)⟩
section
variable {X : Cx} {tg elt : Expr} {body : List Stmt} {ws : List Nat} {g : FG} {B : FS} {x : Str} {px pos : Pos} {ifs : List Expr} {ft : FT} {fe : FE}
theorem psd_forD (j : Nat) (hp : PassesOwn (model X.prog X.w) X.A X.env X.xe) (hc : X.calm = true) (hg : PGD X fi fa tg ws g) (hb : PSsD X fi fa body B)
    (hN : X.N[j]? = some x := by rfl) (hv : Vis X.env.scope x := by first | exact Or.inl rfl | exact Or.inr (Or.inl rfl) | exact Or.inr (Or.inr rfl)) (hd : (x == ("__debug__" : Str)) = false := by decide)
    (hcd : (x == ("__classdict__" : Str)) = false := by decide)
    (hs : ∀ y, foldedSetIterable (.Name x px) X.env y = pure y := by intro _; rfl) : PSD X fi fa (.For tg (.Name x px) body [] pos) (fFor (fDicI j) g B) := by
  obtain ⟨tg', p2, o2⟩ := hg
  obtain ⟨tb, p3, o3⟩ := hb
  have pf := ps_for (pos := pos) hp hc (pi_keysX (pv j hN hv hd hcd)) p2 p3 hs
  refine ⟨_, ps_or (ps_lock pf) pf, fun σ H S ρ P E r hf k => ?_⟩
  have hf2 : fVar j ρ fun d ρ1 => keysD d fun ds => forGo g B ds ρ1 P := hf
  obtain ⟨v, S', d, ρ', e, hP, e2, r', t', hd⟩ := var_frz r hf2
  obtain ⟨a, u, rfl, hu, ha⟩ := dict_at hP hd
  have hf' : fFor (fDicI j) g B ρ' P := by
    show fVar j ρ' (fun d ρ1 => keysD d fun ds => forGo g B ds ρ1 P)
    rw [fVar_val e2]
    exact hP
  rcases ha with ha | ⟨od, ha⟩
  · exact .inl (lockS ha hu (fun od => for_at (iat_keys hu e upd_same) o2 o3) P E r' hf' (beh_back k t'))
  · exact .inr (for_at (iat_keys hu e ha) o2 o3 P E r' hf' (beh_back k t'))
theorem pf_lcD (j : Nat) {scope : Scope} (own : List (Str × Nat)) (hN0 : X.N.Nodup) (ok : BlkOk X.N X.env.scope scope own)
    (hg : ∀ (s : Shared) (H : Hp) (C : Addr) (cl : List (Str × Addr)) (fp : List Addr), PGD (Blk X s H scope cl C fp) fi fa tg ws g)
    (ht : ∀ (s : Shared) (H : Hp) (C : Addr) (cl : List (Str × Addr)) (fp : List Addr), PTsD (Blk X s H scope cl C fp) fi fa ifs ft)
    (he : ∀ (s : Shared) (H : Hp) (C : Addr) (cl : List (Str × Addr)) (fp : List Addr), PED (Blk X s H scope cl C fp) fi fa elt fe)
    (hc : X.calm = true := by rfl) (hN : X.N[j]? = some x := by rfl) (hvis : Vis X.env.scope x := by first | exact Or.inl rfl | exact Or.inr (Or.inl rfl) | exact Or.inr (Or.inr rfl)) (hd : (x == ("__debug__" : Str)) = false := by decide)
    (hcd : (x == ("__classdict__" : Str)) = false := by decide)
    (hs : ∀ y, foldedSetIterable (.Name x px) X.env y = pure y := by intro _; rfl) (hv : (own.map (·.2)).all (fun i => !fi.contains i) = true := by rfl) (hw : ws.all (fun i => (own.map (·.2)).contains i) = true := by rfl) :
    PEF X fi fa (.ListComp elt [⟨tg, .Name x px, ifs, 0⟩] scope pos) (fLc (fDicI j) g ft fe (own.map (·.2))) := by
  have pf := pe_lc (pos := pos) (g := uG X.K fi fa ws g) (tt := uT X.K fi fa ft) (te := uE X.K fi fa fe) hc hN0 (pi_keysX (pv j hN hvis hd hcd)) ok (fun s H C cl fp => (hg s H C cl fp).uni) (fun s H C cl fp => (ht s H C cl fp).uni) (fun s H C cl fp => (he s H C cl fp).uni) hs
  refine ⟨_, pe_or (pe_lock pf) pf, fun σ H S ρ P Q r hf k => ?_⟩
  have hf2 : fVar j ρ fun d ρ1 => keysD d fun ds => lcGo g ft fe (own.map (·.2)) ds [] (wipeS ρ1 (own.map (·.2))) fun acc ρ2 => P (.lst acc) ρ2 := hf
  obtain ⟨v, S', d, ρ', e, hP, e2, r', t', hd⟩ := var_frz r hf2
  obtain ⟨a, u, rfl, hu, ha⟩ := dict_at hP hd
  have hf' : fLc (fDicI j) g ft fe (own.map (·.2)) ρ' P := by
    show fVar j ρ' (fun d ρ1 => keysD d fun ds => lcGo g ft fe (own.map (·.2)) ds [] (wipeS ρ1 (own.map (·.2))) fun acc ρ2 => P (.lst acc) ρ2)
    rw [fVar_val e2]
    exact hP
  have k' : ∀ v H1 S1 d ρ1, P d ρ1 → Rel X.K fi fa σ H1 S1 ρ1 → Tr σ H S' ρ' σ H1 S1 ρ1 → Fresh X.K σ H1 S1 ρ1 (Nw σ ρ' H) v d → Q v H1 := fun v H1 S1 d ρ1 hP r1 t1 hd => k v H1 S1 d ρ1 hP r1 (t'.trans t1) (hd.back t')
  rcases ha with ha | ⟨od, ha⟩
  · exact .inl (lockF ha hu (fun od => lc_at (iat_keys hu e upd_same) (notin_of hv) (allin_of hw)) P Q r' hf' k')
  · exact .inr (lc_at (iat_keys hu e ha) (notin_of hv) (allin_of hw) P Q r' hf' k')
end
end

/-! ### sorted of data -/
section
open PySem.W
variable {prog : Program} {w : World} {A : Around} {E : Value → Shared → Prop} {s : Shared}
omit [HW]
theorem collect_tuple {l : Addr} {vs : List Value} {Q : List Value → Shared → Prop} (hl : s.heap.IsTuple l vs.toArray)
    (h : Q vs { s with heap := (s.heap.push (seqObj "list" #[] 0)).update s.heap.objs.size (Obj.mapSeq (· ++ vs.toArray)) }) (hsz : vs.length ≤ sizeLine) :
    wpAny (model prog w) A (collect (.ref l)) Q E s := by
  obtain ⟨o, ho, hc, n, hd⟩ := id hl
  unfold collect
  refine wpAny_bind (wpAny_runValue (codeAny_builtin entry_proto_collect' ?_))
  show wpAny _ _ (do again (.builtin "list.__iadd__" ⟨[← newList [], .ref l], []⟩)) _ _ s
  refine wpAny_bind (wpAny_newList (wpAny_pure ⟨Code.quiet_builtin _ (by decide +kernel), codeAny_builtin entry_list_iadd' ?_⟩))
  show wpAny _ _ (Builtin.List.listExtendWith (.ref s.heap.objs.size) (.ref l) (.ref s.heap.objs.size)) _ _ { s with heap := s.heap.push (seqObj "list" #[] 0) }
  unfold Builtin.List.listExtendWith
  have ho' : (s.heap.push (seqObj "list" #[] 0)).get? l = some o := Heap.get?_push_of_some _ ho
  refine wpAny_bind (wpAny_typeOf (T := "tuple") ⟨o, ho', hc⟩ ?_)
  have ht : (Value.type "tuple" == Value.type "tuple") = true := by rfl
  rw [if_pos (by rw [ht]; simp)]
  refine wpAny_bind (listItems_at ho' hd ?_)
  refine wpAny_bind (listItems_at (xs := #[]) (n := 0) (Heap.get?_push_size _ rfl) rfl ?_)
  rw [if_neg (by simp)]
  refine wpAny_bind (listUpdate_at (xs := #[]) (n := 0) (Heap.get?_push_size _ rfl) rfl ?_ (Nat.zero_le _) (by show (#[] ++ vs.toArray).size ≤ sizeLine + 1; simp only [Array.size_append, List.size_toArray, List.length_nil]; omega))
  refine wpAny_pure ?_
  show wpAny (model prog w) A (do
      let o ← load s.heap.objs.size
      match o.data with
      | .seq xs _ => pure xs.toList
      | _ => unsupported "internal:collect") Q E { s with heap := (s.heap.push (seqObj "list" #[] 0)).update s.heap.objs.size (Obj.mapSeq (· ++ vs.toArray)) }
  refine wpAny_bind (wpAny_load (get?_update_seq (Heap.get?_push_size _ rfl) _) ?_)
  show wpAny _ _ (pure ((#[] : Array Value) ++ vs.toArray).toList) Q E _
  rw [show ((#[] : Array Value) ++ vs.toArray).toList = vs by simp]
  exact wpAny_pure h
theorem sorted_of_sortT {l : Addr} {vs : List Value} {kw : List (Str × Value)} {Q : Value → Shared → Prop} (hl : s.heap.IsTuple l vs.toArray) (hL : vs.length ≤ sizeLine) (ha1 : argsOk "sorted" ⟨[.ref l], kw⟩) (ha2 : ∀ x, argsOk "list.sort" ⟨[.ref x], kw⟩)
    (body : ∀ E' : Value → Shared → Prop, wpAny (model prog w) A.in1.in1 (Builtin.«list.sort» ⟨[.ref (s.heap.objs.size + 1)], kw⟩) (fun f s' => f = .done (.ret .none) ∧ Q (.ref (s.heap.objs.size + 1)) s') E' { s with heap := copyHeap s.heap vs }) :
    wpAny (model prog w) A (call (.builtin "sorted") [.ref l] kw) Q E s := by
  refine call_function_entry_kw kind_sorted plain_sorted entry_sorted ha1 ?_
  unfold Builtin.«sorted»
  refine wpAny_bind (m := checkCount "sorted" 1 1 _) (wpAny_pure ?_)
  refine wpAny_bind (collect_tuple hl ?_ hL)
  refine wpAny_bind (wpAny_newList ?_ hL)
  have hsz : ((s.heap.push (seqObj "list" #[] 0)).update s.heap.objs.size (Obj.mapSeq (· ++ vs.toArray))).objs.size = s.heap.objs.size + 1 := by
    rw [Heap.size_update, size_push']
  show wpAny _ _ _ _ _ { s with heap := copyHeap s.heap vs }
  rw [hsz]
  refine wpAny_bind (wpAny_holding (wpAny_call_entry_kw slot_list_sort ⟨_, copyHeap_at s.heap vs, rfl⟩ entry_list_sort ?body (ha2 _)))
  case body =>
    show wpAny (model prog w) A.in1.in1 (Builtin.«list.sort» ⟨[.ref (s.heap.objs.size + 1)], kw⟩) _ _ _
    refine wpAny_mono (body _) (fun f s' hf => ?_) fun _ _ e => e
    obtain ⟨rfl, hq⟩ := hf
    exact ⟨_, rfl, wpAny_pure ⟨_, rfl, hq⟩⟩
theorem sorted_dataT {β : Type} {vs : List Value} {bs : List β} {enc : β → PyData} {R : Value → β → Prop} {l : Addr} {Q : Value → Shared → Prop} (hl : s.heap.IsTuple l vs.toArray) (e : EachIs R vs bs) (er : EachIs (fun v b => ∃ as, Reads s.heap v (enc b) as) vs bs) (hal : AllAlike (bs.map enc)) (hk : Sortable (bs.map enc)) (hL : bs.length ≤ sizeLine)
    (hu : ∀ b, b ∈ bs → A.units + 2 + (enc b).depth < cLine) (h : ∀ out, out.length = bs.length → EachIs R out (bs.mergeSort (dataLe false enc)) → Q (.ref (s.heap.objs.size + 1)) { s with heap := sortedAll s.heap vs (List.toArray out) }) :
    wpAny (model prog w) A (call (.builtin "sorted") [.ref l]) Q E s := by
  have er' : EachIs (fun v b => ∃ as, Reads (sortingHeap (copyHeap s.heap vs) (s.heap.objs.size + 1) vs) v (enc b) as) vs bs := er.mono fun _ _ ⟨as, r⟩ => ⟨as, PyProof.Rows.Reads.keeps (fun _ _ => sorting_copy_old) r⟩
  have hlen : vs.length ≤ sizeLine := by rw [e.length]; exact hL
  exact sorted_of_sortT hl hlen (args_sorted1 _) (fun _ => args_list_sort _) fun _ => list_sort_vals (s := { s with heap := copyHeap s.heap vs }) (copyHeap_at s.heap vs) (SortsAt.data (s := { s with heap := sortingHeap (copyHeap s.heap vs) (s.heap.objs.size + 1) vs }) (each_map (R := fun v d => ∃ as, Reads (sortingHeap (copyHeap s.heap vs) (s.heap.objs.size + 1) vs) v d as) enc er') hal hk (bound_map hu)) hlen
    ⟨rfl, h _ (by rw [sortVals_length false rfl]; exact e.length) (sortVals_data false e er' hal)⟩
end
open PySem.W in
def rSortD (K : PySem.W.Frag) : List V → Hp → VK → Prop := fun vs H Q => ∃ (a : Addr) (bs : List (V × D)), vs = [V.ref a] ∧ (SqL K H a (bs.map (·.1)) ∨ SqT K H a (bs.map (·.1))) ∧ (∀ b ∈ bs, Dp K H b.1 (toP b.2) ∧ (toP b.2).plain = true ∧ (toP b.2).depth ≤ 60) ∧
  AllAlike (bs.map fun b => toP b.2) ∧ Sortable (bs.map fun b => toP b.2) ∧ ∀ p, H p = none → Q (.ref p) (upd H p (.lst ((bs.mergeSort (dataLe false fun b : V × D => toP b.2)).map (·.1))))
open PyProof.Rows.G PySem.W in
theorem each_rel {bs : List (V × D)} : ∀ {us : List Value}, Vals (bs.map (·.1)) us → EachIs (fun v (b : V × D) => RelV b.1 v) us bs := by
  induction bs with
  | nil => intro us h; cases h; exact .nil
  | cons b bs ih => intro us h; cases h with
    | cons a t => exact .cons a (ih t)
open PyProof.Rows.G PySem.W in
theorem rel_each {bs : List (V × D)} : ∀ {us : List Value}, EachIs (fun v (b : V × D) => RelV b.1 v) us bs → Vals (bs.map (·.1)) us := by
  induction bs with
  | nil => intro us h; cases h; exact .nil
  | cons b bs ih => intro us h; cases h with
    | cons a t => exact .cons a (ih t)
section
variable {X : Cx}
open PyProof.Rows.G PySem.W in
theorem cr_sortD (hu : X.A.units + 64 < cLine) : CallR X (.builtin "sorted") (rSortD X.K) := by
  intro pins s σ H vs us Q I r h
  obtain ⟨a, bs, rfl, hs, hx, hal, hk, q⟩ := h
  obtain ⟨u, rfl, ru⟩ := vals1 r
  obtain rfl : u = Value.ref a := ru
  obtain ⟨its, rv, hl, hz⟩ : ∃ its, Vals (bs.map (·.1)) its ∧ (s.heap.IsList a its.toArray ∨ s.heap.IsTuple a its.toArray) ∧ (bs.map (·.1)).length ≤ sizeLine := by
    rcases hs with hs | hs
    · obtain ⟨its, rv, hl, hz⟩ := I.list hs
      exact ⟨its, rv, .inl hl.isList, hz⟩
    · obtain ⟨its, rv, hl, hz⟩ := I.tuple hs
      exact ⟨its, rv, .inr hl, hz⟩
  have e := each_rel rv
  have er : ∀ {us : List Value} {cs : List (V × D)}, EachIs (fun v (b : V × D) => RelV b.1 v) us cs → (∀ b ∈ cs, b ∈ bs) → EachIs (fun v (b : V × D) => ∃ as, Reads s.heap v (toP b.2) as) us cs := by
    intro us cs e
    induction e with
    | nil => exact fun _ => .nil
    | cons a t ih => exact fun hm => .cons (Dp.reads I _ _ _ (hx _ (hm _ List.mem_cons_self)).1 a) (ih fun b hb => hm b (List.mem_cons_of_mem _ hb))
  have len : bs.length = its.length := by
    have := rv.length
    rw [List.length_map] at this
    exact this
  have fin : ∀ out : List Value, out.length = bs.length → EachIs (fun v (b : V × D) => RelV b.1 v) out (bs.mergeSort (dataLe false fun b : V × D => toP b.2)) → L2.EP X pins σ Q (.ref (s.heap.objs.size + 1)) { s with heap := sortedAll s.heap its (List.toArray out) } := by
    intro out ho heo
    obtain ⟨ee, hat⟩ := sortedAll_at s.heap its out.toArray
    refine ⟨.ref (s.heap.objs.size + 1), upd H (s.heap.objs.size + 1) (.lst ((bs.mergeSort (dataLe false fun b : V × D => toP b.2)).map (·.1))), I.laid (t' := s.toks) (fun b o e => sortedAll_old e) (Nat.le_succ _) ⟨?_, out, ee, rel_each heo, hat⟩, rfl, q _ (I.hok.fresh (Nat.le_succ _))⟩
    rw [List.length_map, List.length_mergeSort]
    rw [List.length_map] at hz
    exact hz
  rcases hl with hl | hl
  · exact sorted_data hl e (er e fun _ h => h) hal hk (by rw [List.length_map] at hz; exact hz) (fun b hb => by have := (hx b hb).2.2; omega) fin
  · exact sorted_dataT hl e (er e fun _ h => h) hal hk (by rw [List.length_map] at hz; exact hz) (fun b hb => by have := (hx b hb).2.2; omega) fin
open PySem.W in
def gSortD : GD := fun ds P => match ds with
  | [d] => ∃ xs, (d = .lst xs ∨ d = .rol xs ∨ d = .tup xs) ∧ (∀ x ∈ xs, (toP x).plain = true ∧ (toP x).depth ≤ 60) ∧ AllAlike (xs.map toP) ∧ Sortable (xs.map toP) ∧ P (.lst (xs.mergeSort (dataLe false toP)))
  | _ => False
theorem dens_zip {K : PySem.W.Frag} {S : Hp} : ∀ {vs : List V} {ds : List D}, Dens K S vs ds → (vs.zip ds).map (·.1) = vs ∧ (vs.zip ds).map (·.2) = ds ∧ ∀ b ∈ vs.zip ds, Den K S b.1 b.2
  | _, _, .nil => ⟨rfl, rfl, fun _ h => nomatch h⟩
  | _, _, .cons h t => by
    obtain ⟨a, b, c⟩ := dens_zip t
    refine ⟨by rw [List.zip_cons_cons, List.map_cons, a], by rw [List.zip_cons_cons, List.map_cons, b], fun x hx => ?_⟩
    rw [List.zip_cons_cons] at hx
    rcases List.mem_cons.mp hx with rfl | hx
    · exact h
    · exact c x hx
theorem zip_dens {K : PySem.W.Frag} {S : Hp} : ∀ {bs : List (V × D)}, (∀ b ∈ bs, Den K S b.1 b.2) → Dens K S (bs.map (·.1)) (bs.map (·.2))
  | [], _ => .nil
  | b :: bs, h => .cons (h b List.mem_cons_self) (zip_dens fun x hx => h x (List.mem_cons_of_mem _ hx))
open PySem.W in
theorem cf_sortD (hu : X.A.units + 64 < cLine) : CallF X (.builtin "sorted") gSortD := by
  refine ⟨_, cr_sortD hu, fun xs ds S H P Q ex hd hg k => ?_⟩
  unfold gSortD at hg
  split at hg
  · obtain ⟨xs, e, h1, h2, h3, hP⟩ := hg
    cases hd with
    | cons h t =>
      cases t
      obtain ⟨a, vs, rfl, g1, g2⟩ : ∃ a vs, _ = V.ref a ∧ (SqL X.K S a vs ∨ SqT X.K S a vs) ∧ Dens X.K S vs xs := by
        rcases e with e | e | e
        · obtain ⟨a, vs, e1, g1, g2⟩ := den_lstR (.inl e) h
          exact ⟨a, vs, e1, .inl g1, g2⟩
        · obtain ⟨a, vs, e1, g1, g2⟩ := den_lstR (.inr e) h
          exact ⟨a, vs, e1, .inl g1, g2⟩
        · subst e
          obtain ⟨a, vs, e1, g1, g2⟩ := den_tup h
          exact ⟨a, vs, e1, .inr (SqT.of g1), g2⟩
      obtain ⟨z1, z2, z3⟩ := dens_zip g2
      have em : (vs.zip xs).map (fun b => toP b.2) = xs.map toP := by
        rw [show (fun b : V × D => toP b.2) = toP ∘ (fun b : V × D => b.2) from rfl, ← List.map_map, z2]
      refine ⟨a, vs.zip xs, rfl, by rw [z1]; exact g1.imp ex.l ex.t, fun b hb => ?_, by rw [em]; exact h2, by rw [em]; exact h3, fun p hp => ?_⟩
      · have hm : b.2 ∈ xs := by rw [← z2]; exact List.mem_map.mpr ⟨b, hb, rfl⟩
        obtain ⟨a1, a2⟩ := h1 b.2 hm
        exact ⟨den_dp b.2 b.1 a1 ((z3 b hb).mono ex), a1, a2⟩
      · have ms : ((vs.zip xs).mergeSort (dataLe false fun b : V × D => toP b.2)).map (·.2) = xs.mergeSort (dataLe false toP) := by
          have := List.map_mergeSort (r := dataLe false fun b : V × D => toP b.2) (s := dataLe false toP) (f := fun b : V × D => b.2) (l := vs.zip xs) (fun _ _ _ _ => rfl)
          rw [this, z2]
        refine k p S _ (.lst _) _ hP hp (Gr.hid ex hp) (ex.free hp) upd_same ?_
        show Dens _ _ _ _
        rw [← ms]
        exact zip_dens fun b hb => z3 b ((List.mergeSort_perm _ _).mem_iff.mp hb)
  · exact hg.elim
end

/-! ### list(range(..)) -/
section
variable {X : Cx} {fi : List Nat} {fa : Nat → Addr} {a b : Expr} {fx fy : FE} {p p2 pos pos2 : Pos}
theorem dens_rg {K : PySem.W.Frag} {S : Hp} (i j : Int) : Dens K S (rgV i j) (rangeD i (j - i).toNat) := by
  unfold rgV rangeD
  have : ∀ l : List Nat, Dens K S (l.map fun k => V.int (i + (k : Nat))) (l.map fun k => D.int (i + (k : Nat))) := fun l => by
    induction l with
    | nil => exact .nil
    | cons x l ih => exact .cons (.int _) ih
  exact this _
def fLstRg1 (fx : FE) : FE := fun ρ P => fx ρ fun x ρ1 => asI x fun n => n ≤ 100000 ∧ -100000 ≤ n ∧ P (.lst (rangeD 0 n.toNat)) ρ1
def fLstRg2 (fx fy : FE) : FE := fun ρ P => fx ρ fun x ρ1 => fy ρ1 fun y ρ2 => asI x fun i => asI y fun j => i ≤ 100000 ∧ -100000 ≤ i ∧ j ≤ 100000 ∧ -100000 ≤ j ∧ P (.lst (rangeD i (j - i).toNat)) ρ2
theorem pf_listRg1 (hg : Gl X "list") (hm : X.mg "list" = none) (hm2 : X.mg "range" = none) (ha : PED X fi fa a fx) (hg2 : Gl X "range" := by rfl) (hc : X.calm = true := by rfl)
    (na : starEach [a] X.env = (false, eval a X.env) :: starEach [] X.env := by rfl)
    (nb : starEach [.Call (.Name "range" p2) [a] [] pos2] X.env = (false, eval (.Call (.Name "range" p2) [a] [] pos2) X.env) :: starEach [] X.env := by rfl) :
    PEF X fi fa (.Call (.Name "list" p) [.Call (.Name "range" p2) [a] [] pos2] [] pos) (fLstRg1 fx) := by
  obtain ⟨t, pa, oa⟩ := ha
  refine ⟨_, pe_listRg hc hg hm (prg_1 hg2 hm2 pa na) nb, fun σ H S ρ P Q r hf k => oa σ H S ρ _ _ r hf fun v H1 S1 d ρ1 h1 r1 t1 d1 => ?_⟩
  obtain ⟨n, rfl, h1, h2, hP⟩ := asI_inv h1
  refine ⟨n, den_int d1, ⟨by omega, by omega, by omega, by omega, by omega⟩, fun q hq => ?_⟩
  obtain ⟨a1, a2, a3⟩ := ok_new (o := .lst (rgV 0 n)) (d := .lst (rangeD 0 n.toNat)) t1 r1 hq (by
    have := dens_rg (K := X.K) (S := S1) 0 n
    rw [Int.sub_zero] at this
    exact this)
  exact k _ _ _ _ ρ1 hP a1 a2 a3
theorem pf_listRg2 (hg : Gl X "list") (hm : X.mg "list" = none) (hm2 : X.mg "range" = none) (ha : PED X fi fa a fx) (hb : PED X fi fa b fy) (hg2 : Gl X "range" := by rfl) (hc : X.calm = true := by rfl)
    (na : starEach [a, b] X.env = (false, eval a X.env) :: starEach [b] X.env := by rfl) (nb : starEach [b] X.env = (false, eval b X.env) :: starEach [] X.env := by rfl)
    (hp : (backTo pos2 (starEach [b] X.env)).any (·.1) = false := by rfl)
    (nc : starEach [.Call (.Name "range" p2) [a, b] [] pos2] X.env = (false, eval (.Call (.Name "range" p2) [a, b] [] pos2) X.env) :: starEach [] X.env := by rfl) :
    PEF X fi fa (.Call (.Name "list" p) [.Call (.Name "range" p2) [a, b] [] pos2] [] pos) (fLstRg2 fx fy) := by
  obtain ⟨t, pa, oa⟩ := ha
  obtain ⟨u, pb, ob⟩ := hb
  refine ⟨_, pe_listRg hc hg hm (prg_2 hg2 hm2 pa pb na nb hp) nc, fun σ H S ρ P Q r hf k => oa σ H S ρ _ _ r hf fun v H1 S1 d ρ1 h1 r1 t1 d1 => ob σ H1 S1 ρ1 _ _ r1 h1 fun w H2 S2 e ρ2 h2 r2 t2 d2 => ?_⟩
  obtain ⟨i, rfl, h3⟩ := asI_inv h2
  obtain ⟨j, rfl, b1, b2, b3, b4, hP⟩ := asI_inv h3
  refine ⟨i, j, den_int (d1.mono t2.exS), den_int d2, ⟨by omega, by omega, by omega, by omega, by omega⟩, fun q hq => ?_⟩
  obtain ⟨a1, a2, a3⟩ := ok_new (o := .lst (rgV i j)) (d := .lst (rangeD i (j - i).toNat)) (t1.trans t2) r2 hq (dens_rg i j)
  exact k _ _ _ _ ρ2 hP a1 a2 a3
end

/-! ### sum of ints -/
def gSumL : GD := fun ds P => match ds with
  | [x] => lstD x fun xs => intsD xs fun is => P (.int is.sum)
  | _ => False
theorem cd_sum {X : Cx} (hc : X.calm = true := by rfl) : CallD X (.builtin "sum") gSumL := by
  refine ⟨_, cr_sum hc, fun xs ds S H P Q ex hd hg k => ?_⟩
  unfold gSumL at hg
  split at hg
  · cases hd with
    | cons h t =>
      cases t
      obtain ⟨es, e, hg⟩ := lstD_inv hg
      obtain ⟨a, vs, rfl, h1, h2⟩ := den_lstR e h
      obtain ⟨is, rfl, _, hP⟩ := intsD_inv hg h2
      exact ⟨a, is, rfl, ex.l h1, k _ S H _ hP (Gr.refl ex) (.int _)⟩
  · exact hg.elim
end DL

/-! DLE: unpacking, displays with text keys, d.get, sorted of a dict, recursion. -/
namespace DL
open PySem PySem.Spec PyProof.Rows L2
variable [HW]

section
variable {X : Cx} {fi : List Nat} {fa : Nat → Addr} {e f tg o : Expr} {fe fd fy fx : FE} {pos apos cpos : Pos} {g : FG}
/-! ### a, b = e -/
def fAsgG (f : FE) (g : FG) : FS := fun ρ P => f ρ fun d ρ1 => g d ρ1 fun ρ2 => P (.nx ρ2)
theorem psd_asgG {ws : List Nat} (h : PED X fi fa e fe) (hg : PGD X fi fa tg ws g) (hs : swapsWithSole [tg] e pos.line X.env = pure false := by rfl) (hw : swappedStores [tg] e X.env = pure none := by rfl)
    (h1 : (assignEach [tg] X.env).map (·.2) = [assign tg X.env] := by rfl) : PSD X fi fa (.Assign [tg] e pos) (fAsgG fe g) := by
  obtain ⟨t, p, ok⟩ := h
  obtain ⟨tg', p2, o2⟩ := hg
  exact ⟨_, ps_asg p p2 hs hw h1, fun σ H S ρ P E r hf k => ok σ H S ρ _ _ r hf fun v H' S' d ρ' hP r' t' hd => o2 σ H' S' ρ' v d _ _ r' hd hP fun σ2 H2 S2 ρ2 hP2 r2 t2 _ => k.1 σ2 H2 S2 ρ2 hP2 r2 (t'.trans t2)⟩

/-! ### d.get(k, x) -/
theorem pd_dget2 (hu : X.A.units + 64 < cLine) (ho : PED X fi fa o fd) (he : PED X fi fa e fy) (hf : PED X fi fa f fx) (m : M2 X o "get" apos e f cpos := by exact ⟨rfl, rfl, rfl, rfl⟩) (hw : X.w = HW.w := by rfl) : PED X fi fa (.Call (.Attribute o "get" apos) [e, f] [] cpos) (fDGet2 fd fy fx) := by
  obtain ⟨t1, p1, o1⟩ := ho
  obtain ⟨t2, p2, o2⟩ := he
  obtain ⟨t3, p3, o3⟩ := hf
  refine ⟨_, pe_xget2 hw hu p1 p2 p3 m, fun σ H S ρ P Q r hf k => o1 σ H S ρ _ _ r hf fun v H1 S1 d ρ1 ⟨hi, h1⟩ r1 t1 d1 => ?_⟩
  obtain ⟨a, rfl, hd⟩ := den_isD r1.ex hi d1
  refine ⟨a, rfl, hd, o2 σ H1 S1 ρ1 _ _ r1 h1 fun u H2 S2 y ρ2 h2 r2 t2 d2 => o3 σ H2 S2 ρ2 _ _ r2 h2 fun z H3 S3 x ρ3 h3 r3 t3 d3 => ?_⟩
  obtain ⟨a', ov, od, e1, gg, hP, q⟩ := dlook_get r3.ex (d1.mono (t2.exS.trans t3.exS)) (d2.mono t3.exS) h3
  cases e1
  refine ⟨ov, gg, k _ H3 S3 _ ρ3 hP r3 ((t1.trans t2).trans t3) ?_⟩
  rcases q with ⟨rfl, rfl⟩ | ⟨w, dw, rfl, rfl, hz⟩
  · exact d3
  · exact hz
end

/-! ### a list or a tuple, walked -/
section
variable {X : Cx} {fi : List Nat} {fa : Nat → Addr} {e tg : Expr} {f : FE}
def iSeq (K : PySem.W.Frag) (tl : TE) : TI := fun σ H R => tl σ H fun x H1 => ∃ a, x = .ref a ∧ ((∃ xs, SqL K H1 a xs ∧ R (Itl K a) H1) ∨ ∃ xs, SqT K H1 a xs ∧ R (Itt K a) H1)
theorem pi_seq {tl : TE} (hl : PE X e tl) : PI X tg e (iSeq X.K tl) := by
  refine ⟨fun pins s σ H R I h => ?_⟩
  refine thn (hl.run pins s σ H _ I h) fun v s1 ⟨x, H1, I1, r1, q1⟩ => ?_
  obtain ⟨a, e, q⟩ := q1
  subst e
  cases r1
  rcases q with ⟨xs, hq, q⟩ | ⟨xs, hq, q⟩
  · obtain ⟨its, rv, p, hz⟩ := I1.list hq
    refine wpAny_pyIter_list p.isList ?_
    refine ⟨s1.heap.objs.size, [s1.heap.objs.size], _, _, H1, rfl, I1.kept (t' := s1.toks) fun b o e => Heap.get?_push_of_some _ e, turn_list a _, ⟨_, Heap.get?_push_size _ rfl, rfl, rfl⟩, fun b hb => ?_, q⟩
    have e : b = s1.heap.objs.size := by simpa using hb
    subst e
    exact I1.fpOk (Nat.le_refl _) (I1.hok.fresh (Nat.le_refl _))
  · obtain ⟨its, rv, p, hz⟩ := I1.tuple hq
    refine wpAny_pyIter_tuple (show s1.heap.IsTuple a its.toArray from p) ?_
    refine ⟨s1.heap.objs.size, [s1.heap.objs.size], _, _, H1, rfl, I1.kept (t' := s1.toks) fun b o e => Heap.get?_push_of_some _ e, turn_tuple a _, ⟨_, Heap.get?_push_size _ rfl, rfl, rfl⟩, fun b hb => ?_, q⟩
    have e : b = s1.heap.objs.size := by simpa using hb
    subst e
    exact I1.fpOk (Nat.le_refl _) (I1.hok.fresh (Nat.le_refl _))
theorem pid_seq (h : PED X fi fa e f) : PID X fi fa tg e (fSeqI f) := by
  obtain ⟨t, p, ok⟩ := h
  refine ⟨_, pi_seq p, fun σ H S ρ P R r hf k => ok σ H S ρ _ _ r hf fun v H' S' d ρ' hP r' t' hd => ?_⟩
  unfold seqD at hP
  split at hP
  · obtain ⟨a, xs, rfl, h1, h2⟩ := den_lst hd
    exact ⟨a, rfl, .inl ⟨xs, SqL.of (r'.ex _ _ h1), k _ H' S' _ ρ' hP r' t' (itd_list (SqL.of h1) h2)⟩⟩
  · obtain ⟨a, xs, rfl, h1, h2⟩ := den_tup hd
    exact ⟨a, rfl, .inr ⟨xs, SqT.of (r'.ex _ _ h1), k _ H' S' _ ρ' hP r' t' (itd_tup (SqT.of h1) h2)⟩⟩
  · obtain ⟨a, xs, rfl, h1, h2⟩ := den_rol hd
    exact ⟨a, rfl, .inl ⟨xs, r'.ex.l h1, k _ H' S' _ ρ' hP r' t' (itd_list h1 h2)⟩⟩
  · exact hP.elim
end
/-! ### displays -/
def OkPs (K : PySem.W.Frag) (fi : List Nat) (fa : Nat → Addr) (trs : List (TE × TE)) (ks : List Key) (f : FA) : Prop := ∀ (σ : L2.St) (H S : Hp) (ρ : List Sl) (P : List D → List Sl → Prop) (Q : List (V × V) → Hp → Prop), Rel K fi fa σ H S ρ → f ρ P →
  (∀ vs H' S' ds ρ', vs.length = ks.length → P ds ρ' → Rel K fi fa σ H' S' ρ' → Tr σ H S ρ σ H' S' ρ' → Dens K S' vs ds → Q ((ks.map kV).zip vs) H') → tPairs trs σ H Q
def PPD (X : Cx) (fi : List Nat) (fa : Nat → Addr) (pos : Pos) (keys : List (Option Expr)) (values : List Expr) (ks : List Key) (f : FA) : Prop := ∃ trs, PPs X pos keys values trs ∧ OkPs X.K fi fa trs ks f
theorem putK_new {k : Key} {v : V} : ∀ {kvs : List (Key × V)}, k ∉ kvs.map (·.1) → putK kvs k v = kvs ++ [(k, v)] := fun {kvs} h => by
  unfold putK
  rw [if_neg (fun z => h ((any_mem k kvs).mp z))]
theorem mergeK_nd : ∀ (more kvs : List (Key × V)), ((kvs ++ more).map (·.1)).Nodup → mergeK kvs more = kvs ++ more
  | [], kvs, _ => (List.append_nil kvs).symm
  | p :: r, kvs, h => by
    have h1 : p.1 ∉ kvs.map (·.1) := fun z => by
      rw [List.map_append, List.map_cons] at h
      exact (List.nodup_append.mp h).2.2 p.1 z p.1 List.mem_cons_self rfl
    show mergeK (putK kvs p.1 p.2) r = _
    rw [putK_new h1, mergeK_nd r _ (by rw [List.append_assoc]; exact h), List.append_assoc]
    rfl
section
variable {X : Cx} {fi : List Nat} {fa : Nat → Addr} {e : Expr} {fe : FE} {fs : FA} {pos : Pos} {keys : List (Option Expr)} {values : List Expr} {ks : List Key}
theorem ppd_nil : PPD X fi fa pos [] [] [] fNil := ⟨_, pps_nil, fun σ H S ρ P Q r hf k => k [] H S [] ρ rfl hf r (Tr.refl _ _ _ _) .nil⟩
theorem ppd_cons {s : Str} {j : Nat} {p : Pos} (h : PED X fi fa e fe) (hr : PPD X fi fa pos keys values ks fs) : PPD X fi fa pos (some (.Constant (.str s) j p) :: keys) (e :: values) (.inr s :: ks) (fCons fe fs) := by
  obtain ⟨t, q, ok⟩ := h
  obtain ⟨trs, ps, oks⟩ := hr
  refine ⟨_, pps_cons pe_str q ps, fun σ H S ρ P Q r hf k => ?_⟩
  show t σ H fun y H2 => tPairs trs σ H2 fun ps H3 => Q ((V.str s, y) :: ps) H3
  exact ok σ H S ρ _ _ r hf fun v H1 S1 d ρ1 h1 r1 t1 d1 => oks σ H1 S1 ρ1 _ _ r1 h1 fun vs H2 S2 ds ρ2 hl h2 r2 t2 d2 =>
    k (v :: vs) H2 S2 (d :: ds) ρ2 (by rw [List.length_cons, List.length_cons, hl]) h2 r2 (t1.trans t2) (.cons (d1.mono t2.exS) d2)
def fDisp (ks : List Key) (fs : FA) : FE := fun ρ P => fs ρ fun ds ρ1 => P (.dK ks ds) ρ1
theorem zip_fst : ∀ {ks : List Key} {vs : List V}, vs.length = ks.length → (ks.zip vs).map (·.1) = ks ∧ (ks.zip vs).map (·.2) = vs ∧ (ks.map kV).zip vs = (ks.zip vs).map fun kv => (kV kv.1, kv.2)
  | [], [], _ => ⟨rfl, rfl, rfl⟩
  | [], _ :: _, h => by cases h
  | _ :: _, [], h => by cases h
  | k :: ks, v :: vs, h => by
    obtain ⟨a, b, c⟩ := zip_fst (ks := ks) (vs := vs) (Nat.succ.inj h)
    refine ⟨?_, ?_, ?_⟩
    · rw [List.zip_cons_cons, List.map_cons, a]
    · rw [List.zip_cons_cons, List.map_cons, b]
    · rw [List.map_cons, List.zip_cons_cons, List.zip_cons_cons, List.map_cons, c]
theorem pf_disp (h : PPD X fi fa pos keys values ks fs) (nd : ks.Nodup := by decide) (hn : ks.length ≤ 15 := by decide) (hall : keys.all (·.isSome) = true := by rfl) (hl : keys.length = values.length := by rfl) (h0 : keys ≠ [] := by exact List.cons_ne_nil _ _)
    (h15 : keys.length ≤ 15 := by decide) : PEF X fi fa (.Dict keys values pos) (fDisp ks fs) := by
  obtain ⟨trs, p, ok⟩ := h
  refine ⟨_, pe_disp p hall hl h0 h15, fun σ H S ρ P Q r hf k a ha => ?_⟩
  have g0 : Gr S H S (upd H a (.dK [])) := Gr.hid r.ex ha
  refine ok σ _ S ρ _ _ (r.grow g0) hf fun vs H1 S1 ds ρ1 hlen hP r1 t1 hd => ?_
  have no : ¬ Owned σ ρ a := fun ⟨i, d, h1, h2⟩ => by
    obtain ⟨q, u, e1, e2, e3, e4⟩ := r.own i d h1
    rw [h2] at e1
    cases e1
    rw [ha] at e3
    cases e3
  obtain ⟨q1, q2, q3⟩ := t1.hides upd_same (r.ex.free ha) no (fun _ => HO.noConfusion)
  obtain ⟨z1, z2, z3⟩ := zip_fst hlen
  refine ⟨q1, ks.zip vs, z3, by rw [List.length_zip]; omega, ?_⟩
  have hm : mergeK [] (ks.zip vs) = ks.zip vs := mergeK_nd (ks.zip vs) [] (by rw [List.nil_append, z1]; exact nd)
  rw [hm]
  exact k _ _ S1 _ ρ1 hP (r1.hid q2 q3) ((g0.tr.trans t1).hid ha) ⟨a, _, rfl, .inl ha, q2, q3, upd_same, z1.symm, by rw [z2]; exact hd⟩
end

/-! ### sorted(d), d a dict of int keys -/
def gSortDI : GD := fun ds P => match ds with
  | [.dK ks _] => ∃ ns : List Int, ks = ns.map .inl ∧ ns.length < 64 ∧ ∀ ms : List Int, ms.Perm ns → ms.Pairwise (· ≤ ·) → P (.lst (ms.map .int))
  | _ => False
theorem cf_sortDI {X : Cx} (hc : X.calm = true := by rfl) : CallF X (.builtin "sorted") gSortDI := by
  refine ⟨_, call_sortedDI hc, fun xs ds S H P Q ex hd hg k => ?_⟩
  unfold gSortDI at hg
  split at hg
  · obtain ⟨ns, rfl, hl, hP⟩ := hg
    cases hd with
    | cons h t =>
      cases t
      obtain ⟨a, kvs, rfl, h1, h2, h3⟩ := den_dK h
      refine ⟨a, kvs, ns, rfl, ex.rd h1, h2.symm, hl, fun ys p hp hs hn => ?_⟩
      exact k p S _ _ _ (hP ys hp hs) hn (Gr.hid (o := .lst (ys.map V.int)) ex hn) (ex.free hn) upd_same (Dens.ints ys)
  · exact hg.elim

/-! ### x[k], x owned and staying so -/
section
variable {X : Cx} {fi : List Nat} {fa : Nat → Addr} {i : Expr} {fk : FE} {pos px : Pos} {x : Str}
def fIxO (j : Nat) (fk : FE) : FE := fun ρ P => ownD ρ j fun _ => fk ρ fun y ρ1 => asI y fun k => ownD ρ1 j fun c => lstO c fun ds => ∃ d, atI ds k = some d ∧ P d ρ1
theorem pd_ixO (j : Nat) (hk : PED X fi fa i fk) (hN : X.N[j]? = some x := by rfl) (hv : Vis X.env.scope x := by first | exact Or.inl rfl | exact Or.inr (Or.inl rfl) | exact Or.inr (Or.inr rfl)) (hd : (x == ("__debug__" : Str)) = false := by decide)
    (hcd : (x == ("__classdict__" : Str)) = false := by decide) (hs : PlainIx i := by exact fun _ _ => rfl) : PED X fi fa (.Subscript (.Name x px) i pos) (fIxO j fk) := by
  obtain ⟨t, p, ok⟩ := hk
  refine ⟨_, pe_ix ix_list (pv j hN hv hd hcd) p hs, fun σ H S ρ P Q r hf k => ?_⟩
  obtain ⟨c0, g0, hf⟩ := ownD_inv hf
  obtain ⟨q, o, e1, _⟩ := r.own j c0 g0
  refine ⟨_, e1, ok σ H S ρ _ _ r hf fun u H1 S1 y ρ1 h1 r1 t1 d1 => ?_⟩
  obtain ⟨n, rfl, h1⟩ := asI_inv h1
  obtain ⟨c, g1, h1⟩ := ownD_inv h1
  obtain ⟨q', o', e2, e3, e4, e5⟩ := r1.own j c g1
  rw [e1] at e2
  cases e2
  obtain ⟨vs, ds, rfl, rfl, hd, d, hm, hP⟩ := lstO_inv h1 e5
  obtain ⟨v, h3, h4⟩ := atI_den hd hm
  exact ⟨q, vs, n, v, rfl, den_int d1, SqL.of e4, h3, k v H1 S1 d ρ1 hP r1 t1 h4⟩
theorem dget_hod {K : PySem.W.Frag} {S H : Hp} {p : Addr} {o : HO} {u : V} {d y : D} {P : Option D → Prop} (ex : Ex S H) (hp : H p = some o) (ho : HOD K S o d) (hy : Den K S u y) (h : dlook d y P) :
    ∃ ov od, DGetX H p u ov ∧ P od ∧ ((ov = none ∧ od = none) ∨ ∃ z dz, ov = some z ∧ od = some dz ∧ Den K S z dz) := by
  cases d with
  | dT ks vs =>
    cases o with
    | dT kvs =>
      obtain ⟨e1, hd⟩ := hod_dT ho
      obtain ⟨k, e, hP⟩ := h
      obtain ⟨b, rfl, h4⟩ := asTK_den e hy
      subst e1
      exact ⟨_, _, .inl (.inr ⟨kvs, k, b, .inl hp, rfl, ex _ _ h4, rfl⟩), hP, look_val k hd⟩
    | _ => exact (show False from ho).elim
  | dK ks vs =>
    cases o with
    | dK kvs =>
      obtain ⟨e1, hd⟩ := hod_dK ho
      obtain ⟨k, e, hP⟩ := h
      obtain ⟨e2, e3⟩ := asK_den e hy
      subst e1
      subst e2
      exact ⟨_, _, .inl (.inl ⟨kvs, k, .inl hp, rfl, rfl⟩), hP, look_val k hd⟩
    | _ => exact (show False from ho).elim
  | dN ks vs =>
    obtain ⟨k, e, dp, hP⟩ := h
    obtain ⟨c, kvs, rfl, h2, h3, h4⟩ := hod_dN ho
    obtain ⟨⟨b, rfl⟩, vk⟩ := nkT_den e hy
    rw [h3, lookN_some] at hP
    have et : ∀ b xs, S b = some (.tup xs) → H b = some (.tup xs) := fun b xs q => ex _ _ q
    exact ⟨_, _, .inr ⟨kvs, k, b, c, .inl hp, fun q hq => (keysN_of h2 h3 q hq).mono et, rfl, vk.mono et, dp, rfl⟩, hP, look_val (kvs := pvN kvs) k (by rw [pvN_snd]; exact h4)⟩
  | _ => exact (show False from h).elim
def fDGetO (j : Nat) (fk : FE) : FE := fun ρ P => ownD ρ j fun _ => fk ρ fun y ρ1 => ownD ρ1 j fun c => dlook c y fun o => ∃ d, o = some d ∧ P d ρ1
theorem pd_dgetO (j : Nat) (hu : X.A.units + 64 < cLine) (hk : PED X fi fa i fk) (hN : X.N[j]? = some x := by rfl) (hv : Vis X.env.scope x := by first | exact Or.inl rfl | exact Or.inr (Or.inl rfl) | exact Or.inr (Or.inr rfl)) (hd : (x == ("__debug__" : Str)) = false := by decide)
    (hcd : (x == ("__classdict__" : Str)) = false := by decide) (hs : NoSl i := by exact fun _ _ => rfl) (hw : X.w = HW.w := by rfl) : PED X fi fa (.Subscript (.Name x px) i pos) (fDGetO j fk) := by
  obtain ⟨t, p, ok⟩ := hk
  refine ⟨_, pe_xget hw hu (pv j hN hv hd hcd) p hs, fun σ H S ρ P Q r hf k => ?_⟩
  obtain ⟨c0, g0, hf⟩ := ownD_inv hf
  obtain ⟨q, o, e1, _⟩ := r.own j c0 g0
  refine ⟨_, e1, ok σ H S ρ _ _ r hf fun u H1 S1 y ρ1 h1 r1 t1 d1 => ?_⟩
  obtain ⟨c, g1, h1⟩ := ownD_inv h1
  obtain ⟨q', o', e2, e3, e4, e5⟩ := r1.own j c g1
  rw [e1] at e2
  cases e2
  obtain ⟨ov, od, gg, ⟨d, ed, hP⟩, z⟩ := dget_hod r1.ex e4 e5 d1 h1
  subst ed
  rcases z with ⟨_, z⟩ | ⟨w, dz, ew, e, hz⟩
  · cases z
  · cases e
    subst ew
    exact ⟨q, w, rfl, gg, k w H1 S1 _ ρ1 hP r1 t1 hz⟩
end

/-! ### an if that others follow: its ways are joined -/
def fSeqJ (F G : FS) : FS := fSeq F G
omit [HW] in
theorem seqJ {F G : FS} {ρ : List Sl} {P : Fl → Prop} (J : List Sl → Prop)
    (h : ∀ Q : Fl → Prop, (∀ ρ', J ρ' → Q (.nx ρ')) → (∀ ρ', P (.bk ρ') → Q (.bk ρ')) → (∀ ρ', P (.ct ρ') → Q (.ct ρ')) → (∀ d ρ', P (.rt d ρ') → Q (.rt d ρ')) → (∀ d ρ', P (.rf d ρ') → Q (.rf d ρ')) → F ρ Q)
    (hG : ∀ ρ', J ρ' → G ρ' P) : fSeqJ F G ρ P := h (andThen G P) hG (fun _ h => h) (fun _ h => h) (fun _ _ h => h) (fun _ _ h => h)
/-! ### recursion: the def at depth 0 promises nothing -/
section
variable {P : Program} {w : World} {K : PySem.W.Frag} {mg : Str → Option Value} {base : Heap} {CX : CXT} {k n : Nat} {f : Addr} {fd : FuncData} {ps : List Str}
theorem fn_never {sp : Sp} (h : ∀ vs H Q E, ¬ sp vs H Q E) : FnOk P w K mg base CX k f fd ps sp :=
  ⟨fun vs H Q E q => (h vs H Q E q).elim, fun A outer s H args us vs Q E hr he hb hv q => (h vs H Q E q).elim⟩
theorem fn_none : FnOk P w K mg base CX k f fd ps (spP K n fun _ _ => False) := fn_never fun vs H Q E h => by
  obtain ⟨_, _, _, _, _, _, h, _⟩ := h
  exact h
theorem fn_noneF : FnOk P w K mg base CX k f fd ps (spF K n fun _ _ => False) := fn_never fun vs H Q E h => by
  obtain ⟨_, _, _, _, _, _, h, _⟩ := h
  exact h
theorem fn_noneI : FnOk P w K mg base CX k f fd ps (spI K n fun _ _ _ => False) := fn_never fun vs H Q E h => by
  obtain ⟨_, _, _, _, _, _, _, _, _, _, _, _, _, _, h, _⟩ := h
  exact h
end
end DL

/-! DLF: classes: fields, methods, instances made, operators of an instance's own, truth of any value. -/
namespace DL
open PySem PySem.Spec PyProof.Rows L2
variable [HW]

/-! ### fields -/
def getF (f : Str) : List Str → List D → Option D
  | g :: ns, v :: vs => if g = f then some v else getF f ns vs
  | _, _ => none
def putN (f : Str) : List Str → List Str
  | [] => [f]
  | g :: ns => if g = f then g :: ns else g :: putN f ns
def putV (f : Str) (x : D) : List Str → List D → List D
  | g :: ns, v :: vs => if g = f then x :: vs else v :: putV f x ns vs
  | _, _ => [x]
section
variable {K : PySem.W.Frag} {S : Hp}
theorem getF_den {f : Str} {d : D} : ∀ {fs : List (Str × V)} {ds : List D}, Dens K S (fs.map (·.2)) ds → getF f (fs.map (·.1)) ds = some d → ∃ v, fs.lookup f = some v ∧ Den K S v d
  | [], _, .nil, e => nomatch e
  | (g, v) :: fs, d' :: ds, .cons h t, e => by
    show ∃ w, (match f == g with | true => some v | false => fs.lookup f) = some w ∧ _
    have e : (if g = f then some d' else getF f (fs.map (·.1)) ds) = some d := e
    by_cases q : g = f
    · rw [if_pos q] at e
      cases e
      rw [beq_iff_eq.mpr q.symm]
      exact ⟨v, rfl, h⟩
    · rw [if_neg q] at e
      rw [beq_eq_false_iff_ne.mpr (Ne.symm q)]
      exact getF_den t e
theorem lookup_no {f : Str} : ∀ {fs : List (Str × V)}, f ∉ fs.map (·.1) → fs.lookup f = none
  | [], _ => rfl
  | (g, v) :: fs, h => by
    show (match f == g with | true => some v | false => fs.lookup f) = none
    rw [beq_eq_false_iff_ne.mpr (fun e => h (by rw [List.map_cons, e]; exact List.mem_cons_self))]
    exact lookup_no fun z => h (List.mem_cons_of_mem _ z)
theorem putF_den {f : Str} {y : V} {x : D} (hy : Den K S y x) : ∀ {fs : List (Str × V)} {ds : List D}, Dens K S (fs.map (·.2)) ds → (putF f y fs).map (·.1) = putN f (fs.map (·.1)) ∧ Dens K S ((putF f y fs).map (·.2)) (putV f x (fs.map (·.1)) ds)
  | [], _, .nil => ⟨rfl, .one hy⟩
  | (g, v) :: fs, d' :: ds, .cons h t => by
    obtain ⟨i1, i2⟩ := putF_den (f := f) hy t
    show (if g = f then (g, y) :: fs else (g, v) :: putF f y fs).map (·.1) = (if g = f then g :: fs.map (·.1) else g :: putN f (fs.map (·.1))) ∧ Dens K S ((if g = f then (g, y) :: fs else (g, v) :: putF f y fs).map (·.2)) (if g = f then x :: ds else d' :: putV f x (fs.map (·.1)) ds)
    by_cases q : g = f
    · rw [if_pos q, if_pos q, if_pos q]
      exact ⟨rfl, .cons hy t⟩
    · rw [if_neg q, if_neg q, if_neg q]
      exact ⟨by rw [List.map_cons, i1], .cons h i2⟩
end
/-- an attribute that instances of the class have of their own -/
structure FldOk (K : PySem.W.Frag) (f cn : Str) : Prop where
  at_ : ∀ C, ClsAt K cn C → Cls K C ∧ NoAttr K C f
/-- the value of a field -/
def gFld (cns : List Str) (f : Str) (d : D) (P : D → Prop) : Prop := match d with
  | .obj cn ns vs => cn ∈ cns ∧ ∃ x, getF f ns vs = some x ∧ P x
  | _ => False
theorem gFld_inv {cns : List Str} {f : Str} {d : D} {P : D → Prop} (h : gFld cns f d P) : ∃ cn ns vs x, d = .obj cn ns vs ∧ cn ∈ cns ∧ getF f ns vs = some x ∧ P x := by
  unfold gFld at h
  split at h
  · obtain ⟨a, x, b, c⟩ := h
    exact ⟨_, _, _, x, rfl, a, b, c⟩
  · exact h.elim
def gSetF (cns : List Str) (f : Str) (x : D) (d : D) (P : D → Prop) : Prop := match d with
  | .obj cn ns vs => cn ∈ cns ∧ ns.length < 1000 ∧ P (.obj cn (putN f ns) (putV f x ns vs))
  | _ => False
theorem gSetF_inv {cns : List Str} {f : Str} {x d : D} {P : D → Prop} (h : gSetF cns f x d P) : ∃ cn ns vs, d = .obj cn ns vs ∧ cn ∈ cns ∧ ns.length < 1000 ∧ P (.obj cn (putN f ns) (putV f x ns vs)) := by
  unfold gSetF at h
  split at h
  · exact ⟨_, _, _, rfl, h⟩
  · exact h.elim
theorem hod_obj {K : PySem.W.Frag} {S : Hp} {o : HO} {cn : Str} {ns : List Str} {ds : List D} (h : HOD K S o (.obj cn ns ds)) : ∃ C dx fs, o = .ins C dx fs ∧ ClsAt K cn C ∧ ns = fs.map (·.1) ∧ Dens K S (fs.map (·.2)) ds := by
  cases o with
  | ins C dx fs => exact ⟨C, dx, fs, rfl, h⟩
  | _ => exact (show False from h).elim
section
variable {X : Cx} {fi : List Nat} {fa : Nat → Addr} {e o : Expr} {fe : FE} {pos pos' px : Pos} {f x : Str} {cns : List Str}
def fFld (cns : List Str) (f : Str) (fe : FE) : FE := fun ρ P => fe ρ fun d ρ1 => gFld cns f d fun x => P x ρ1
theorem pd_fld (h : ∀ cn ∈ cns, FldOk X.K f cn) (he : PED X fi fa e fe) (hb : attributeBase e f X.env (eval e X.env) = eval e X.env := by rfl) : PED X fi fa (.Attribute e f pos) (fFld cns f fe) := by
  obtain ⟨t, p, ok⟩ := he
  refine ⟨_, pe_fld p hb, fun σ H S ρ P Q r hf k => ok σ H S ρ _ _ r hf fun v H' S' d ρ' hP0 r' t' hd => ?_⟩
  obtain ⟨cn, ns, vs, x, rfl, hc, hx, hP⟩ := gFld_inv hP0
  obtain ⟨a, C, dx, fs, rfl, hC, h1, rfl, h3⟩ := den_obj hd
  obtain ⟨w, hw, hd2⟩ := getF_den h3 hx
  obtain ⟨c, n⟩ := (h cn hc).at_ C hC
  exact ⟨a, C, dx, fs, w, rfl, r'.ex _ _ h1, c, n, hw, k w H' S' x ρ' hP r' t' hd2⟩
/-- .. of an object that is owned and stays so -/
def fFldO (j : Nat) (cns : List Str) (f : Str) : FE := fun ρ P => ownD ρ j fun c => gFld cns f c fun x => P x ρ
theorem pd_fldO (j : Nat) (h : ∀ cn ∈ cns, FldOk X.K f cn) (hN : X.N[j]? = some x := by rfl) (hv : Vis X.env.scope x := by first | exact Or.inl rfl | exact Or.inr (Or.inl rfl) | exact Or.inr (Or.inr rfl)) (hd : (x == ("__debug__" : Str)) = false := by decide)
    (hcd : (x == ("__classdict__" : Str)) = false := by decide) (hb : attributeBase (.Name x px) f X.env (eval (.Name x px) X.env) = eval (.Name x px) X.env := by rfl) : PED X fi fa (.Attribute (.Name x px) f pos) (fFldO j cns f) := by
  refine ⟨_, pe_fld (pv j hN hv hd hcd) hb, fun σ H S ρ P Q r hf k => ?_⟩
  obtain ⟨c0, g0, hf⟩ := ownD_inv hf
  obtain ⟨q, o, e1, e2, e3, e4⟩ := r.own j c0 g0
  obtain ⟨cn, ns, vs, y, rfl, hc, hx, hP⟩ := gFld_inv hf
  obtain ⟨C, dx, fs, rfl, hC, rfl, h3⟩ := hod_obj e4
  obtain ⟨w, hw, hd2⟩ := getF_den h3 hx
  obtain ⟨c, n⟩ := (h cn hc).at_ C hC
  exact ⟨_, e1, q, C, dx, fs, w, rfl, e3, c, n, hw, k w H S y ρ hP r (Tr.refl _ _ _ _) hd2⟩
/-- x.f = e, x an owned instance -/
def fFldSet (j : Nat) (cns : List Str) (f : Str) (fe : FE) : FS := fun ρ P => fe ρ fun x ρ1 => ownD ρ1 j fun c => gSetF cns f x c fun c' => P (.nx (ρ1.set j (.own c')))
theorem psd_fld (j : Nat) (h : ∀ cn ∈ cns, FldOk X.K f cn) (he : PED X fi fa e fe) (hs : swapsWith e (some (.Attribute (.Name x px) f pos')) pos.line X.env = pure false := by rfl) (hN : X.N[j]? = some x := by rfl) (hv : Vis X.env.scope x := by first | exact Or.inl rfl | exact Or.inr (Or.inl rfl) | exact Or.inr (Or.inr rfl)) (hd : (x == ("__debug__" : Str)) = false := by decide)
    (hcd : (x == ("__classdict__" : Str)) = false := by decide) : PSD X fi fa (.Assign [.Attribute (.Name x px) f pos'] e pos) (fFldSet j cns f fe) := by
  obtain ⟨t, p, ok⟩ := he
  refine ⟨_, ps_fld (pv j hN hv hd hcd) p hs, fun σ H S ρ P E r hf k => ok σ H S ρ _ _ r hf fun v H1 S1 d ρ1 h1 r1 t1 d1 => ?_⟩
  obtain ⟨c0, g0, h1⟩ := ownD_inv h1
  obtain ⟨q, o, e1, e2, e3, e4⟩ := r1.own j c0 g0
  obtain ⟨cn, ns, vs, rfl, hc, hl, hP⟩ := gSetF_inv h1
  obtain ⟨C, dx, fs, rfl, hC, rfl, h3⟩ := hod_obj e4
  obtain ⟨c, n⟩ := (h cn hc).at_ C hC
  obtain ⟨p1, p2⟩ := putF_den (f := f) d1 h3
  refine ⟨_, e1, q, C, dx, fs, rfl, e3, c, n, by rw [List.length_map] at hl; exact hl, ?_⟩
  exact k.1 _ _ S1 _ hP (r1.upd (o' := .ins C dx (putF f v fs)) g0 e1 ⟨hC, p1.symm, p2⟩) (t1.trans (Tr.upd g0 e1))
end

/-! ### a class as a value, instances made -/
section
variable {X : Cx} {fi : List Nat} {fa : Nat → Addr} {e : Expr} {es : List Expr} {fs : FA} {pos p : Pos} {x : Str}
theorem pd_cls (h : ∃ C, ClsAt X.K x C ∧ X.mg x = some (.ref C)) (hg : Gl X x := by rfl) (hd : (x == ("__debug__" : Str)) = false := by decide) : PED X fi fa (.Name x pos) (fC (.cls x)) := by
  obtain ⟨C, hC, hm⟩ := h
  exact ⟨_, pe_glob (v := .ref C) hg hm rfl hd, ok_c fun _ => .cls hC⟩
/-- what making an instance asks of the class -/
structure Mkr (P : Program) (w : World) (K : PySem.W.Frag) (mg : Str → Option Value) (base : Heap) (L : Nat) (cn : Str) (ps : List Str) (sp : Sp) : Prop where
  ex : ∃ (C f : Addr) (fd : FuncData), ClsAt K cn C ∧ mg cn = some (.ref C) ∧ Mk K C f ∧ FnOk P w K mg base CX0 L f fd ps sp ∧ Binds K fd ps []
def fMake (cn : Str) (n : Nat) (g : GI) (fs : FA) : FE := fun ρ P => fs ρ fun ds ρ1 => ds.length = n ∧ g (.obj cn [] []) ds fun d c => d = .non ∧ P c ρ1
theorem ok_make {K : PySem.W.Frag} {C : Addr} {cn : Str} {n : Nat} {g : GI} {ta : TA} (hC : ClsAt K cn C) (ha : OkA K fi fa ta fs) : OkF K fi fa (tMake C (spI K n g) [] E0 ta) (fMake cn n g fs) := fun σ H S ρ P Q r hf k => ha σ H S ρ _ _ r hf fun vs H1 S1 ds ρ1 hP r1 t1 hd x dx hx hdx ne => by
  obtain ⟨hl, hg⟩ := hP
  have hH2 : ∀ a u, H1 a = some u → upd (upd H1 dx (.own x)) x (.ins C dx []) a = some u := fun a u e => by
    rw [upd_ne (ne_of_none e hx), upd_ne (ne_of_none e hdx)]; exact e
  refine ⟨S1, x, vs ++ [], .ins C dx [], .obj cn [] [], ds, _, rfl, hl, fun a u e => hH2 a u (r1.ex a u e), r1.ex.free hx, upd_same, ⟨hC, rfl, .nil⟩, by rw [List.append_nil]; exact hd, hg, ?_⟩
  rintro v S' H' d c' o' ⟨hdn, hP⟩ e1 e2 e3 e4 h5 h6 h7 h8
  subst hdn
  refine ⟨den_non h8, ?_⟩
  have g : Gr S1 H1 S' H' := ⟨e1, fun a u h => e3 a u (ne_of_none h hx) (hH2 a u h), e2, fun a h => by
    rcases e4 a h with z | z | ⟨xs, z⟩
    · exact .inl z
    · refine .inr (.inl ?_)
      cases q : H1 a with
      | none => rfl
      | some u => rw [hH2 a u q] at z; cases z
    · by_cases ax : a = x
      · subst ax; rw [upd_same] at z; cases z
      · rw [upd_ne ax] at z
        by_cases ad : a = dx
        · subst ad; rw [upd_same] at z; cases z
        · rw [upd_ne ad] at z; exact .inr (.inr ⟨xs, z⟩)⟩
  exact k _ H' S' c' ρ1 hP (r1.grow g) (t1.trans g.tr) (fresh_of (H1 := H1) r1 t1 hx S' H' h6 h5 h7)
theorem pf_make {n L : Nat} {g : GI} {ps : List Str} (M : Mkr X.prog X.w X.K X.mg X.base L x ps (spI X.K n g)) (hr : Room (L + 1) X.A) (ha : PAD X fi fa (e :: es) fs) (hg : Gl X x := by rfl) (hdb : (x == ("__debug__" : Str)) = false := by decide)
    (he : starEach (e :: es) X.env = (false, eval e X.env) :: starEach es X.env := by rfl) (hpl : (backTo pos (starEach es X.env)).any (·.1) = false := by rfl) : PEF X fi fa (.Call (.Name x p) (e :: es) [] pos) (fMake x n g fs) := by
  obtain ⟨C, f, fd, hC, hm, mk, F, hb⟩ := M.ex
  obtain ⟨t, q, ok⟩ := ha
  exact ⟨_, pe_make mk F hr hg hm hb .nil pass0 q hdb he hpl, ok_make hC ok⟩
theorem pf_make0 {n L : Nat} {g : GI} {ps : List Str} (M : Mkr X.prog X.w X.K X.mg X.base L x ps (spI X.K n g)) (hr : Room (L + 1) X.A) (hg : Gl X x := by rfl) (hdb : (x == ("__debug__" : Str)) = false := by decide) : PEF X fi fa (.Call (.Name x p) [] [] pos) (fMake x n g fNil) := by
  obtain ⟨C, f, fd, hC, hm, mk, F, hb⟩ := M.ex
  refine ⟨_, pe_make0 mk F hr hg hm hb .nil pass0 hdb, ok_make hC (ta := tNil) fun σ H S ρ P Q r hf k => k [] H S [] ρ hf r (Tr.refl σ H S ρ) .nil⟩
end

/-! ### methods that change nothing -/
structure Mt (P : Program) (w : World) (K : PySem.W.Frag) (mg : Str → Option Value) (base : Heap) (L : Nat) (cn m : Str) (ps : List Str) (sp : Sp) : Prop where
  ex : ∃ (C f : Addr) (fd : FuncData), ClsAt K cn C ∧ Cls K C ∧ Meth K C m f ∧ FnOk P w K mg base CX0 L f fd ps sp ∧ Binds K fd ps []
/-- .. by keywords alone (behind the receiver) -/
structure Mtk (P : Program) (w : World) (K : PySem.W.Frag) (mg : Str → Option Value) (base : Heap) (L : Nat) (cn m : Str) (ps ks : List Str) (ix : List Nat) (sp : Sp) : Prop where
  ex : ∃ (C f : Addr) (fd : FuncData), ClsAt K cn C ∧ Cls K C ∧ Meth K C m f ∧ FnOk P w K mg base CX0 L f fd ps sp ∧ ∀ (s : Shared) (u : Value) (ws : List Value), K.In s.heap → ws.length = ks.length → BindsTo s fd ⟨[u], ks.zip ws⟩ (ps.zip (u :: permL ix ws))
/-- the receiver picks the def -/
def recvT (m : Str) (tbl : List (Str × GD)) (d : D) (k : GD → Prop) : Prop := match d with
  | .obj cn ns _ => m ∉ ns ∧ ∃ g, (cn, g) ∈ tbl ∧ k g
  | _ => False
theorem recvT_inv {m : Str} {tbl : List (Str × GD)} {d : D} {k : GD → Prop} (h : recvT m tbl d k) : ∃ cn ns vs g, d = .obj cn ns vs ∧ m ∉ ns ∧ (cn, g) ∈ tbl ∧ k g := by
  unfold recvT at h
  split at h
  · obtain ⟨a, g, b, c⟩ := h
    exact ⟨_, _, _, g, rfl, a, b, c⟩
  · exact h.elim
def MtT (X : Cx) (L : Nat) (m : Str) (n : Nat) (tbl : List (Str × GD)) : Prop := ∀ p ∈ tbl, ∃ ps, Mt X.prog X.w X.K X.mg X.base L p.1 m ps (spP X.K (n + 1) p.2)
theorem mtT_nil {X : Cx} {L n : Nat} {m : Str} : MtT X L m n [] := fun _ h => nomatch h
theorem mtT_cons {X : Cx} {L n : Nat} {m cn : Str} {ps : List Str} {g : GD} {tbl : List (Str × GD)} (h : Mt X.prog X.w X.K X.mg X.base L cn m ps (spP X.K (n + 1) g)) (t : MtT X L m n tbl) : MtT X L m n ((cn, g) :: tbl) := fun p hp => by
  rcases List.mem_cons.mp hp with rfl | hp
  · exact ⟨ps, h⟩
  · exact t p hp
section
variable {X : Cx} {fi : List Nat} {fa : Nat → Addr} {e o : Expr} {es : List Expr} {kws : List Keyword} {fo : FE} {fs : FA} {pos apos p : Pos} {m x : Str} {ta : TE} {t : TA} {pl : Sem Bool}
/-- o.m(..), whatever the class -/
def tMethA (X : Cx) (m : Str) (ta : TE) (t : TA) : TE := fun σ H Q => ta σ H fun x H1 => ∃ (a C dx : Addr) (fs : List (Str × V)) (f : Addr) (fd : FuncData) (ps : List Str) (k : Nat) (sp : Sp), x = .ref a ∧ H1 a = some (.ins C dx fs) ∧ fs.lookup m = none ∧ Cls X.K C ∧ Meth X.K C m f ∧
  FnOk X.prog X.w X.K X.mg X.base CX0 k f fd ps sp ∧ Room k X.A ∧ Binds X.K fd ps [] ∧ t σ H1 fun vs H2 => sp (x :: vs) H2 Q E0
theorem pe_methA (he : PE X o ta) (ha : PA X (e :: es) t) (hst : starEach (e :: es) X.env = (false, eval e X.env) :: starEach es X.env := by rfl) (hpl : (backTo pos (starEach es X.env)).any (·.1) = false := by rfl)
    (ht : eval (.Call (.Attribute o m apos) (e :: es) [] pos) X.env = (do
      let ov ← eval o X.env
      standAt apos.atName
      let (f, first) ← holding [ov] (getMethod ov m pl)
      callWith pos f first (backTo pos (starEach (e :: es) X.env)) (backToKw pos (keywordEach [] X.env))) := by rfl) :
    PE X (.Call (.Attribute o m apos) (e :: es) [] pos) (tMethA X m ta t) := by
  refine ⟨fun pins s σ H Q I h => ?_⟩
  refine PySem.W.methodCall_KW (pl := pl) (thn (he.run pins s σ H _ I h) fun u s1 ⟨x, H1, I1, rx, a, C, dx, fs, f, fd, ps, k, sp, ex, ea, l, c, hm, F, hr, hb, q⟩ => ?_) ht
  subst ex
  obtain rfl : u = Value.ref a := rx
  refine getmeth_ok I1 ea c hm l ?_
  refine PySem.W.callWith_K (first := [.ref a]) (h₀ := X.base) I.ok.mod.kin hm.kp (thn (ha.run pos pins s1 σ H1 _ I1 q) fun us s2 ⟨vs, H2, I2, r, q2⟩ => ⟨I2.kIn, ?_⟩) hst hpl
  exact run_fn (us := .ref a :: us) (vs := .ref a :: vs) F hr hb .nil pass0 I2 (.cons rfl r) (by rw [List.append_nil]; exact q2)
theorem pe_methA0 (he : PE X o ta)
    (ht : eval (.Call (.Attribute o m apos) [] [] pos) X.env = (do
      let ov ← eval o X.env
      standAt apos.atName
      let (f, first) ← holding [ov] (getMethod ov m pl)
      callWith pos f first (backTo pos (starEach [] X.env)) (backToKw pos (keywordEach [] X.env))) := by rfl) :
    PE X (.Call (.Attribute o m apos) [] [] pos) (tMethA X m ta tNil) := by
  refine ⟨fun pins s σ H Q I h => ?_⟩
  refine PySem.W.methodCall_KW (pl := pl) (thn (he.run pins s σ H _ I h) fun u s1 ⟨x, H1, I1, rx, a, C, dx, fs, f, fd, ps, k, sp, ex, ea, l, c, hm, F, hr, hb, q⟩ => ?_) ht
  subst ex
  obtain rfl : u = Value.ref a := rx
  refine getmeth_ok I1 ea c hm l ?_
  exact PySem.W.callWith_K0 (first := [.ref a]) I1.kIn hm.kp (run_fn (us := [.ref a]) (vs := [.ref a]) F hr hb .nil pass0 I1 (.cons rfl .nil) q)
def fMeth (m : Str) (n : Nat) (tbl : List (Str × GD)) (fo : FE) (fs : FA) : FE := fun ρ P => fo ρ fun d ρ1 => recvT m tbl d fun g => fs ρ1 fun ds ρ2 => ds.length = n ∧ g (d :: ds) fun r => P r ρ2
theorem ok_meth {n L : Nat} {tbl : List (Str × GD)} (h : MtT X L m n tbl) (hr : Room L X.A) (ho : OkE X.K fi fa ta fo) (ha : OkA X.K fi fa t fs) : OkE X.K fi fa (tMethA X m ta t) (fMeth m n tbl fo fs) := fun σ H S ρ P Q r hf k =>
  ho σ H S ρ _ _ r hf fun v H1 S1 d ρ1 h1 r1 t1 d1 => by
    obtain ⟨cn, ns, vs, g, rfl, hm, hg, h1⟩ := recvT_inv h1
    obtain ⟨ps, M⟩ := h _ hg
    obtain ⟨C, f, fd, hC, c, mt, F, hb⟩ := M.ex
    obtain ⟨a, C', dx, ffs, rfl, hC', e1, rfl, e3⟩ := den_obj d1
    cases hC.uniq hC'
    refine ⟨a, C, dx, ffs, f, fd, ps, L, _, rfl, r1.ex _ _ e1, lookup_no hm, c, mt, F, hr, hb, ha σ H1 S1 ρ1 _ _ r1 h1 fun us H2 S2 ds ρ2 h2 r2 t2 d2 => ?_⟩
    refine ⟨S2, _ :: ds, _, by rw [List.length_cons, h2.1], r2.ex, .cons (d1.mono t2.exS) d2, h2.2, fun z S3 H3 dz hP g3 dd => k z H3 S3 dz ρ2 hP (r2.grow g3) ((t1.trans t2).trans g3.tr) dd⟩
theorem pd_meth {n L : Nat} {tbl : List (Str × GD)} (h : MtT X L m n tbl) (hr : Room L X.A) (ho : PED X fi fa o fo) (ha : PAD X fi fa (e :: es) fs) (hst : starEach (e :: es) X.env = (false, eval e X.env) :: starEach es X.env := by rfl) (hpl : (backTo pos (starEach es X.env)).any (·.1) = false := by rfl)
    (ht : eval (.Call (.Attribute o m apos) (e :: es) [] pos) X.env = (do
      let ov ← eval o X.env
      standAt apos.atName
      let (f, first) ← holding [ov] (getMethod ov m pl)
      callWith pos f first (backTo pos (starEach (e :: es) X.env)) (backToKw pos (keywordEach [] X.env))) := by rfl) : PED X fi fa (.Call (.Attribute o m apos) (e :: es) [] pos) (fMeth m n tbl fo fs) := by
  obtain ⟨t1, p1, o1⟩ := ho
  obtain ⟨t2, p2, o2⟩ := ha
  exact ⟨_, pe_methA p1 p2 hst hpl ht, ok_meth h hr o1 o2⟩
theorem pd_meth0 {n L : Nat} {tbl : List (Str × GD)} (h : MtT X L m n tbl) (hr : Room L X.A) (ho : PED X fi fa o fo)
    (ht : eval (.Call (.Attribute o m apos) [] [] pos) X.env = (do
      let ov ← eval o X.env
      standAt apos.atName
      let (f, first) ← holding [ov] (getMethod ov m pl)
      callWith pos f first (backTo pos (starEach [] X.env)) (backToKw pos (keywordEach [] X.env))) := by rfl) : PED X fi fa (.Call (.Attribute o m apos) [] [] pos) (fMeth m n tbl fo fNil) := by
  obtain ⟨t1, p1, o1⟩ := ho
  exact ⟨_, pe_methA0 p1 ht, ok_meth h hr o1 (t := tNil) fun σ H S ρ P Q r hf k => k [] H S [] ρ hf r (Tr.refl σ H S ρ) .nil⟩

/-! ### .. by keywords -/
def MtkT (X : Cx) (L : Nat) (m : Str) (n : Nat) (ks : List Str) (ix : List Nat) (tbl : List (Str × GD)) : Prop := ∀ p ∈ tbl, ∃ ps, Mtk X.prog X.w X.K X.mg X.base L p.1 m ps ks ix (spP X.K (n + 1) p.2)
theorem mtkT_nil {L n : Nat} {ks : List Str} {ix : List Nat} : MtkT X L m n ks ix [] := fun _ h => nomatch h
theorem mtkT_cons {L n : Nat} {cn : Str} {ps ks : List Str} {ix : List Nat} {g : GD} {tbl : List (Str × GD)} (h : Mtk X.prog X.w X.K X.mg X.base L cn m ps ks ix (spP X.K (n + 1) g)) (t : MtkT X L m n ks ix tbl) : MtkT X L m n ks ix ((cn, g) :: tbl) := fun p hp => by
  rcases List.mem_cons.mp hp with rfl | hp
  · exact ⟨ps, h⟩
  · exact t p hp
def tMethK (X : Cx) (m : Str) (ks : List Str) (ix : List Nat) (ta : TE) (t : TA) : TE := fun σ H Q => ta σ H fun x H1 => ∃ (a C dx : Addr) (fs : List (Str × V)) (f : Addr) (fd : FuncData) (ps : List Str) (k : Nat) (sp : Sp), x = .ref a ∧ H1 a = some (.ins C dx fs) ∧ fs.lookup m = none ∧ Cls X.K C ∧ Meth X.K C m f ∧
  FnOk X.prog X.w X.K X.mg X.base CX0 k f fd ps sp ∧ Room k X.A ∧ (∀ (s : Shared) (u : Value) (ws : List Value), X.K.In s.heap → ws.length = ks.length → BindsTo s fd ⟨[u], ks.zip ws⟩ (ps.zip (u :: permL ix ws))) ∧ t σ H1 fun zs H2 => zs.length = ks.length ∧ sp (x :: permL ix zs) H2 Q E0
theorem pe_methK (ks : List Str) (ix : List Nat) (he : PE X o ta) (hkw : PK X kws t) (hall : (backToKw pos (keywordEach kws X.env)).all (·.1.isSome) = true := by rfl) (hks : (backToKw pos (keywordEach kws X.env)).filterMap (·.1) = ks := by rfl)
    (hpl : ((backTo pos (starEach [] X.env)).any (·.1) || (backToKw pos (keywordEach kws X.env)).any (·.1.isNone)) = false := by rfl)
    (ht : eval (.Call (.Attribute o m apos) [] kws pos) X.env = (do
      let ov ← eval o X.env
      standAt apos.atName
      let (f, first) ← holding [ov] (getMethod ov m pl)
      callWith pos f first (backTo pos (starEach [] X.env)) (backToKw pos (keywordEach kws X.env))) := by rfl) :
    PE X (.Call (.Attribute o m apos) [] kws pos) (tMethK X m ks ix ta t) := by
  refine ⟨fun pins s σ H Q I h => ?_⟩
  refine PySem.W.methodCall_KW (pl := pl) (thn (he.run pins s σ H _ I h) fun u s1 ⟨x, H1, I1, rx, a, C, dx, fs, f, fd, ps, k, sp, ex, ea, l, c, hm, F, hr, hb, q⟩ => ?_) ht
  subst ex
  obtain rfl : u = Value.ref a := rx
  refine getmeth_ok I1 ea c hm l ?_
  refine PySem.W.callWith_KW0 (first := [.ref a]) (h₀ := X.base) I.ok.mod.kin hm.kp hall (thn (hkw.run pos pins s1 σ H1 _ I1 q) fun ws s2 ⟨zs, H2, I2, rz, hl, q2⟩ => ⟨I2.kIn, ?_⟩) hpl
  rw [hks]
  have rp := vals_perm rz ix
  refine wpAny_call (codeAny_mono (F.run X.A X.stack s2 H2 ⟨[.ref a], ks.zip ws⟩ (.ref a :: permL ix ws) (.ref a :: permL ix zs) Q E0 hr I2.env0 (hb s2 (.ref a) ws I2.kIn (by rw [← rz.length]; exact hl)) (.cons rfl rp) q2) fun r s' hq => ?_)
  cases r with
  | error e => exact (pass0 : Passes CX0 X E0) pins σ H2 s2 e s' I2 hq
  | ok fl =>
    cases fl with
    | ret u => exact I2.after hq
    | next => exact False.elim hq
    | brk => exact False.elim hq
    | cont => exact False.elim hq
def fMethK (m : Str) (ix : List Nat) (n nk : Nat) (tbl : List (Str × GD)) (fo : FE) (fs : FA) : FE := fun ρ P => fo ρ fun d ρ1 => recvT m tbl d fun g => fs ρ1 fun ds ρ2 => ds.length = nk ∧ (permL ix ds).length = n ∧ g (d :: permL ix ds) fun r => P r ρ2
theorem pd_methK {n L : Nat} {ks : List Str} {ix : List Nat} {tbl : List (Str × GD)} {nk : Nat} (h : MtkT X L m n ks ix tbl) (hr : Room L X.A) (ho : PED X fi fa o fo) (hkw : PKD X fi fa kws fs) (hnk : ks.length = nk := by rfl) (hall : (backToKw pos (keywordEach kws X.env)).all (·.1.isSome) = true := by rfl) (hks : (backToKw pos (keywordEach kws X.env)).filterMap (·.1) = ks := by rfl)
    (hpl : ((backTo pos (starEach [] X.env)).any (·.1) || (backToKw pos (keywordEach kws X.env)).any (·.1.isNone)) = false := by rfl)
    (ht : eval (.Call (.Attribute o m apos) [] kws pos) X.env = (do
      let ov ← eval o X.env
      standAt apos.atName
      let (f, first) ← holding [ov] (getMethod ov m pl)
      callWith pos f first (backTo pos (starEach [] X.env)) (backToKw pos (keywordEach kws X.env))) := by rfl) : PED X fi fa (.Call (.Attribute o m apos) [] kws pos) (fMethK m ix n nk tbl fo fs) := by
  obtain ⟨t1, p1, o1⟩ := ho
  obtain ⟨t2, p2, o2⟩ := hkw
  subst hnk
  refine ⟨_, pe_methK ks ix p1 p2 hall hks hpl ht, fun σ H S ρ P Q r hf k => o1 σ H S ρ _ _ r hf fun v H1 S1 d ρ1 h1 r1 t1 d1 => ?_⟩
  obtain ⟨cn, ns, vs, g, rfl, hm, hg, h1⟩ := recvT_inv h1
  obtain ⟨ps, M⟩ := h _ hg
  obtain ⟨C, f, fd, hC, c, mt, F, hb⟩ := M.ex
  obtain ⟨a, C', dx, ffs, rfl, hC', e1, rfl, e3⟩ := den_obj d1
  cases hC.uniq hC'
  refine ⟨a, C, dx, ffs, f, fd, ps, L, _, rfl, r1.ex _ _ e1, lookup_no hm, c, mt, F, hr, hb, o2 σ H1 S1 ρ1 _ _ r1 h1 fun us H2 S2 ds ρ2 h2 r2 t2 d2 => ⟨by rw [d2.length]; exact h2.1, ?_⟩⟩
  refine ⟨S2, _ :: permL ix ds, _, by rw [List.length_cons, h2.2.1], r2.ex, .cons (d1.mono t2.exS) (dens_perm d2 ix), h2.2.2, fun z S3 H3 dz hP g3 dd => k z H3 S3 dz ρ2 hP (r2.grow g3) ((t1.trans t2).trans g3.tr) dd⟩
end

/-! ### operators of an instance's own -/
/-- a method, run at any room -/
theorem run_mA {X : Cx} {A : Around} {pins : List (Addr × Obj)} {σ : L2.St} {H : Hp} {s : Shared} {Q : VK} {us : List Value} {vs : List V} {k : Nat} {f : Addr} {fd : FuncData} {ps : List Str} {sp : Sp} (F : FnOk X.prog X.w X.K X.mg X.base CX0 k f fd ps sp) (hr : Room k A) (hb : Binds X.K fd ps [])
    (e0 : Env0 X.prog X.w X.K X.mg X.base A X.stack s H) (I : Inv X pins σ H s) (r : Vals vs us) (h : sp vs H Q E0) : wpAny (model X.prog X.w) A (call (.ref f) us) (EP X pins σ Q) X.xe s := by
  have hl : us.length = ps.length := by rw [← r.length]; exact F.len _ _ _ _ h
  have bt := hb s us I.kIn (by rw [List.append_nil]; exact hl)
  rw [List.append_nil] at bt
  refine wpAny_call (codeAny_mono (F.run A X.stack s H ⟨us, []⟩ us vs Q E0 hr e0 bt r h) fun r s' hq => ?_)
  cases r with
  | error e => exact (pass0 : Passes CX0 X E0) pins σ H s e s' I hq
  | ok fl =>
    cases fl with
    | ret u => exact I.after hq
    | next => exact False.elim hq
    | brk => exact False.elim hq
    | cont => exact False.elim hq
/-- the own def of the first thing, in a table -/
def ownT (tbl : List (Str × GD)) (d : D) (k : GD → Prop) : Prop := match d with
  | .obj cn _ _ => ∃ g, (cn, g) ∈ tbl ∧ k g
  | _ => False
theorem ownT_inv {tbl : List (Str × GD)} {d : D} {k : GD → Prop} (h : ownT tbl d k) : ∃ cn ns vs g, d = .obj cn ns vs ∧ (cn, g) ∈ tbl ∧ k g := by
  unfold ownT at h
  split at h
  · obtain ⟨g, b, c⟩ := h
    exact ⟨_, _, _, g, rfl, b, c⟩
  · exact h.elim
def rOwn1 (X : Cx) (L : Nat) (m : Str) (x : V) (xs : List V) (H : Hp) (Q : VK) : Prop := ∃ (a C dx : Addr) (fs : List (Str × V)) (f : Addr) (fd : FuncData) (ps : List Str) (sp : Sp), x = .ref a ∧ H a = some (.ins C dx fs) ∧ Cls X.K C ∧ Meth X.K C m f ∧
  FnOk X.prog X.w X.K X.mg X.base CX0 L f fd ps sp ∧ Binds X.K fd ps [] ∧ sp (x :: xs) H Q E0
theorem own_den {X : Cx} {L n : Nat} {m : Str} {tbl : List (Str × GD)} (h : MtT X L m n tbl) {v : V} {vs : List V} {d : D} {ds : List D} {S H : Hp} {P : D → Prop} {Q : VK} (ex : Ex S H) (hd : Den X.K S v d) (hds : Dens X.K S vs ds) (hl : ds.length = n)
    (hg : ownT tbl d fun g => g (d :: ds) P) (k : ∀ v S' H' d, P d → Gr S H S' H' → Den X.K S' v d → Q v H') : rOwn1 X L m v vs H Q := by
  obtain ⟨cn, ns, us, g, rfl, hg, h1⟩ := ownT_inv hg
  obtain ⟨ps, M⟩ := h _ hg
  obtain ⟨C, f, fd, hC, c, mt, F, hb⟩ := M.ex
  obtain ⟨a, C', dx, ffs, rfl, hC', e1, rfl, e3⟩ := den_obj hd
  cases hC.uniq hC'
  exact ⟨a, C, dx, ffs, f, fd, ps, _, rfl, ex _ _ e1, c, mt, F, hb, S, _ :: ds, P, by rw [List.length_cons, hl], ex, .cons hd hds, h1, k⟩
section
variable {X : Cx} {L : Nat} {tbl : List (Str × GD)}
/-- x in o -/
def gInO (neg : Bool) (tbl : List (Str × GD)) (x y : D) (P : D → Prop) : Prop := ownT tbl y fun g => g [y, x] fun r => ∃ b, r = .bl b ∧ P (.bl (neg != b))
theorem own_look {pins : List (Addr × Obj)} {σ : L2.St} {H : Hp} {s : Shared} {a C dx : Addr} {fs : List (Str × V)} (I : Inv X pins σ H s) (e : H a = some (.ins C dx fs)) : ∃ od, PySem.W.InstAt s.heap a (PySem.W.instObj C dx) C (some od) := by
  obtain ⟨mA, O, _⟩ := ins_get I.hok e
  obtain ⟨od, J, _⟩ := O.look
  exact ⟨od, J⟩
theorem op_inO (hr : Room L X.A) : OpR X (compareOp .In) (fun x y H Q => rOwn1 X L "__contains__" y [x] H fun v H' => ∃ b, v = .bl b ∧ Q (.bl b) H') := by
  intro pins s σ H x y u v Q I rx ry ⟨a, C, dx, fs, f, fd, ps, sp, ey, ea, c, mt, F, hb, h⟩
  subst ey
  cases (show v = Value.ref a from ry)
  obtain ⟨od, J⟩ := own_look I ea
  obtain ⟨m, hF⟩ := I.fr
  refine PySem.W.in_K hF I.ok.mod.kin J mt.at_ mt.fn (wpAny_mono (run_mA (vs := [V.ref a, x]) F hr hb I.env0 I (.cons (show RelV (V.ref a) (Value.ref a) from rfl) (.cons rx .nil)) h) (fun r s' ⟨z, H', I', rz, b, ez, q⟩ => ?_) fun _ _ x => x)
  subst ez
  cases (show r = Value.bool b from rz)
  exact wpAny_pure ⟨.bl b, H', I', rfl, q⟩
theorem op_notInO (hr : Room L X.A) : OpR X (compareOp .NotIn) (fun x y H Q => rOwn1 X L "__contains__" y [x] H fun v H' => ∃ b, v = .bl b ∧ Q (.bl (!b)) H') := by
  intro pins s σ H x y u v Q I rx ry ⟨a, C, dx, fs, f, fd, ps, sp, ey, ea, c, mt, F, hb, h⟩
  subst ey
  cases (show v = Value.ref a from ry)
  obtain ⟨od, J⟩ := own_look I ea
  obtain ⟨m, hF⟩ := I.fr
  refine PySem.W.notIn_K hF I.ok.mod.kin J mt.at_ mt.fn (wpAny_mono (run_mA (vs := [V.ref a, x]) F hr hb I.env0 I (.cons (show RelV (V.ref a) (Value.ref a) from rfl) (.cons rx .nil)) h) (fun r s' ⟨z, H', I', rz, b, ez, q⟩ => ?_) fun _ _ x => x)
  subst ez
  cases (show r = Value.bool b from rz)
  exact wpAny_pure ⟨.bl (!b), H', I', rfl, q⟩
theorem od_inO (h : MtT X L "__contains__" 1 tbl) (hr : Room L X.A) : OpD X (compareOp .In) (gInO false tbl) := ⟨_, op_inO hr, fun x y dx dy S H P Q ex hx hy hg k =>
  own_den h ex hy (.one hx) rfl hg fun v S' H' d ⟨b, eb, hP⟩ g hd => by
    subst eb
    refine ⟨b, den_bl hd, ?_⟩
    rw [Bool.false_bne] at hP
    exact k _ S' H' _ hP g (.bl b)⟩
theorem od_notInO (h : MtT X L "__contains__" 1 tbl) (hr : Room L X.A) : OpD X (compareOp .NotIn) (gInO true tbl) := ⟨_, op_notInO hr, fun x y dx dy S H P Q ex hx hy hg k =>
  own_den h ex hy (.one hx) rfl hg fun v S' H' d ⟨b, eb, hP⟩ g hd => by
    subst eb
    refine ⟨b, den_bl hd, ?_⟩
    rw [Bool.true_bne] at hP
    exact k _ S' H' _ hP g (.bl _)⟩
/-- len(o) -/
def gLenO (tbl : List (Str × GD)) : GD := fun ds P => match ds with
  | [d] => ownT tbl d fun g => g [d] fun r => ∃ n : Int, r = .int n ∧ 0 ≤ n ∧ n < 2 ^ 63 ∧ P (.int n)
  | _ => False
theorem call_lenO (hr : Room L X.A.in1) : CallR X (.builtin "len") (fun xs H Q => ∃ x, xs = [x] ∧ rOwn1 X L "__len__" x [] H fun v H' => ∃ n : Int, v = .int n ∧ 0 ≤ n ∧ n < 2 ^ 63 ∧ Q (.int n) H') := by
  intro pins s σ H xs us Q I r ⟨x, ex, a, C, dx, fs, f, fd, ps, sp, ey, ea, c, mt, F, hb, h⟩
  subst ex
  subst ey
  obtain ⟨u, rfl, rx⟩ := r.one
  cases (show u = Value.ref a from rx)
  obtain ⟨od, J⟩ := own_look I ea
  obtain ⟨m, hF⟩ := I.fr
  refine PySem.W.len_K hF I.ok.mod.kin J mt.at_ mt.fn (wpAny_mono (run_mA (vs := [V.ref a]) F hr hb I.env0.in1 I (.cons (show RelV (V.ref a) (Value.ref a) from rfl) .nil) h) (fun r s' ⟨z, H', I', rz, n, ez, h0, h1, q⟩ => ?_) fun _ _ x => x)
  subst ez
  obtain ⟨t, rfl⟩ := (show ∃ t, r = Value.int n t from rz)
  exact ⟨⟨h0, h1⟩, .int n, H', I'.tok _, ⟨_, rfl⟩, q⟩
theorem cd_lenO (h : MtT X L "__len__" 0 tbl) (hr : Room (L + 1) X.A) : CallD X (.builtin "len") (gLenO tbl) := ⟨_, call_lenO hr.in1, fun xs ds S H P Q ex hd hg k => by
  unfold gLenO at hg
  split at hg
  · cases hd with
    | cons hx t =>
      cases t
      refine ⟨_, rfl, own_den h ex hx .nil rfl hg fun v S' H' d ⟨n, en, h0, h1, hP⟩ g hd => ?_⟩
      subst en
      exact ⟨n, den_int hd, h0, h1, k _ S' H' _ hP g (.int n)⟩
  · exact hg.elim⟩
end

/-! ### truth of any value -/
def truD : D → Option Bool
  | .non => some false
  | .bl b => some b
  | .int i => some (i != 0)
  | .lst xs => some !xs.isEmpty
  | .tup xs => some !xs.isEmpty
  | .rol xs => some !xs.isEmpty
  | _ => none
def fTru (f : FE) : FT := fun ρ P => f ρ fun d ρ1 => ∃ b, truD d = some b ∧ P b ρ1
theorem dens_empty {K : PySem.W.Frag} {S : Hp} {vs : List V} {ds : List D} (h : Dens K S vs ds) : (!ds.isEmpty) = !vs.isEmpty := by cases h <;> rfl
theorem pt_tru {X : Cx} {fi : List Nat} {fa : Nat → Addr} {e : Expr} {f : FE} (h : PED X fi fa e f) (he : ∀ whole, isTrue e X.env whole = (do let v ← whole; standAt e.pos; holding [v] (truthy v)) := by intro _; rfl) : PTD X fi fa e (fTru f) := by
  obtain ⟨t, p, ok⟩ := h
  refine ⟨_, pt_truth p he, fun σ H S ρ P Q r hf k => ok σ H S ρ _ _ r hf fun v H1 S1 d ρ1 ⟨b, e, hP⟩ r1 t1 d1 => ⟨b, ?_, k b H1 S1 ρ1 hP r1 t1⟩⟩
  cases d with
  | non => cases e; rw [den_non d1]; exact rfl
  | bl c => cases e; rw [den_bl d1]; exact rfl
  | int i => cases e; rw [den_int d1]; exact rfl
  | lst xs =>
    cases e
    obtain ⟨a, us, rfl, h1, h2⟩ := den_lst d1
    exact .inl ⟨us, SqL.of (r1.ex _ _ h1), dens_empty h2⟩
  | tup xs =>
    cases e
    obtain ⟨a, us, rfl, h1, h2⟩ := den_tup d1
    exact .inr (.inl ⟨us, SqT.of (r1.ex _ _ h1), dens_empty h2⟩)
  | rol xs =>
    cases e
    obtain ⟨a, us, rfl, h1, h2⟩ := den_rol d1
    exact .inl ⟨us, r1.ex.l h1, dens_empty h2⟩
  | _ => cases e

/-! ### a statement that is never reached -/
def fNever : FS := fun ρ P => False
theorem psd_never {X : Cx} {fi : List Nat} {fa : Nat → Addr} {st : Stmt} : PSD X fi fa st fNever := ⟨_, ps_never, fun σ H S ρ P E r hf k => hf.elim⟩
theorem Mt.lev {P : Program} {w : World} {K : PySem.W.Frag} {mg : Str → Option Value} {base : Heap} {L L' : Nat} {cn m : Str} {ps : List Str} {sp : Sp} (h : Mt P w K mg base L cn m ps sp) (hl : L ≤ L') : Mt P w K mg base L' cn m ps sp := by
  obtain ⟨C, f, fd, a, b, c, d, e⟩ := h.ex
  exact ⟨C, f, fd, a, b, c, d.mono hl, e⟩
theorem Mtk.lev {P : Program} {w : World} {K : PySem.W.Frag} {mg : Str → Option Value} {base : Heap} {L L' : Nat} {cn m : Str} {ps ks : List Str} {ix : List Nat} {sp : Sp} (h : Mtk P w K mg base L cn m ps ks ix sp) (hl : L ≤ L') : Mtk P w K mg base L' cn m ps ks ix sp := by
  obtain ⟨C, f, fd, a, b, c, d, e⟩ := h.ex
  exact ⟨C, f, fd, a, b, c, d.mono hl, e⟩
theorem fldT_nil {K : PySem.W.Frag} {f : Str} : ∀ cn ∈ ([] : List Str), FldOk K f cn := fun _ h => nomatch h
theorem fldT_cons {K : PySem.W.Frag} {f c : Str} {cs : List Str} (h : FldOk K f c) (t : ∀ cn ∈ cs, FldOk K f cn) : ∀ cn ∈ c :: cs, FldOk K f cn := fun cn hc => by
  rcases List.mem_cons.mp hc with rfl | hc
  · exact h
  · exact t cn hc
/-! ### classes as the top has left them -/
def ClsF (K : PySem.W.Frag) (cn : Str) : Prop := ∃ C, ClsAt K cn C ∧ Cls K C ∧ PySem.W.makesIn K C = true ∧ PySem.W.keepIn K (.ref C) = true
theorem clsF_mk {K : PySem.W.Frag} {cn : Str} {C : Addr} (c : PySem.W.nsIn K mainGlobals cn = some (some (.ref C))) (pg : PySem.W.plainGet K C Str.empty = true) (hd : PySem.W.hasDictIn K C = true) (po : PySem.W.plainOver K C = true)
    (sa : PySem.W.findIn K (.ref C) "__setattr__" = some (some (.builtin "object.__setattr__"))) (mk : PySem.W.makesIn K C = true) (kc : PySem.W.keepIn K (.ref C) = true) : ClsF K cn := ⟨C, c, ⟨pg, hd, po, sa⟩, mk, kc⟩
def AtM (K : PySem.W.Frag) (cn m qual : Str) (st : Stmt) : Prop := ∃ (C f : Addr) (fd : FuncData), ClsAt K cn C ∧ Meth K C m f ∧ Fun K m qual st f fd
theorem atM_mk {K : PySem.W.Frag} {cn m qual : Str} {st : Stmt} {C f : Addr} {oc : Value} {od an : Option Addr} {osl : Array (Option Value)} {kV doc pm cdv ct : Value} (c : PySem.W.nsIn K mainGlobals cn = some (some (.ref C)))
    (a : PySem.W.findIn K (.ref C) m = some (some (.ref f))) (i : PySem.W.isFn K (.ref f) = true) (l : K.lookup f = some ⟨oc, od, .func (PySem.W.fnOf m qual (defArgs st) (defBody st) (defScope st) .none kV doc pm an cdv ct), osl⟩) (co : PySem.W.codeIn K cdv qual = true)
    (k : PySem.W.keepIn K (.ref f) = true) : AtM K cn m qual st := ⟨C, f, _, c, ⟨a, i, k⟩, fun_mk l co k⟩
def NoF (K : PySem.W.Frag) (f cn : Str) : Prop := ∃ C, ClsAt K cn C ∧ NoAttr K C f
theorem noF_mk {K : PySem.W.Frag} {f cn : Str} {C : Addr} (c : PySem.W.nsIn K mainGlobals cn = some (some (.ref C))) (n : PySem.W.findIn K (.ref C) f = some none) : NoF K f cn := ⟨C, c, n⟩
theorem cls_mg {K : PySem.W.Frag} {mg : Str → Option Value} {h : Heap} {cn : Str} (c : ClsF K cn) (X : K.In h) (G : h.Ns mainGlobals mg) : ∃ C, ClsAt K cn C ∧ mg cn = some (.ref C) := by
  obtain ⟨C, h1, _⟩ := c
  exact ⟨C, h1, PySem.W.mg_of X G h1⟩
theorem fld_mk {K : PySem.W.Frag} {f cn : Str} (c : ClsF K cn) (n : NoF K f cn) : FldOk K f cn := ⟨fun C hC => by
  obtain ⟨C1, h1, k, _, _⟩ := c
  obtain ⟨C2, h2, q⟩ := n
  cases hC.uniq h1
  cases hC.uniq h2
  exact ⟨k, q⟩⟩
section
variable {P : Program} {w : World} {K : PySem.W.Frag} {mg : Str → Option Value} {base h : Heap} {cn m qual : Str} {st : Stmt} {L : Nat} {ps ks : List Str} {ix : List Nat} {sp : Sp}
theorem mt_mk (c : ClsF K cn) (A : AtM K cn m qual st) (hb : ∀ (kV doc pm : Value) (an : Option Addr) (cdv ct : Value) (us : List Value), us.length = ps.length → bindArgs (PySem.W.fnOf m qual (defArgs st) (defBody st) (defScope st) .none kV doc pm an cdv ct) ⟨us, []⟩ = pure (ps.zip us))
    (ok : ∀ (f : Addr) (fd : FuncData), Fun K m qual st f fd → FnOk P w K mg base CX0 L f fd ps sp) : Mt P w K mg base L cn m ps sp := by
  obtain ⟨C1, h1, k, _, _⟩ := c
  obtain ⟨C, f, fd, hC, mt, F⟩ := A
  cases hC.uniq h1
  exact ⟨_, f, fd, hC, k, mt, ok f fd F, F.binds hb⟩
theorem kbm_of {x qual : Str} {st : Stmt} {f : Addr} {fd : FuncData} (F : Fun K x qual st f fd)
    (hb : ∀ (kV doc pm : Value) (an : Option Addr) (cdv ct : Value) (u : Value) (us : List Value), us.length = ks.length → bindArgs (PySem.W.fnOf x qual (defArgs st) (defBody st) (defScope st) .none kV doc pm an cdv ct) ⟨[u], ks.zip us⟩ = pure (ps.zip (u :: permL ix us))) :
    ∀ (s : Shared) (u : Value) (ws : List Value), K.In s.heap → ws.length = ks.length → BindsTo s fd ⟨[u], ks.zip ws⟩ (ps.zip (u :: permL ix ws)) := by
  obtain ⟨oc, od, kV, doc, pm, an, cdv, ct, osl, rfl, _, _⟩ := F.ex
  exact fun s u ws _ hl => .of_eq (hb kV doc pm an cdv ct u ws hl)
theorem mtk_mk (c : ClsF K cn) (A : AtM K cn m qual st) (hb : ∀ (kV doc pm : Value) (an : Option Addr) (cdv ct : Value) (u : Value) (us : List Value), us.length = ks.length → bindArgs (PySem.W.fnOf m qual (defArgs st) (defBody st) (defScope st) .none kV doc pm an cdv ct) ⟨[u], ks.zip us⟩ = pure (ps.zip (u :: permL ix us)))
    (ok : ∀ (f : Addr) (fd : FuncData), Fun K m qual st f fd → FnOk P w K mg base CX0 L f fd ps sp) : Mtk P w K mg base L cn m ps ks ix sp := by
  obtain ⟨C1, h1, k, _, _⟩ := c
  obtain ⟨C, f, fd, hC, mt, F⟩ := A
  cases hC.uniq h1
  exact ⟨_, f, fd, hC, k, mt, ok f fd F, kbm_of F hb⟩
theorem mkr_mk (c : ClsF K cn) (A : AtM K cn "__init__" qual st) (X : K.In h) (G : h.Ns mainGlobals mg) (hb : ∀ (kV doc pm : Value) (an : Option Addr) (cdv ct : Value) (us : List Value), us.length = ps.length → bindArgs (PySem.W.fnOf "__init__" qual (defArgs st) (defBody st) (defScope st) .none kV doc pm an cdv ct) ⟨us, []⟩ = pure (ps.zip us))
    (ok : ∀ (f : Addr) (fd : FuncData), Fun K "__init__" qual st f fd → FnOk P w K mg base CX0 L f fd ps sp) : Mkr P w K mg base L cn ps sp := by
  obtain ⟨C1, h1, k, mk, kc⟩ := c
  obtain ⟨C, f, fd, hC, mt, F⟩ := A
  cases hC.uniq h1
  exact ⟨_, f, fd, hC, PySem.W.mg_of X G hC, ⟨mk, mt.at_, mt.fn, kc⟩, ok f fd F, F.binds hb⟩
end
end DL

/-! DLG: comprehensions with two clauses, operators of an instance's own, built-in functions by keywords. -/
namespace DL
open PySem L2
variable [HW]

/-! ### an iterable, for every block -/
section
variable {X : Cx} {fi : List Nat} {fa : Nat → Addr} {e a b tg iter tg1 iter1 elt : Expr} {ifs ifs1 : List Expr} {f fe fx fy : FE} {ft ft1 : FT} {pos : Pos} {g g1 : FG} {fit fit1 : FI}
def uI (K : PySem.W.Frag) (fi : List Nat) (fa : Nat → Addr) (f : FI) : TI := fun σ H R => ∃ (S : Hp) (ρ : List Sl) (P : List D → List Sl → Prop), Rel K fi fa σ H S ρ ∧ f ρ P ∧
  ∀ J H' S' ds ρ', P ds ρ' → Rel K fi fa σ H' S' ρ' → Tr σ H S ρ σ H' S' ρ' → ItD K J S' ds → R J H'
theorem PID.uni (h : PID X fi fa tg e fit) : PI X tg e (uI X.K fi fa fit) := by
  obtain ⟨t, p, ok⟩ := h
  refine ⟨fun pins s σ H R I hw => p.run pins s σ H R I ?_⟩
  obtain ⟨S, ρ, P, r, hf, k⟩ := hw
  exact ok σ H S ρ P R r hf k
/-- [fe for .. in i if t for .. in i1 if t1]; vs: the comprehension's own slots, vs1 those of the second target -/
def lc2Go (g : FG) (t : FT) (i1 : FI) (g1 : FG) (t1 : FT) (fe : FE) (vs vs1 : List Nat) : List D → List D → List Sl → (List D → List Sl → Prop) → Prop
  | [], acc, ρ, P => P acc ρ
  | d :: ds, acc, ρ, P => g d ρ fun ρ1 => t ρ1 fun b ρ2 => if b = true then i1 ρ2 fun es ρ3 => lcGo g1 t1 fe vs1 es acc (wipeS ρ3 vs1) fun acc' ρ4 => lc2Go g t i1 g1 t1 fe vs vs1 ds acc' (wipeS ρ4 vs) P else lc2Go g t i1 g1 t1 fe vs vs1 ds acc (wipeS ρ2 vs) P
def fLc2 (i : FI) (g : FG) (t : FT) (i1 : FI) (g1 : FG) (t1 : FT) (fe : FE) (vs vs1 : List Nat) : FE := fun ρ P => i ρ fun ds ρ1 => lc2Go g t i1 g1 t1 fe vs vs1 ds [] (wipeS ρ1 vs) fun acc ρ2 => P (.lst acc) ρ2
theorem not_owned_wipe {vs : List Nat} {σ τ : L2.St} {H S : Hp} {ρ : List Sl} {D : Addr} {xs : List V} (e : wipe τ vs = wipe σ vs) (hD : H D = some (.lst xs)) (no : ¬ Owned τ ρ D) : ¬ Owned (wipe σ vs) (wipeS ρ vs) D := fun h => by
  have hh : Owned (wipe τ vs) (wipeS ρ vs) D := by rw [e]; exact h
  exact ((Tr.wipe (σ := τ) (H := H) (S := S) (ρ := ρ) vs).owned D hh).elim no fun z => by rw [hD] at z; cases z
theorem ok_lc2 {K : PySem.W.Frag} {ti : TI} {ws ws1 vs vs1 : List Nat} (hi : OkI K fi fa ti fit) (hv : ∀ i ∈ vs, i ∉ fi) (hw : ∀ i ∈ ws, i ∈ vs) (hv1 : ∀ i ∈ vs1, i ∈ vs) (hw1 : ∀ i ∈ ws1, i ∈ vs1) :
    OkF K fi fa (tLc2 ti (uG K fi fa ws g) (uT K fi fa ft) (uI K fi fa fit1) (uG K fi fa ws1 g1) (uT K fi fa ft1) (uE K fi fa fe) vs vs1) (fLc2 fit g ft fit1 g1 ft1 fe vs vs1) := by
  intro σ H S ρ P Q r hf k
  have hvf1 : ∀ i ∈ vs1, i ∉ fi := fun i hi => hv i (hv1 i hi)
  refine hi σ H S ρ _ _ r hf fun J H1 S1 ds ρ1 hP r1 t1 it Dd hD => ?_
  have same : ∀ i, i ∉ vs → (wipe σ vs)[i]? = σ[i]? := fun i hi => wipe_get hi
  refine ⟨fun i m H' => ∃ S' ρ' acc dacc, m = ds.length - i ∧ i ≤ ds.length ∧ Rel K fi fa (wipe σ vs) H' S' (wipeS ρ' vs) ∧ Tr σ H1 S1 ρ1 (wipe σ vs) H' S' (wipeS ρ' vs) ∧ H' Dd = some (.lst acc) ∧ S' Dd = none ∧ ¬ Owned (wipe σ vs) (wipeS ρ' vs) Dd ∧ Dens K S' acc dacc ∧
    lc2Go g ft fit1 g1 ft1 fe vs vs1 (ds.drop i) dacc (wipeS ρ' vs) (fun acc ρ2 => P (.lst acc) ρ2), ⟨_, S1, ρ1, [], [], rfl, Nat.zero_le _, ?_⟩, ?_⟩
  · have g0 : Gr S1 H1 S1 (upd H1 Dd (.lst [])) := Gr.hid r1.ex hD
    have rw0 := (r1.grow g0).wipe vs hv
    refine ⟨rw0, (g0.tr (ρ := ρ1) (σ := σ)).trans (Tr.wipe vs), upd_same, r1.ex.free hD, fun ⟨i, d, h1, h2⟩ => ?_, .nil, by rw [List.drop_zero]; exact hP⟩
    obtain ⟨q, u, e1, e2, e3, e4⟩ := (r1.wipe vs hv).own i d h1
    rw [h2] at e1
    cases e1
    rw [hD] at e3
    cases e3
  · rintro i m H' ⟨S', ρ', acc, dacc, rfl, hi', r', t', hDd, hSd, nOd, hacc, w⟩
    obtain ⟨stop, go⟩ := it i S' H' t'.exS r'.ex
    by_cases hlt : i < ds.length
    · have hd : ds.drop i = ds[i] :: ds.drop (i + 1) := List.drop_eq_getElem_cons hlt
      rw [hd] at w
      obtain ⟨g1', g2⟩ := go ds[i] (List.getElem?_eq_getElem hlt)
      refine .inr ⟨g1', fun H2 => ∃ S2 ρ2 acc2 dacc2, Rel K fi fa (wipe σ vs) H2 S2 (wipeS ρ2 vs) ∧ Tr σ H1 S1 ρ1 (wipe σ vs) H2 S2 (wipeS ρ2 vs) ∧ H2 Dd = some (.lst acc2) ∧ S2 Dd = none ∧ ¬ Owned (wipe σ vs) (wipeS ρ2 vs) Dd ∧ Dens K S2 acc2 dacc2 ∧
        lc2Go g ft fit1 g1 ft1 fe vs vs1 (ds.drop (i + 1)) dacc2 (wipeS ρ2 vs) (fun acc ρ2 => P (.lst acc) ρ2), fun H2 ⟨S2, ρ2, acc2, dacc2, h⟩ => ⟨ds.length - (i + 1), by omega, S2, ρ2, acc2, dacc2, rfl, hlt, h⟩, fun x H'' hy => ?_⟩
      obtain ⟨S'', gr, den⟩ := g2 x H'' hy
      have T2 := t'.trans (gr.tr (σ := wipe σ vs) (ρ := wipeS ρ' vs))
      obtain ⟨k1, k2, k3⟩ := (gr.tr (σ := wipe σ vs) (ρ := wipeS ρ' vs)).hides hDd hSd nOd (fun _ => HO.noConfusion)
      refine ⟨S'', wipeS ρ' vs, ds[i], _, r'.grow gr, den, w, fun σ3 H3 S3 ρ3 hP3 r3 t3 sb => ?_⟩
      have hsame3 : ∀ j, j ∉ vs → σ3[j]? = (wipe σ vs)[j]? := fun j hj => sb.2 j fun z => hj (hw j z)
      have e3 : wipe σ3 vs = wipe σ vs := by
        rw [wipe_ext sb.1 hsame3]
        exact wipe_ext (wipe_length σ vs) same
      obtain ⟨l1, l2, l3⟩ := t3.hides k1 k2 k3 (fun _ => HO.noConfusion)
      refine ⟨e3, S3, ρ3, _, r3, hP3, fun b H4 S4 ρ4 hP4 r4 t4 => ?_⟩
      obtain ⟨m1, m2, m3⟩ := t4.hides l1 l2 l3 (fun _ => HO.noConfusion)
      have ex4 : Ex S' S4 := (gr.s.trans t3.exS).trans t4.exS
      cases b with
      | true =>
        refine iteT ⟨S4, ρ4, _, r4, by simpa using hP4, fun J5 H5 S5 es ρ5 hP5 r5 t5 it5 => ?_⟩
        obtain ⟨n1, n2, n3⟩ := t5.hides m1 m2 m3 (fun _ => HO.noConfusion)
        have T5 := ((T2.trans t3).trans t4).trans t5
        have same1 : ∀ i, i ∉ vs1 → (wipe σ3 vs1)[i]? = σ3[i]? := fun i hi => wipe_get hi
        have e13 : wipe (wipe σ3 vs1) vs = wipe σ vs := by
          rw [wipe_ext (wipe_length σ3 vs1) fun j hj => same1 j fun z => hj (hv1 j z)]
          exact e3
        -- the second clause's loop
        refine ⟨fun j n H' => ∃ S' ρ' acc dacc, n = es.length - j ∧ j ≤ es.length ∧ Rel K fi fa (wipe σ3 vs1) H' S' (wipeS ρ' vs1) ∧ Tr σ H1 S1 ρ1 (wipe σ3 vs1) H' S' (wipeS ρ' vs1) ∧ H' Dd = some (.lst acc) ∧ S' Dd = none ∧ ¬ Owned (wipe σ3 vs1) (wipeS ρ' vs1) Dd ∧ Dens K S' acc dacc ∧ Ex S5 S' ∧
          lcGo g1 ft1 fe vs1 (es.drop j) dacc (wipeS ρ' vs1) (fun acc' ρ4 => lc2Go g ft fit1 g1 ft1 fe vs vs1 (ds.drop (i + 1)) acc' (wipeS ρ4 vs) fun acc ρ2 => P (.lst acc) ρ2),
          ⟨_, S5, ρ5, acc, dacc, rfl, Nat.zero_le _, r5.wipe vs1 hvf1, T5.trans (Tr.wipe vs1), n1, n2, not_owned_wipe (S := S5) rfl n1 n3, hacc.mono (ex4.trans t5.exS), Ex.refl S5, by rw [List.drop_zero]; exact hP5⟩, ?_⟩
        rintro j n H6 ⟨S6, ρ6, acc6, dacc6, rfl, hj, r6, t6, hD6, hS6, nO6, hacc6, ex6, w6⟩
        obtain ⟨stop6, go6⟩ := it5 j S6 H6 ex6 r6.ex
        by_cases hlt6 : j < es.length
        · have hd6 : es.drop j = es[j] :: es.drop (j + 1) := List.drop_eq_getElem_cons hlt6
          rw [hd6] at w6
          obtain ⟨h1, h2⟩ := go6 es[j] (List.getElem?_eq_getElem hlt6)
          refine .inr ⟨h1, fun H2 => ∃ S2 ρ2 acc2 dacc2, Rel K fi fa (wipe σ3 vs1) H2 S2 (wipeS ρ2 vs1) ∧ Tr σ H1 S1 ρ1 (wipe σ3 vs1) H2 S2 (wipeS ρ2 vs1) ∧ H2 Dd = some (.lst acc2) ∧ S2 Dd = none ∧ ¬ Owned (wipe σ3 vs1) (wipeS ρ2 vs1) Dd ∧ Dens K S2 acc2 dacc2 ∧ Ex S5 S2 ∧
            lcGo g1 ft1 fe vs1 (es.drop (j + 1)) dacc2 (wipeS ρ2 vs1) (fun acc' ρ4 => lc2Go g ft fit1 g1 ft1 fe vs vs1 (ds.drop (i + 1)) acc' (wipeS ρ4 vs) fun acc ρ2 => P (.lst acc) ρ2),
            fun H2 ⟨S2, ρ2, acc2, dacc2, h⟩ => ⟨es.length - (j + 1), by omega, S2, ρ2, acc2, dacc2, rfl, hlt6, h⟩, fun x7 H7 hy7 => ?_⟩
          obtain ⟨S7, gr7, den7⟩ := h2 x7 H7 hy7
          have T7 := t6.trans (gr7.tr (σ := wipe σ3 vs1) (ρ := wipeS ρ6 vs1))
          obtain ⟨a1, a2, a3⟩ := (gr7.tr (σ := wipe σ3 vs1) (ρ := wipeS ρ6 vs1)).hides hD6 hS6 nO6 (fun _ => HO.noConfusion)
          refine ⟨S7, wipeS ρ6 vs1, es[j], _, r6.grow gr7, den7, w6, fun σ8 H8 S8 ρ8 hP8 r8 t8 sb8 => ?_⟩
          have hsame8 : ∀ j, j ∉ vs1 → σ8[j]? = (wipe σ3 vs1)[j]? := fun j hj => sb8.2 j fun z => hj (hw1 j z)
          have e8 : wipe σ8 vs1 = wipe σ3 vs1 := by
            rw [wipe_ext sb8.1 hsame8]
            exact wipe_ext (wipe_length σ3 vs1) same1
          obtain ⟨b1, b2, b3⟩ := t8.hides a1 a2 a3 (fun _ => HO.noConfusion)
          refine ⟨e8, S8, ρ8, _, r8, hP8, fun b H9 S9 ρ9 hP9 r9 t9 => ?_⟩
          obtain ⟨c1, c2, c3⟩ := t9.hides b1 b2 b3 (fun _ => HO.noConfusion)
          have ex9 : Ex S6 S9 := (gr7.s.trans t8.exS).trans t9.exS
          cases b with
          | true =>
            refine iteT ⟨S9, ρ9, _, r9, by simpa using hP9, fun y HA SA dA ρA hPA rA tA denA => ?_⟩
            obtain ⟨f1, f2, f3⟩ := tA.hides c1 c2 c3 (fun _ => HO.noConfusion)
            refine ⟨acc6, f1, sz_lt (by rw [hacc6.length]; exact hPA.1), SA, ρA, acc6 ++ [y], dacc6 ++ [dA], ?_, ?_, upd_same, f2, ?_, (hacc6.mono (ex9.trans tA.exS)).snoc denA, ex6.trans (ex9.trans tA.exS), hPA.2⟩
            · have := (rA.hid (o := .lst (acc6 ++ [y])) f2 f3).wipe vs1 hvf1
              rw [e8] at this; exact this
            · have t := (((T7.trans t8).trans t9).trans tA).hid (p := Dd) (o := .lst (acc6 ++ [y])) hD
              have := t.trans (Tr.wipe vs1)
              rw [e8] at this; exact this
            · exact not_owned_wipe (S := SA) e8 f1 f3
          | false =>
            refine iteF ⟨S9, ρ9, acc6, dacc6, ?_, ?_, c1, c2, not_owned_wipe (S := S9) e8 c1 c3, hacc6.mono ex9, ex6.trans ex9, by simpa using hP9⟩
            · have := r9.wipe vs1 hvf1
              rw [e8] at this; exact this
            · have := ((T7.trans t8).trans t9).trans (Tr.wipe vs1)
              rw [e8] at this; exact this
        · have hl : es.length ≤ j := Nat.le_of_not_lt hlt6
          rw [List.drop_eq_nil_of_le hl] at w6
          refine .inl ⟨stop6 hl, S6, wipeS ρ6 vs1, acc6, dacc6, ?_, ?_, hD6, hS6, not_owned_wipe (S := S6) e13 hD6 nO6, hacc6, w6⟩
          · have := r6.wipe vs hv
            rw [e13] at this; exact this
          · have := t6.trans (Tr.wipe vs)
            rw [e13] at this; exact this
      | false =>
        refine iteF ⟨S4, ρ4, acc, dacc, ?_, ?_, m1, m2, not_owned_wipe (S := S4) e3 m1 m3, hacc.mono ex4, by simpa using hP4⟩
        · have := r4.wipe vs hv
          rw [e3] at this; exact this
        · have := ((T2.trans t3).trans t4).trans (Tr.wipe vs)
          rw [e3] at this; exact this
    · have hl : ds.length ≤ i := Nat.le_of_not_lt hlt
      rw [List.drop_eq_nil_of_le hl] at w
      have r2 := Rel.unwipe (wipe_length σ vs) same hv r'
      have t2 := Tr.unwipe same t'
      refine .inl ⟨stop hl, k _ H' S' _ _ w r2 (t1.trans t2) ⟨Dd, _, rfl, .inl (t1.dom Dd hD), hSd, fun h => ?_, hDd, hacc⟩⟩
      exact (t2.owned Dd h).elim (fun ⟨j, d, h1, h2⟩ => by
        obtain ⟨q, u, e1, e2, e3, e4⟩ := r1.own j d h1
        rw [h2] at e1
        cases e1
        rw [hD] at e3
        cases e3) fun z => by
        obtain ⟨j, d, h1, h2⟩ := h
        have hj : j ∉ vs := fun z => by have := wipeS_get z _ h1; cases this
        exact nOd ⟨j, d, h1, by rw [same j hj]; exact h2⟩
theorem pf_lc2 {scope : Scope} (own : List (Str × Nat)) (vs1 : List Nat) {ws ws1 : List Nat} (hN : X.N.Nodup) (hi : PID X fi fa tg iter fit) (ok : BlkOk X.N X.env.scope scope own)
    (hg : ∀ (s : Shared) (H : Hp) (C : Addr) (cl : List (Str × Addr)) (fp : List Addr), PGD (Blk X s H scope cl C fp) fi fa tg ws g)
    (ht : ∀ (s : Shared) (H : Hp) (C : Addr) (cl : List (Str × Addr)) (fp : List Addr), PTsD (Blk X s H scope cl C fp) fi fa ifs ft)
    (hi1 : ∀ (s : Shared) (H : Hp) (C : Addr) (cl : List (Str × Addr)) (fp : List Addr), PID (Blk X s H scope cl C fp) fi fa tg1 iter1 fit1)
    (hg1 : ∀ (s : Shared) (H : Hp) (C : Addr) (cl : List (Str × Addr)) (fp : List Addr), PGD (Blk X s H scope cl C fp) fi fa tg1 ws1 g1)
    (ht1 : ∀ (s : Shared) (H : Hp) (C : Addr) (cl : List (Str × Addr)) (fp : List Addr), PTsD (Blk X s H scope cl C fp) fi fa ifs1 ft1)
    (he : ∀ (s : Shared) (H : Hp) (C : Addr) (cl : List (Str × Addr)) (fp : List Addr), PED (Blk X s H scope cl C fp) fi fa elt fe)
    (hc : X.calm = true := by rfl) (hs : ∀ x, foldedSetIterable iter X.env x = pure x := by intro _; rfl) (hs1 : ∀ env x, foldedSetIterable iter1 env x = pure x := by intro _ _; rfl)
    (hv : (own.map (·.2)).all (fun i => !fi.contains i) = true := by rfl) (hw : ws.all (fun i => (own.map (·.2)).contains i) = true := by rfl) (hv1 : vs1.all (fun i => (own.map (·.2)).contains i) = true := by rfl) (hw1 : ws1.all (fun i => vs1.contains i) = true := by rfl) :
    PEF X fi fa (.ListComp elt [⟨tg, iter, ifs, 0⟩, ⟨tg1, iter1, ifs1, 0⟩] scope pos) (fLc2 fit g ft fit1 g1 ft1 fe (own.map (·.2)) vs1) := by
  obtain ⟨ti, p, oi⟩ := hi
  refine ⟨_, pe_lc2 (vs1 := vs1) (g := uG X.K fi fa ws g) (tt := uT X.K fi fa ft) (wi1 := uI X.K fi fa fit1) (g1 := uG X.K fi fa ws1 g1) (tt1 := uT X.K fi fa ft1) (te := uE X.K fi fa fe) hc hN p ok (allin_of hv1)
    (fun s H C cl fp => (hg s H C cl fp).uni) (fun s H C cl fp => (ht s H C cl fp).uni) (fun s H C cl fp => (hi1 s H C cl fp).uni) (fun s H C cl fp => (hg1 s H C cl fp).uni) (fun s H C cl fp => (ht1 s H C cl fp).uni) (fun s H C cl fp => (he s H C cl fp).uni) hs hs1, ?_⟩
  exact ok_lc2 oi (notin_of hv) (allin_of hw) (allin_of hv1) (allin_of hw1)
end

/-! ### x & y, x + y, .. of two instances of one class -/
/-- the class is the first of its own line -/
def SelfOk (K : PySem.W.Frag) (cn : Str) : Prop := ∀ C, ClsAt K cn C → PySem.W.selfFirst K C = true
/-- both are instances of a class of the table -/
def bothT (tbl : List (Str × GD)) (x y : D) (k : GD → Prop) : Prop := match x, y with
  | .obj cn _ _, .obj cn' _ _ => cn = cn' ∧ ∃ g, (cn, g) ∈ tbl ∧ k g
  | _, _ => False
theorem bothT_inv {tbl : List (Str × GD)} {x y : D} {k : GD → Prop} (h : bothT tbl x y k) : ∃ cn ns vs ns' vs' g, x = .obj cn ns vs ∧ y = .obj cn ns' vs' ∧ (cn, g) ∈ tbl ∧ k g := by
  unfold bothT at h
  split at h
  · obtain ⟨rfl, g, b, c⟩ := h
    exact ⟨_, _, _, _, _, g, rfl, rfl, b, c⟩
  · exact h.elim
def gBinO (tbl : List (Str × GD)) (x y : D) (P : D → Prop) : Prop := bothT tbl x y fun g => g [x, y] P
theorem relV_ni {v : V} {u : Value} (h : RelV v u) : u ≠ .notImplemented := fun e => by subst e; cases v <;> first | exact Value.noConfusion h | (obtain ⟨_, h⟩ := h; exact Value.noConfusion h) | exact h
def rOwn2 (X : Cx) (L : Nat) (m : Str) (x y : V) (H : Hp) (Q : VK) : Prop := ∃ (a C dx : Addr) (fs : List (Str × V)) (b dy : Addr) (fs' : List (Str × V)) (f : Addr) (fd : FuncData) (ps : List Str) (sp : Sp), x = .ref a ∧ H a = some (.ins C dx fs) ∧ y = .ref b ∧ H b = some (.ins C dy fs') ∧ Cls X.K C ∧ Meth X.K C m f ∧
  PySem.W.selfFirst X.K C = true ∧ FnOk X.prog X.w X.K X.mg X.base CX0 L f fd ps sp ∧ Binds X.K fd ps [] ∧ sp [x, y] H Q E0
section
variable {X : Cx} {L : Nat} {tbl : List (Str × GD)}
theorem op_binO (op : Operator) (hr : Room L X.A) : OpR X (binaryOp op) (fun x y H Q => rOwn2 X L (PySem.dunder op.info.2) x y H Q) := by
  intro pins s σ H x y u v Q I rx ry ⟨a, C, dx, fs, b, dy, fs', f, fd, ps, sp, ex, ea, ey, eb, c, mt, sf, F, hb, h⟩
  subst ex
  subst ey
  cases (show u = Value.ref a from rx)
  cases (show v = Value.ref b from ry)
  obtain ⟨od, J⟩ := own_look I ea
  obtain ⟨od', J'⟩ := own_look I eb
  obtain ⟨m, hF⟩ := I.fr
  refine PySem.W.binop_K hF I.ok.mod.kin J J'.type sf mt.at_ mt.fn (wpAny_mono (run_mA (vs := [V.ref a, V.ref b]) F hr hb I.env0 I (.cons (show RelV (V.ref a) (Value.ref a) from rfl) (.cons (show RelV (V.ref b) (Value.ref b) from rfl) .nil)) h) (fun r s' hq => ?_) fun _ _ x => x)
  obtain ⟨z, H', I', rz, q⟩ := hq
  have hn := relV_ni rz
  unfold PySem.W.CmpBack
  split
  · exact hn rfl
  · exact ⟨z, H', I', rz, q⟩
theorem od_binO (op : Operator) (m : Str) (h : MtT X L m 1 tbl) (hs : ∀ p ∈ tbl, SelfOk X.K p.1) (hr : Room L X.A) (hm : PySem.dunder op.info.2 = m := by rfl) : OpD X (binaryOp op) (gBinO tbl) := by
  subst hm
  refine ⟨_, op_binO op hr, fun x y dx dy S H P Q ex hx hy hg k => ?_⟩
  obtain ⟨cn, ns, us, ns', us', g, rfl, rfl, hgt, h1⟩ := bothT_inv hg
  obtain ⟨ps, M⟩ := h _ hgt
  obtain ⟨C, f, fd, hC, c, mt, F, hb⟩ := M.ex
  obtain ⟨a, C', dx, ffs, rfl, hC', e1, rfl, e3⟩ := den_obj hx
  cases hC.uniq hC'
  obtain ⟨b, C'', dy, ffs', rfl, hC'', f1, rfl, f3⟩ := den_obj hy
  cases hC.uniq hC''
  exact ⟨a, C, dx, ffs, b, dy, ffs', f, fd, ps, _, rfl, ex _ _ e1, rfl, ex _ _ f1, c, mt, hs _ hgt C hC, F, hb, S, _, P, rfl, ex, .cons hx (.one hy), h1, k⟩
end
theorem selfT_nil {K : PySem.W.Frag} : ∀ p ∈ ([] : List (Str × GD)), SelfOk K p.1 := fun _ h => nomatch h
theorem selfT_cons {K : PySem.W.Frag} {cn : Str} {g : GD} {tbl : List (Str × GD)} (h : SelfOk K cn) (t : ∀ p ∈ tbl, SelfOk K p.1) : ∀ p ∈ (cn, g) :: tbl, SelfOk K p.1 := fun p hp => by
  rcases List.mem_cons.mp hp with rfl | hp
  · exact h
  · exact t p hp
def SelfF (K : PySem.W.Frag) (cn : Str) : Prop := ∃ C, ClsAt K cn C ∧ PySem.W.selfFirst K C = true
theorem selfF_mk {K : PySem.W.Frag} {cn : Str} {C : Addr} (c : PySem.W.nsIn K mainGlobals cn = some (some (.ref C))) (n : PySem.W.selfFirst K C = true) : SelfF K cn := ⟨C, c, n⟩
theorem SelfF.ok {K : PySem.W.Frag} {cn : Str} (h : SelfF K cn) : SelfOk K cn := fun C hC => by
  obtain ⟨C', c, n⟩ := h
  cases hC.uniq c
  exact n
theorem bin_one {cn : Str} {g : GD} {ns ns' : List Str} {vs vs' : List D} {P : D → Prop} : gBinO [(cn, g)] (.obj cn ns vs) (.obj cn ns' vs') P = g [.obj cn ns vs, .obj cn ns' vs'] P :=
  propext ⟨fun ⟨_, g', e, q⟩ => by cases List.mem_singleton.mp e; exact q, fun q => ⟨rfl, g, List.mem_cons_self, q⟩⟩

/-! ### built-in functions by keywords -/
def CallKD (X : Cx) (c : Value) (ks : List Str) (g : List D → List D → (D → Prop) → Prop) : Prop := ∃ r, CallRK X c ks r ∧ ∀ (xs zs : List V) (ds es : List D) (S H : Hp) (P : D → Prop) (Q : VK), Ex S H → Dens X.K S xs ds → Dens X.K S zs es → g ds es P →
  (∀ v S' H' d, P d → Gr S H S' H' → Den X.K S' v d → Q v H') → r xs zs H Q
def fCallKw (g : List D → List D → (D → Prop) → Prop) (fs fk : FA) : FE := fun ρ P => fs ρ fun ds ρ1 => fk ρ1 fun es ρ2 => g ds es fun d => P d ρ2
section
variable {X : Cx} {fi : List Nat} {fa : Nat → Addr} {e : Expr} {es : List Expr} {kws : List Keyword} {fs fk : FA} {pos p : Pos} {x : Str} {id : String} {ks : List Str} {g : List D → List D → (D → Prop) → Prop}
theorem pd_bK (hc : CallKD X (.builtin id) ks g) (hg : Gl X x) (hm : X.mg x = none) (ha : PAD X fi fa (e :: es) fs) (hk : PKD X fi fa kws fk) (hv : bootBuiltins x = some (.builtin id) := by decide +kernel) (hn : x ≠ "__name__" := by decide) (hdb : (x == ("__debug__" : Str)) = false := by decide)
    (he : backTo pos (starEach (e :: es) X.env) = (false, eval e X.env) :: backTo pos (starEach es X.env) := by rfl) (hpl : (backTo pos (starEach (e :: es) X.env)).any (·.1) = false := by rfl)
    (hall : (backToKw pos (keywordEach kws X.env)).all (·.1.isSome) = true := by rfl) (hnone : (backToKw pos (keywordEach kws X.env)).any (·.1.isNone) = false := by rfl) (hks : (backToKw pos (keywordEach kws X.env)).filterMap (·.1) = ks := by rfl) :
    PED X fi fa (.Call (.Name x p) (e :: es) kws pos) (fCallKw g fs fk) := by
  obtain ⟨r, h1, h2⟩ := hc
  obtain ⟨t, q, o⟩ := ha
  obtain ⟨tk, qk, ok⟩ := hk
  refine ⟨_, pe_callBK h1 hg hm hv q qk hn hdb he hpl hall hnone hks, fun σ H S ρ P Q rr hf k => o σ H S ρ _ _ rr hf fun vs H1 S1 ds ρ1 hf1 r1 t1 d1 => ok σ H1 S1 ρ1 _ _ r1 hf1 fun zs H2 S2 es ρ2 hf2 r2 t2 d2 => ?_⟩
  exact h2 vs zs ds es S2 H2 _ Q r2.ex (d1.mono t2.exS) d2 hf2 fun v S3 H3 d hP g3 dd => k v H3 S3 d ρ2 hP (r2.grow g3) ((t1.trans t2).trans g3.tr) dd
end

/-! ### min(xs, default=d) of data -/
def rMinDef (K : PySem.W.Frag) : List V → List V → Hp → VK → Prop := fun vs zs H Q => ∃ (a : Addr) (bs : List (V × D)) (z : V), vs = [V.ref a] ∧ zs = [z] ∧ SqL K H a (bs.map (·.1)) ∧ (∀ b ∈ bs, Dp K H b.1 (toP b.2) ∧ (toP b.2).plain = true ∧ (toP b.2).depth ≤ 60) ∧
  PySem.W.AlikeAll (bs.map fun b => toP b.2) ∧ (bs = [] → Q z H) ∧ ∀ y ys, bs.map (fun b => toP b.2) = y :: ys → ∀ b ∈ bs, toP b.2 = PySem.W.minD y ys → Q b.1 H
theorem dpAll_of {K : PySem.W.Frag} {H : Hp} : ∀ {bs : List (V × D)}, (∀ b ∈ bs, Dp K H b.1 (toP b.2)) → DpAll K H (bs.map (·.1)) (bs.map fun b => toP b.2)
  | [], _ => .nil
  | b :: bs, h => .cons (h b List.mem_cons_self) (dpAll_of fun x hx => h x (List.mem_cons_of_mem _ hx))
theorem depthAll_le : ∀ {xs : List PyData} {n : Nat}, (∀ x ∈ xs, x.depth ≤ n) → PyData.depthAll xs ≤ n
  | [], _, _ => Nat.zero_le _
  | x :: xs, n, h => Nat.max_le.mpr ⟨h x List.mem_cons_self, depthAll_le fun y hy => h y (List.mem_cons_of_mem _ hy)⟩
open PySem.W in
theorem cr_minDef {X : Cx} (hc : X.calm = true) (hu : X.A.units + 64 < cLine) : CallRK X (.builtin "min") [Str.ofString "default"] (rMinDef X.K) := by
  intro pins s σ H vs zs us ws Q I r rz h
  obtain ⟨a, bs, z, rfl, rfl, hs, hx, hal, q0, q1⟩ := h
  obtain rfl := Vals.ref1 r
  obtain ⟨w1, rfl, e1⟩ := vals1 rz
  obtain ⟨its, rv, hl, hz⟩ := I.list hs
  obtain ⟨as, rd⟩ := Dp.readsAll I _ _ _ (dpAll_of fun b hb => (hx b hb).1) rv
  have hd : PyData.depthAll (bs.map fun b => toP b.2) ≤ 60 := depthAll_le fun x hx' => by
    obtain ⟨b, hb, rfl⟩ := List.mem_map.mp hx'
    exact (hx b hb).2.2
  refine min_list_default (I.ok.hd hc) hl.isList rd hal (by omega) (fun h0 h' tk hk => ?_) (fun y ys i v h' tk bs' e hv hr hk => ?_)
  · exact ⟨z, H, I.kept (t' := tk) hk, e1, q0 (List.map_eq_nil_iff.mp h0)⟩
  · have hv' : its[i]? = some v := by rw [← hv]; simp
    have hi : i < bs.length := by
      have := (List.getElem?_eq_some_iff.mp hv').1
      have hl := rv.length
      rw [List.length_map] at hl
      omega
    have hm : bs[i] ∈ bs := List.getElem_mem hi
    obtain ⟨u, hu1, hx2⟩ := rv.get (i := i) (x := bs[i].1) (by rw [List.getElem?_map, List.getElem?_eq_getElem hi]; rfl)
    rw [hv'] at hu1
    cases hu1
    obtain ⟨as2, r2⟩ := Dp.reads I _ _ _ (hx _ hm).1 hx2
    have e2 := (PySem.Reads.unique (reads_keeps hk r2) _ _ hr).1
    exact ⟨bs[i].1, H, I.kept (t' := tk) hk, hx2, q1 y ys e _ hm e2⟩
def gMinDef : List D → List D → (D → Prop) → Prop := fun ds es P => ∃ xs e, (ds = [.lst xs] ∨ ds = [.rol xs]) ∧ es = [e] ∧ (∀ x ∈ xs, (toP x).plain = true ∧ (toP x).depth ≤ 60) ∧ PySem.W.AlikeAll (xs.map toP) ∧
  (xs = [] → P e) ∧ ∀ y ys, xs.map toP = y :: ys → ∀ x ∈ xs, toP x = PySem.W.minD y ys → P x
open PySem.W in
theorem cd_minDef {X : Cx} (hc : X.calm = true) (hu : X.A.units + 64 < cLine) : CallKD X (.builtin "min") [Str.ofString "default"] gMinDef := by
  refine ⟨_, cr_minDef hc hu, fun xs zs ds es S H P Q ex hd he hg k => ?_⟩
  obtain ⟨xs', e, e1, rfl, h1, h2, hP0, hP1⟩ := hg
  obtain ⟨z, rfl, hz⟩ : ∃ z, zs = [z] ∧ Den X.K S z e := by
    cases he with
    | cons h t => cases t; exact ⟨_, rfl, h⟩
  have : ∃ x, xs = [x] ∧ ∃ d, (d = .lst xs' ∨ d = .rol xs') ∧ Den X.K S x d := by
    rcases e1 with rfl | rfl
    · cases hd with
      | cons h t => cases t; exact ⟨_, rfl, _, .inl rfl, h⟩
    · cases hd with
      | cons h t => cases t; exact ⟨_, rfl, _, .inr rfl, h⟩
  obtain ⟨x, rfl, d, ed, hx⟩ := this
  obtain ⟨a, vs, rfl, g1, g2⟩ := den_lstR ed hx
  obtain ⟨z1, z2, z3⟩ := dens_zip g2
  have em : (vs.zip xs').map (fun b => toP b.2) = xs'.map toP := by
    rw [show (fun b : V × D => toP b.2) = toP ∘ (fun b : V × D => b.2) from rfl, ← List.map_map, z2]
  refine ⟨a, vs.zip xs', z, rfl, rfl, by rw [z1]; exact ex.l g1, fun b hb => ?_, by rw [em]; exact h2, fun h0 => ?_, fun y ys ey b hb eb => ?_⟩
  · have hm : b.2 ∈ xs' := by rw [← z2]; exact List.mem_map.mpr ⟨b, hb, rfl⟩
    obtain ⟨a1, a2⟩ := h1 b.2 hm
    exact ⟨den_dp b.2 b.1 a1 ((z3 b hb).mono ex), a1, a2⟩
  · refine k z S H e (hP0 ?_) (Gr.refl ex) hz
    rw [← z2, h0]; rfl
  · rw [em] at ey
    have hm : b.2 ∈ xs' := by rw [← z2]; exact List.mem_map.mpr ⟨b, hb, rfl⟩
    exact k b.1 S H b.2 (hP1 y ys ey b.2 hm eb) (Gr.refl ex) (z3 b hb)
/-! ### x <= y of tuples of ints -/
theorem lexAt_shift {e r : Nat → Bool} {z : Bool} : ∀ (k i : Nat), Ob.lexAt (fun j => e (j + 1)) (fun j => r (j + 1)) z i k = Ob.lexAt e r z (i + 1) k
  | 0, _ => rfl
  | k + 1, i => by
    rw [Ob.lexAt_succ, Ob.lexAt_succ, lexAt_shift k (i + 1)]
theorem lexAt_lt : ∀ ns ms : List Int, Ob.lexAt (fun j => decide (ns.getD j 0 = ms.getD j 0)) (fun j => decide (ns.getD j 0 ≤ ms.getD j 0)) (decide (ns.length ≤ ms.length)) 0 (min ns.length ms.length) = !HT.lexLt ms ns
  | [], ms => by
    rw [List.length_nil, Nat.zero_min, Ob.lexAt_zero, decide_eq_true (Nat.zero_le _)]
    cases ms <;> rfl
  | x :: ns, [] => by
    rw [List.length_nil, Nat.min_zero, Ob.lexAt_zero, decide_eq_false (by rw [List.length_cons]; omega)]
    rfl
  | x :: ns, y :: ms => by
    have ih := lexAt_lt ns ms
    have e0 : min (x :: ns).length (y :: ms).length = min ns.length ms.length + 1 := by rw [List.length_cons, List.length_cons]; omega
    have e1 : decide ((x :: ns).length ≤ (y :: ms).length) = decide (ns.length ≤ ms.length) := decide_eq_decide.mpr (by rw [List.length_cons, List.length_cons]; omega)
    rw [e0, e1, Ob.lexAt_succ, ← lexAt_shift]
    show (if decide (x = y) = true then Ob.lexAt (fun j => decide (ns.getD j 0 = ms.getD j 0)) (fun j => decide (ns.getD j 0 ≤ ms.getD j 0)) (decide (ns.length ≤ ms.length)) 0 (min ns.length ms.length) else decide (x ≤ y)) = _
    rw [ih, HT.lexLt_cons]
    by_cases h : x = y
    · subst h
      rw [decide_eq_true rfl, if_pos rfl]
      simp
    · rw [decide_eq_false h, if_neg Bool.false_ne_true]
      by_cases h2 : x ≤ y
      · rw [decide_eq_true h2, if_neg (by omega : ¬ y = x)]
        simp
        try omega
      · rw [decide_eq_false h2, if_neg (by omega : ¬ y = x)]
        simp
        try omega
def gLeT (x y : D) (P : D → Prop) : Prop := match x, y with
  | .tup xs, .tup ys => intsD xs fun is => intsD ys fun js => P (.bl (!HT.lexLt js is))
  | _, _ => False
theorem od_leT {X : Cx} (hu : X.A.units + 64 < cLine) : OpD X (compareOp .LtE) gLeT := by
  refine ⟨_, op_leT (by omega), fun x y dx dy S H P Q ex hx hy hg k => ?_⟩
  unfold gLeT at hg
  split at hg
  · obtain ⟨p, xs, rfl, h1, h2⟩ := den_tup hx
    obtain ⟨q, ys, rfl, h3, h4⟩ := den_tup hy
    obtain ⟨is, e1, _, hg⟩ := intsD_inv hg h2
    obtain ⟨js, e2, _, hg⟩ := intsD_inv hg h4
    subst e1
    subst e2
    refine ⟨p, q, is, js, rfl, rfl, SqT.of (ex _ _ h1), SqT.of (ex _ _ h3), ?_⟩
    rw [lexAt_lt]
    exact k _ S H _ hg (Gr.refl ex) (.bl _)
  · exact hg.elim
end DL

/-! DLH: a comprehension over an owned list; defs that change several of their arguments. -/
namespace DL
open PySem PySem.Spec PyProof.Rows L2
variable [HW]

/-! ### a comprehension over an owned list, which stays owned -/
def gO (j : Nat) (ds0 : List D) (g : FG) : FG := fun d ρ P => ρ[j]? = some (.own (.lst ds0)) ∧ g d ρ P
def fLcO (j : Nat) (g : FG) (t : FT) (fe : FE) (vs : List Nat) : FE := fun ρ P => ownD ρ j fun c => lstO c fun ds => lcGo (gO j ds g) t fe vs ds [] (wipeS ρ vs) fun acc ρ2 => ρ2[j]? = some (.own (.lst ds)) ∧ P (.lst acc) ρ2
section
variable {X : Cx} {fi : List Nat} {fa : Nat → Addr} {e a b tg elt : Expr} {ifs : List Expr} {fe : FE} {ft : FT} {pos px : Pos} {g : FG} {ws : List Nat} {x : Str}
theorem lstO_is {d : D} {P : List D → Prop} (h : lstO d P) : ∃ ds, d = .lst ds ∧ P ds := by
  unfold lstO at h
  split at h
  · exact ⟨_, rfl, h⟩
  · exact h.elim
theorem hod_lst {K : PySem.W.Frag} {S : Hp} {o : HO} {ds : List D} (h : HOD K S o (.lst ds)) : ∃ xs, o = .lst xs ∧ Dens K S xs ds := by
  cases o <;> first | exact ⟨_, rfl, h⟩ | exact (show False from h).elim
theorem ok_lcO {K : PySem.W.Frag} (j : Nat) {ws vs : List Nat} (hj : j ∉ vs) (hv : ∀ i ∈ vs, i ∉ fi) (hw : ∀ i ∈ ws, i ∈ vs) : OkF K fi fa (tLc (iList K (tVar j)) (uG K fi fa ws g) (uT K fi fa ft) (uE K fi fa fe) vs) (fLcO j g ft fe vs) := by
  intro σ H S ρ P Q r hf k
  obtain ⟨c, hc, hf⟩ := ownD_inv hf
  obtain ⟨ds, rfl, hf⟩ := lstO_is hf
  obtain ⟨p, o, e1, e2, e3, e4⟩ := r.own j _ hc
  obtain ⟨xs, rfl, hxs⟩ := hod_lst e4
  refine ⟨_, e1, p, rfl, ⟨xs, SqL.of e3⟩, fun Dd hD => ?_⟩
  have same : ∀ i, i ∉ vs → (wipe σ vs)[i]? = σ[i]? := fun i hi => wipe_get hi
  -- where the list stands
  have here : ∀ (H' S' : Hp) (ρ' : List Sl), Rel K fi fa (wipe σ vs) H' S' (wipeS ρ' vs) → (wipeS ρ' vs)[j]? = some (.own (.lst ds)) → ∃ xs, SqL K H' p xs ∧ Dens K S' xs ds := fun H' S' ρ' r' h => by
    obtain ⟨q, o, f1, f2, f3, f4⟩ := r'.own j _ h
    rw [same j hj, e1] at f1
    cases f1
    obtain ⟨xs, rfl, hxs⟩ := hod_lst f4
    exact ⟨xs, SqL.of f3, hxs⟩
  refine ⟨fun i m H' => ∃ S' ρ' acc dacc, m = ds.length - i ∧ i ≤ ds.length ∧ Rel K fi fa (wipe σ vs) H' S' (wipeS ρ' vs) ∧ Tr σ H S ρ (wipe σ vs) H' S' (wipeS ρ' vs) ∧ H' Dd = some (.lst acc) ∧ S' Dd = none ∧ ¬ Owned (wipe σ vs) (wipeS ρ' vs) Dd ∧ Dens K S' acc dacc ∧
    lcGo (gO j ds g) ft fe vs (ds.drop i) dacc (wipeS ρ' vs) (fun acc ρ2 => ρ2[j]? = some (.own (.lst ds)) ∧ P (.lst acc) ρ2), ⟨_, S, ρ, [], [], rfl, Nat.zero_le _, ?_⟩, ?_⟩
  · have g0 : Gr S H S (upd H Dd (.lst [])) := Gr.hid r.ex hD
    have rw0 := (r.grow g0).wipe vs hv
    refine ⟨rw0, (g0.tr (ρ := ρ) (σ := σ)).trans (Tr.wipe vs), upd_same, r.ex.free hD, fun ⟨i, d, h1, h2⟩ => ?_, .nil, by rw [List.drop_zero]; exact hf⟩
    obtain ⟨q, u, e1, e2, e3, e4⟩ := (r.wipe vs hv).own i d h1
    rw [h2] at e1
    cases e1
    rw [hD] at e3
    cases e3
  · rintro i m H' ⟨S', ρ', acc, dacc, rfl, hi', r', t', hDd, hSd, nOd, hacc, w⟩
    by_cases hlt : i < ds.length
    · have hd : ds.drop i = ds[i] :: ds.drop (i + 1) := List.drop_eq_getElem_cons hlt
      rw [hd] at w
      obtain ⟨w0, w⟩ : (wipeS ρ' vs)[j]? = some (.own (.lst ds)) ∧ g ds[i] (wipeS ρ' vs) _ := w
      obtain ⟨xs', hq, hxs'⟩ := here H' S' ρ' r' w0
      obtain ⟨v, hv', den⟩ := hxs'.get (List.getElem?_eq_getElem hlt)
      refine .inr ⟨⟨xs', v, hq, hv'⟩, fun H2 => ∃ S2 ρ2 acc2 dacc2, Rel K fi fa (wipe σ vs) H2 S2 (wipeS ρ2 vs) ∧ Tr σ H S ρ (wipe σ vs) H2 S2 (wipeS ρ2 vs) ∧ H2 Dd = some (.lst acc2) ∧ S2 Dd = none ∧ ¬ Owned (wipe σ vs) (wipeS ρ2 vs) Dd ∧ Dens K S2 acc2 dacc2 ∧
        lcGo (gO j ds g) ft fe vs (ds.drop (i + 1)) dacc2 (wipeS ρ2 vs) (fun acc ρ2 => ρ2[j]? = some (.own (.lst ds)) ∧ P (.lst acc) ρ2), fun H2 ⟨S2, ρ2, acc2, dacc2, h⟩ => ⟨ds.length - (i + 1), by omega, S2, ρ2, acc2, dacc2, rfl, hlt, h⟩, fun x H'' hy => ?_⟩
      obtain ⟨rfl, hy⟩ := hy
      have hx := hy xs' hq
      rw [hv'] at hx
      cases hx
      refine ⟨S', wipeS ρ' vs, ds[i], _, r', den, w, fun σ3 H3 S3 ρ3 hP3 r3 t3 sb => ?_⟩
      have hsame3 : ∀ j, j ∉ vs → σ3[j]? = (wipe σ vs)[j]? := fun j hj => sb.2 j fun z => hj (hw j z)
      have e3 : wipe σ3 vs = wipe σ vs := by
        rw [wipe_ext sb.1 hsame3]
        exact wipe_ext (wipe_length σ vs) same
      obtain ⟨l1, l2, l3⟩ := t3.hides hDd hSd nOd (fun _ => HO.noConfusion)
      refine ⟨e3, S3, ρ3, _, r3, hP3, fun b H4 S4 ρ4 hP4 r4 t4 => ?_⟩
      obtain ⟨m1, m2, m3⟩ := t4.hides l1 l2 l3 (fun _ => HO.noConfusion)
      cases b with
      | true =>
        refine iteT ⟨S4, ρ4, _, r4, by simpa using hP4, fun y H5 S5 d5 ρ5 hP5 r5 t5 den5 => ?_⟩
        obtain ⟨n1, n2, n3⟩ := t5.hides m1 m2 m3 (fun _ => HO.noConfusion)
        have ex5 : Ex S' S5 := (t3.exS.trans t4.exS).trans t5.exS
        refine ⟨acc, n1, sz_lt (by rw [hacc.length]; exact hP5.1), S5, ρ5, acc ++ [y], dacc ++ [d5], ?_, ?_, upd_same, n2, not_owned_wipe (S := S5) e3 n1 n3, (hacc.mono ex5).snoc den5, hP5.2⟩
        · have := (r5.hid (o := .lst (acc ++ [y])) n2 n3).wipe vs hv
          rw [e3] at this; exact this
        · have t := (((t'.trans t3).trans t4).trans t5).hid (p := Dd) (o := .lst (acc ++ [y])) hD
          have := t.trans (Tr.wipe vs)
          rw [e3] at this; exact this
      | false =>
        refine iteF ⟨S4, ρ4, acc, dacc, ?_, ?_, m1, m2, not_owned_wipe (S := S4) e3 m1 m3, hacc.mono (t3.exS.trans t4.exS), by simpa using hP4⟩
        · have := r4.wipe vs hv
          rw [e3] at this; exact this
        · have := ((t'.trans t3).trans t4).trans (Tr.wipe vs)
          rw [e3] at this; exact this
    · have hl : ds.length ≤ i := Nat.le_of_not_lt hlt
      rw [List.drop_eq_nil_of_le hl] at w
      obtain ⟨w0, w⟩ : (wipeS ρ' vs)[j]? = some (.own (.lst ds)) ∧ P (.lst dacc) (wipeS ρ' vs) := w
      obtain ⟨xs', hq, hxs'⟩ := here H' S' ρ' r' w0
      have r2 := Rel.unwipe (wipe_length σ vs) same hv r'
      have t2 := Tr.unwipe same t'
      refine .inl ⟨⟨xs', hq, by rw [hxs'.length]; exact hl⟩, k _ H' S' _ _ w r2 t2 ⟨Dd, _, rfl, .inl hD, hSd, fun h => ?_, hDd, hacc⟩⟩
      exact (t2.owned Dd h).elim (fun ⟨j, d, h1, h2⟩ => by
        obtain ⟨q, u, e1, e2, e3, e4⟩ := r.own j d h1
        rw [h2] at e1
        cases e1
        rw [hD] at e3
        cases e3) fun z => by
        obtain ⟨j, d, h1, h2⟩ := h
        have hj : j ∉ vs := fun z => by have := wipeS_get z _ h1; cases this
        exact nOd ⟨j, d, h1, by rw [same j hj]; exact h2⟩
theorem pf_lcO (j : Nat) {scope : Scope} (own : List (Str × Nat)) (hN0 : X.N.Nodup) (ok : BlkOk X.N X.env.scope scope own)
    (hg : ∀ (s : Shared) (H : Hp) (C : Addr) (cl : List (Str × Addr)) (fp : List Addr), PGD (Blk X s H scope cl C fp) fi fa tg ws g)
    (ht : ∀ (s : Shared) (H : Hp) (C : Addr) (cl : List (Str × Addr)) (fp : List Addr), PTsD (Blk X s H scope cl C fp) fi fa ifs ft)
    (he : ∀ (s : Shared) (H : Hp) (C : Addr) (cl : List (Str × Addr)) (fp : List Addr), PED (Blk X s H scope cl C fp) fi fa elt fe)
    (hc : X.calm = true := by rfl) (hN : X.N[j]? = some x := by rfl) (hvis : Vis X.env.scope x := by first | exact Or.inl rfl | exact Or.inr (Or.inl rfl) | exact Or.inr (Or.inr rfl)) (hd : (x == ("__debug__" : Str)) = false := by decide)
    (hcd : (x == ("__classdict__" : Str)) = false := by decide)
    (hs : ∀ y, foldedSetIterable (.Name x px) X.env y = pure y := by intro _; rfl) (hv : (own.map (·.2)).all (fun i => !fi.contains i) = true := by rfl) (hw : ws.all (fun i => (own.map (·.2)).contains i) = true := by rfl) (hj : (own.map (·.2)).contains j = false := by rfl) :
    PEF X fi fa (.ListComp elt [⟨tg, .Name x px, ifs, 0⟩] scope pos) (fLcO j g ft fe (own.map (·.2))) := by
  refine ⟨_, pe_lc (g := uG X.K fi fa ws g) (tt := uT X.K fi fa ft) (te := uE X.K fi fa fe) hc hN0 (pi_list (pv j hN hvis hd hcd)) ok (fun s H C cl fp => (hg s H C cl fp).uni) (fun s H C cl fp => (ht s H C cl fp).uni) (fun s H C cl fp => (he s H C cl fp).uni) hs, ?_⟩
  exact ok_lcO j (fun z => by rw [List.contains_iff_mem.mpr z] at hj; cases hj) (notin_of hv) (allin_of hw)
end

/-! ### defs that change several of their arguments -/
def ownsL (ρ : List Sl) : List Nat → (List D → Prop) → Prop
  | [], k => k []
  | i :: is, k => ownD ρ i fun c => ownsL ρ is fun cs => k (c :: cs)
def setOwns : List Sl → List Nat → List D → List Sl
  | ρ, i :: is, c :: cs => setOwns (ρ.set i (.own c)) is cs
  | ρ, _, _ => ρ
def AtOwn (ρ : List Sl) (is : List Nat) (cs : List D) : Prop := cs.length = is.length ∧ ∀ (n i : Nat) (c : D), is[n]? = some i → cs[n]? = some c → ρ[i]? = some (.own c)
theorem ownsL_inv {ρ : List Sl} : ∀ {is : List Nat} {k : List D → Prop}, ownsL ρ is k → ∃ cs, AtOwn ρ is cs ∧ k cs
  | [], k, h => ⟨[], ⟨rfl, fun n i c e => by simp at e⟩, h⟩
  | i :: is, k, h => by
    obtain ⟨c, h1, h⟩ := ownD_inv h
    obtain ⟨cs, ⟨l, a⟩, h2⟩ := ownsL_inv h
    refine ⟨c :: cs, ⟨by rw [List.length_cons, List.length_cons, l], fun n j d e1 e2 => ?_⟩, h2⟩
    cases n with
    | zero => cases e1; cases e2; exact h1
    | succ n => exact a n j d e1 e2
theorem AtOwn.tail {ρ : List Sl} {i : Nat} {is : List Nat} {cs : List D} (h : AtOwn ρ (i :: is) cs) : ∃ c cs', cs = c :: cs' ∧ ρ[i]? = some (.own c) ∧ AtOwn ρ is cs' := by
  obtain ⟨l, a⟩ := h
  cases cs with
  | nil => cases l
  | cons c cs => exact ⟨c, cs, rfl, a 0 i c rfl rfl, Nat.succ.inj l, fun n j d e1 e2 => a (n + 1) j d e1 e2⟩
theorem setOwns_len : ∀ (is : List Nat) (ρ : List Sl) (cs : List D), (setOwns ρ is cs).length = ρ.length
  | [], _, _ => rfl
  | _ :: _, _, [] => rfl
  | i :: is, ρ, c :: cs => by
    show (setOwns (ρ.set i (.own c)) is cs).length = _
    rw [setOwns_len is, List.length_set]
theorem setOwns_nil (ρ : List Sl) (cs : List D) : setOwns ρ [] cs = ρ := rfl
theorem setOwns_out : ∀ (is : List Nat) (ρ : List Sl) (cs : List D) (j : Nat), j ∉ is → (setOwns ρ is cs)[j]? = ρ[j]?
  | [], ρ, cs, _, _ => by rw [setOwns_nil]
  | _ :: _, _, [], _, _ => rfl
  | i :: is, ρ, c :: cs, j, h => by
    show (setOwns (ρ.set i (.own c)) is cs)[j]? = _
    rw [setOwns_out is _ cs j fun z => h (List.mem_cons_of_mem _ z)]
    exact get_set_ne fun z => h (by rw [z]; exact List.mem_cons_self)
theorem setOwns_in : ∀ (is : List Nat) (ρ : List Sl) (cs : List D) (n i : Nat) (c : D), is.Nodup → i < ρ.length → is[n]? = some i → cs[n]? = some c → (setOwns ρ is cs)[i]? = some (.own c)
  | [], _, _, n, _, _, _, _, e, _ => by simp at e
  | _ :: _, _, [], n, _, _, _, _, _, e => by simp at e
  | i0 :: is, ρ, c0 :: cs, 0, i, c, hn, hl, e1, e2 => by
    cases e1
    cases e2
    show (setOwns (ρ.set i0 (.own c0)) is cs)[i0]? = _
    rw [setOwns_out is _ cs i0 (List.nodup_cons.mp hn).1, List.getElem?_set_self hl]
  | i0 :: is, ρ, c0 :: cs, n + 1, i, c, hn, hl, e1, e2 => setOwns_in is _ cs n i c (List.nodup_cons.mp hn).2 (by rw [List.length_set]; exact hl) e1 e2
/-- objects that are owned, with their contents -/
def OwnsH (K : PySem.W.Frag) (S H : Hp) (qs : List Addr) (cs : List D) : Prop := cs.length = qs.length ∧ ∀ (n : Nat) (p : Addr) (c : D), qs[n]? = some p → cs[n]? = some c → ∃ o, H p = some o ∧ S p = none ∧ HOD K S o c
abbrev GM := List D → List D → (D → List D → Prop) → Prop
def spM (K : PySem.W.Frag) (m n : Nat) (g : GM) : Sp := fun vs H Q _ => ∃ (S : Hp) (qs : List Addr) (ws : List V) (cs ds : List D) (P : D → List D → Prop), vs = qs.map V.ref ++ ws ∧ qs.length = m ∧ ds.length = n ∧ qs.Nodup ∧ Ex S H ∧ OwnsH K S H qs cs ∧ Dens K S ws ds ∧ g cs ds P ∧
  ∀ v S' H' d cs', P d cs' → Ex S S' → Ex S' H' → (∀ a u, a ∉ qs → H a = some u → H' a = some u) → (∀ a, S' a ≠ none → S a ≠ none ∨ H a = none ∨ ∃ xs, H a = some (.tup xs)) → OwnsH K S' H' qs cs' → Den K S' v d → Q v H'
section
variable {X : Cx} {fi : List Nat} {fa : Nat → Addr} {e : Expr} {es : List Expr} {fs : FA} {pos p : Pos} {CX : CXT} {k n m : Nat} {f : Addr} {fd : FuncData} {ps : List Str} {E : XK} {x : Str}
/-- arguments of which the first are names of owned things -/
def OkAM (K : PySem.W.Frag) (fi : List Nat) (fa : Nat → Addr) (is : List Nat) (ta : TA) (fs : FA) : Prop := ∀ (σ : L2.St) (H S : Hp) (ρ : List Sl) (cs : List D) (P : List D → List Sl → Prop) (Q : List V → Hp → Prop), Rel K fi fa σ H S ρ → AtOwn ρ is cs → fs ρ P →
  (∀ (qs : List Addr) vs H' S' ds ρ', qs.length = is.length → (∀ (n i : Nat), is[n]? = some i → ∃ q, qs[n]? = some q ∧ σ[i]? = some (some (.ref q))) → P ds ρ' → Rel K fi fa σ H' S' ρ' → Tr σ H S ρ σ H' S' ρ' → Dens K S' vs ds → Q (qs.map V.ref ++ vs) H') → ta σ H Q
def PAM (X : Cx) (fi : List Nat) (fa : Nat → Addr) (is : List Nat) (es : List Expr) (fs : FA) : Prop := ∃ t, PA X es t ∧ OkAM X.K fi fa is t fs
theorem pam_nil (h : PAD X fi fa es fs) : PAM X fi fa [] es fs := by
  obtain ⟨t, q, o⟩ := h
  exact ⟨t, q, fun σ H S ρ cs P Q r _ hf k => o σ H S ρ P Q r hf fun vs H' S' ds ρ' hP r' t' hd => k [] vs H' S' ds ρ' rfl (fun n i e => by simp at e) hP r' t' hd⟩
theorem pam_cons (i : Nat) {is : List Nat} {y : Str} {py : Pos} (h : PAM X fi fa is es fs) (hN : X.N[i]? = some y := by rfl) (hv : Vis X.env.scope y := by first | exact Or.inl rfl | exact Or.inr (Or.inl rfl) | exact Or.inr (Or.inr rfl)) (hd : (y == ("__debug__" : Str)) = false := by decide)
    (hcd : (y == ("__classdict__" : Str)) = false := by decide) (hs : starEach (Expr.Name y py :: es) X.env = (false, eval (Expr.Name y py) X.env) :: starEach es X.env := by rfl) : PAM X fi fa (i :: is) (.Name y py :: es) fs := by
  obtain ⟨t, q, o⟩ := h
  refine ⟨_, pa_cons (pv i hN hv hd hcd) q hs, fun σ H S ρ cs P Q r ao hf k => ?_⟩
  obtain ⟨c, cs', rfl, h1, ao'⟩ := ao.tail
  obtain ⟨p, u, e1, e2, e3, e4⟩ := r.own i c h1
  refine ⟨_, e1, o σ H S ρ cs' P _ r ao' hf fun qs vs H' S' ds ρ' hl hq hP r' t' hd => ?_⟩
  refine k (p :: qs) vs H' S' ds ρ' (by rw [List.length_cons, List.length_cons, hl]) (fun n j e => ?_) hP r' t' hd
  cases n with
  | zero => cases e; exact ⟨p, rfl, e1⟩
  | succ n => exact hq n j e
def fCallM (is : List Nat) (n : Nat) (g : GM) (fs : FA) : FE := fun ρ P => ownsL ρ is fun _ => fs ρ fun ds ρ1 => ds.length = n ∧ ownsL ρ1 is fun cs => g cs ds fun d cs' => P d (setOwns ρ1 is cs')
theorem ok_callM {K : PySem.W.Frag} {g : GM} {ta : TA} {is : List Nat} (hnd : is.Nodup) (hm : is.length = m) (ha : OkAM K fi fa is ta fs) : OkE K fi fa (tCall (spM K m n g) [] E ta) (fCallM is n g fs) := fun σ H S ρ P Q r hf k => by
  obtain ⟨cs0, ao0, hf⟩ := ownsL_inv hf
  refine ha σ H S ρ cs0 _ _ r ao0 hf fun qs vs H1 S1 ds ρ1 hl hq hP r1 t1 hd => ?_
  obtain ⟨hn, hP⟩ := hP
  obtain ⟨cs, ⟨lc, ao⟩, hP⟩ := ownsL_inv hP
  -- what stands at each
  have ati : ∀ (j i : Nat) (q : Addr), is[j]? = some i → qs[j]? = some q → σ[i]? = some (some (.ref q)) := fun j i q e1 e2 => by
    obtain ⟨q', e3, e4⟩ := hq j i e1
    rw [e2] at e3
    cases e3
    exact e4
  have idx : ∀ (j : Nat) (q : Addr), qs[j]? = some q → ∃ i c, is[j]? = some i ∧ cs[j]? = some c := fun j q e => by
    have := (List.getElem?_eq_some_iff.mp e).1
    exact ⟨_, _, List.getElem?_eq_getElem (by omega), List.getElem?_eq_getElem (by omega)⟩
  have own1 : OwnsH K S1 H1 qs cs := ⟨by omega, fun j q c e1 e2 => by
    obtain ⟨i, c', f1, f2⟩ := idx j q e1
    rw [e2] at f2
    cases f2
    obtain ⟨p', o, g1, g2, g3, g4⟩ := r1.own i c (ao j i c f1 e2)
    rw [ati j i q f1 e1] at g1
    cases g1
    exact ⟨o, g3, g2, g4⟩⟩
  have qnd : qs.Nodup := by
    refine List.nodup_iff_pairwise_ne.mpr (List.pairwise_iff_getElem.mpr fun a b ha hb hab hab2 => ?_)
    obtain ⟨q, eb⟩ : ∃ q, qs[b]? = some q := ⟨_, List.getElem?_eq_getElem hb⟩
    have he : qs[a]? = some q := by
      rw [List.getElem?_eq_getElem ha, hab2, ← List.getElem?_eq_getElem hb]
      exact eb
    obtain ⟨i, c, f1, f2⟩ := idx a q he
    obtain ⟨i', c', f1', f2'⟩ := idx b q eb
    have := r1.dis i i' c c' q (ao a i c f1 f2) (ao b i' c' f1' f2') (ati a i q f1 he) (ati b i' q f1' eb)
    subst this
    have hn := (List.pairwise_iff_getElem.mp (List.nodup_iff_pairwise_ne.mp hnd)) a b (by omega) (by omega) hab
    rw [List.getElem?_eq_getElem (by omega)] at f1 f1'
    exact hn ((Option.some.inj f1).trans (Option.some.inj f1').symm)
  have inq : ∀ (i : Nat), i ∈ is → ∃ j q c, is[j]? = some i ∧ qs[j]? = some q ∧ cs[j]? = some c ∧ ρ1[i]? = some (.own c) ∧ σ[i]? = some (some (.ref q)) := fun i hi => by
    obtain ⟨j, hj, rfl⟩ := List.mem_iff_getElem.mp hi
    have e1 : is[j]? = some is[j] := List.getElem?_eq_getElem hj
    obtain ⟨q, e2, e3⟩ := hq j _ e1
    have e4 : cs[j]? = some (cs[j]'(by omega)) := List.getElem?_eq_getElem (by omega)
    exact ⟨j, q, _, e1, e2, e4, ao j _ _ e1 e4, e3⟩
  refine ⟨S1, qs, vs, cs, ds, _, by rw [List.append_nil], by omega, hn, qnd, r1.ex, own1, hd, hP, fun v S' H' d cs' hp exS exH keep new own' den => ?_⟩
  have wasOwn : ∀ (j : Nat) (e : D), (setOwns ρ1 is cs')[j]? = some (.own e) → ∃ e', ρ1[j]? = some (.own e') := fun j e h => by
    by_cases hj : j ∈ is
    · obtain ⟨_, _, c, _, _, _, h1, _⟩ := inq j hj
      exact ⟨c, h1⟩
    · rw [setOwns_out is ρ1 cs' j hj] at h; exact ⟨e, h⟩
  have T : Tr σ H1 S1 ρ1 σ H' S' (setOwns ρ1 is cs') := by
    refine ⟨exS, fun a u ha no => keep a u (fun z => ?_) ha, fun a ⟨j, e, g1, g2⟩ => ?_, fun a ha => ?_, fun a ha => ?_⟩
    · obtain ⟨j, hj, rfl⟩ := List.mem_iff_getElem.mp z
      obtain ⟨i, c, f1, f2⟩ := idx j _ (List.getElem?_eq_getElem hj)
      exact no ⟨i, c, ao j i c f1 f2, ati j i _ f1 (List.getElem?_eq_getElem hj)⟩
    · obtain ⟨e', h⟩ := wasOwn j e g1
      exact .inl ⟨j, e', h, g2⟩
    · rcases new a ha with z | z | z
      · exact .inl z
      · exact .inr (.inl z)
      · exact .inr (.inr (.inr z))
    · by_cases haq : a ∈ qs
      · obtain ⟨j, hj, rfl⟩ := List.mem_iff_getElem.mp haq
        obtain ⟨o, z, _⟩ := own'.2 j _ (cs'[j]'(by rw [own'.1]; exact hj)) (List.getElem?_eq_getElem hj) (List.getElem?_eq_getElem _)
        rw [z] at ha
        cases ha
      · cases z : H1 a with
        | none => rfl
        | some u => rw [keep a u haq z] at ha; cases ha
  have R : Rel K fi fa σ H' S' (setOwns ρ1 is cs') := by
    refine ⟨exH, by rw [setOwns_len]; exact r1.len, fun j e h => ?_, fun j e h => ?_, fun j l e1' e2' q g1 g2 g3 g4 => ?_, r1.fix⟩
    · by_cases hj : j ∈ is
      · obtain ⟨jj, q, c, f1, f2, f3, h1, _⟩ := inq j hj
        have hl1 := (List.getElem?_eq_some_iff.mp h1).1
        have hjq := (List.getElem?_eq_some_iff.mp f2).1
        have := setOwns_in is ρ1 cs' jj j _ hnd hl1 f1 (List.getElem?_eq_getElem (by rw [own'.1]; exact hjq))
        rw [h] at this
        cases this
      · rw [setOwns_out is ρ1 cs' j hj] at h
        obtain ⟨w, w1, w2⟩ := r1.val j e h
        exact ⟨w, w1, w2.mono exS⟩
    · by_cases hj : j ∈ is
      · obtain ⟨jj, q, c, f1, f2, f3, h1, h2⟩ := inq j hj
        have hl1 := (List.getElem?_eq_some_iff.mp h1).1
        have hjq := (List.getElem?_eq_some_iff.mp f2).1
        have e2 : cs'[jj]? = some (cs'[jj]'(by rw [own'.1]; exact hjq)) := List.getElem?_eq_getElem _
        have := setOwns_in is ρ1 cs' jj j _ hnd hl1 f1 e2
        rw [h] at this
        cases this
        obtain ⟨o, g1, g2, g3⟩ := own'.2 jj q _ f2 e2
        exact ⟨q, o, h2, g2, g1, g3⟩
      · rw [setOwns_out is ρ1 cs' j hj] at h
        obtain ⟨q, u, w1, w2, w3, w4⟩ := r1.own j e h
        have hqq : q ∉ qs := fun z => by
          obtain ⟨jj, hjj, eq⟩ := List.mem_iff_getElem.mp z
          have e1 : qs[jj]? = some q := by rw [← eq]; exact List.getElem?_eq_getElem hjj
          obtain ⟨i, c, f1, f2⟩ := idx jj q e1
          have := r1.dis j i e c q h (ao jj i c f1 f2) w1 (ati jj i q f1 e1)
          subst this
          exact hj (List.mem_of_getElem? f1)
        refine ⟨q, u, w1, ?_, keep q u hqq w3, w4.mono exS⟩
        cases z : S' q with
        | none => rfl
        | some y =>
          rcases new q (by rw [z]; intro hh; cases hh) with y1 | y1 | ⟨xs, y1⟩
          · exact absurd w2 y1
          · rw [w3] at y1; cases y1
          · rw [w3] at y1; cases y1; exact w4.notup.elim
    · obtain ⟨f1, y1⟩ := wasOwn j e1' g1
      obtain ⟨f2, y2⟩ := wasOwn l e2' g2
      exact r1.dis j l f1 f2 q y1 y2 g3 g4
  exact k v H' S' d _ hp R (t1.trans T) den
theorem pd_m {g : GM} {is : List Nat} {i : Nat} {y : Str} {py : Pos} {L : Nat} (D : Df X.prog X.w X.K X.mg X.base L x ps (spM X.K m n g)) (hr : Room L X.A) (ha : PAM X fi fa (i :: is) (.Name y py :: es) fs) (hg : Gl X x := by rfl) (hs : starEach (Expr.Name y py :: es) X.env = (false, eval (Expr.Name y py) X.env) :: starEach es X.env := by rfl)
    (hdb : (x == ("__debug__" : Str)) = false := by decide) (hpl : (backTo pos (starEach es X.env)).any (·.1) = false := by rfl) (hnd : (i :: is).Nodup := by decide) (hm : (i :: is).length = m := by rfl) : PED X fi fa (.Call (.Name x p) (.Name y py :: es) [] pos) (fCallM (i :: is) n g fs) := by
  obtain ⟨f, fd, F, hmg, hk, hb⟩ := D.ex
  obtain ⟨t, q, ok⟩ := ha
  exact ⟨_, pe_call F hr hg hmg hk hb .nil pass0 q hdb hs hpl, ok_callM hnd hm ok⟩
end
section
variable {P : Program} {w : World} {K : PySem.W.Frag} {mg : Str → Option Value} {base : Heap} {x qual : Str} {st : Stmt} {f : Addr} {fd : FuncData} {N ps : List Str} {k : Nat}
def slM (k : Nat) (cs ds : List D) : List Sl := cs.map Sl.own ++ sl0 k ds
theorem slM_get {k i : Nat} {cs ds : List D} {s : Sl} (h : (slM k cs ds)[i]? = some s) : (∃ c, cs[i]? = some c ∧ s = .own c) ∨ (cs.length ≤ i ∧ (sl0 k ds)[i - cs.length]? = some s) := by
  unfold slM at h
  by_cases hi : i < cs.length
  · rw [List.getElem?_append_left (by rw [List.length_map]; exact hi), List.getElem?_map, List.getElem?_eq_getElem hi] at h
    cases h
    exact .inl ⟨_, List.getElem?_eq_getElem hi, rfl⟩
  · rw [List.getElem?_append_right (by rw [List.length_map]; omega), List.length_map] at h
    exact .inr ⟨by omega, h⟩
theorem slM_own {k i : Nat} {cs ds : List D} {d : D} (h : (slM k cs ds)[i]? = some (.own d)) : cs[i]? = some d := by
  rcases slM_get h with ⟨c, e1, e2⟩ | ⟨_, e⟩
  · cases e2; exact e1
  · rcases sl0_val e with ⟨d', e1, e2⟩ | e1 <;> cases e1
def retM (is : List Nat) (P : D → List D → Prop) : Fl → Prop
  | .nx ρ => ownsL ρ is fun cs => P .non cs
  | .rt d ρ => ownsL ρ is fun cs => P d cs
  | .rf d ρ => ownsL ρ is fun cs => P d cs
  | _ => False
theorem rel_startM {H S : Hp} {qs : List Addr} {cs : List D} {vs : List V} {ds : List D} (e : Ex S H) (hnd : qs.Nodup) (ho : OwnsH K S H qs cs) (hd : Dens K S vs ds) (hl : qs.length + ds.length ≤ N.length) :
    Rel K (List.range qs.length) (fun i => qs.getD i 0) (L2.start N (qs.map V.ref ++ vs)) H S (slM (N.length - (qs.length + ds.length)) cs ds) where
  ex := e
  len := by
    rw [start_len (by rw [List.length_append, List.length_map, hd.length]; exact hl)]
    unfold slM sl0
    rw [List.length_append, List.length_map, List.length_append, List.length_map, List.length_replicate, ho.1]
    omega
  val := fun i d h => by
    rcases slM_get h with ⟨c, e1, e2⟩ | ⟨hi, e1⟩
    · cases e2
    · rcases sl0_val e1 with ⟨d', e2, e3⟩ | e2
      · cases e2
        obtain ⟨v, h1, h2⟩ := hd.get e3
        refine ⟨v, start_get ?_, h2⟩
        rw [List.getElem?_append_right (by rw [List.length_map, ← ho.1]; exact hi), List.length_map, ← ho.1]
        exact h1
      · cases e2
  own := fun i d h => by
    have hc := slM_own h
    have hi := (List.getElem?_eq_some_iff.mp hc).1
    have hq : qs[i]? = some (qs[i]'(by rw [← ho.1]; exact hi)) := List.getElem?_eq_getElem _
    obtain ⟨o, h1, h2, h3⟩ := ho.2 i _ d hq hc
    refine ⟨_, o, start_get ?_, h2, h1, h3⟩
    rw [List.getElem?_append_left (by rw [List.length_map, ← ho.1]; exact hi), List.getElem?_map, hq]
    rfl
  dis := fun i j d e q h1 h2 h3 h4 => by
    have hi := (List.getElem?_eq_some_iff.mp (slM_own h1)).1
    have hj := (List.getElem?_eq_some_iff.mp (slM_own h2)).1
    rw [ho.1] at hi hj
    have g : ∀ i (hi : i < qs.length), (L2.start N (qs.map V.ref ++ vs))[i]? = some (some (.ref qs[i])) := fun i hi => by
      refine start_get ?_
      rw [List.getElem?_append_left (by rw [List.length_map]; exact hi), List.getElem?_map, List.getElem?_eq_getElem hi]
      rfl
    rw [g i hi] at h3
    rw [g j hj] at h4
    have e : qs[i] = qs[j] := (V.ref.inj (Option.some.inj (Option.some.inj h3))).trans (V.ref.inj (Option.some.inj (Option.some.inj h4))).symm
    have pw := List.pairwise_iff_getElem.mp (List.nodup_iff_pairwise_ne.mp hnd)
    rcases Nat.lt_trichotomy i j with z | z | z
    · exact absurd e (pw i j hi hj z)
    · exact z
    · exact absurd e.symm (pw j i hj hi z)
  fix := fun i hi => by
    have hi := List.mem_range.mp hi
    refine start_get ?_
    rw [List.getElem?_append_left (by rw [List.length_map]; exact hi), List.getElem?_map, List.getElem?_eq_getElem hi]
    simp [hi]
/-- THE RULE for a def that changes the first m of its arguments -/
theorem fn_m (F : Fun K x qual st f fd) (S : FnScope N ps (defScope st)) (m n : Nat) (g : GM) (fis : List Nat) (hfi : fis = List.range m := by decide) (hps : ps.length = m + n := by rfl) (hn : m + n ≤ N.length := by decide)
    (hb : ∀ (cdv : Value) (A : Around) (outer : List Env) (s : Shared) (H : Hp) (E : XK) (qa : Nat → Addr), Room k (A.deeper (envOfC qual (defScope st) s.heap.objs.size f cdv)) →
      ∃ B, PSsD (cxOf CX0 P w K mg base N qual (defScope st) f cdv A outer s H E).nox fis qa (defBody st) B ∧ ∀ cs ds Pd, g cs ds Pd → B (slM (N.length - (m + n)) cs ds) (retM fis Pd)) :
    FnOk P w K mg base CX0 (k + 1) f fd ps (spM K m n g) := by
  subst hfi
  refine F.ok S (fun vs H Q E h => ?_) (fun cdv A outer s H vs Q E hr h => ?_)
  · obtain ⟨S, qs, ws, cs, ds, Pd, rfl, hl1, hl2, _, _, _, hd, _⟩ := h
    rw [List.length_append, List.length_map, hd.length, hl1, hl2, hps]
  · obtain ⟨S0, qs, ws, cs, ds, Pd, rfl, hl1, hl2, hnd, hex, ho, hd, hg, k⟩ := h
    obtain ⟨B, ⟨t, pt, ok⟩, hB⟩ := hb cdv A outer s H E (fun i => qs.getD i 0) hr
    have r0 : Rel K (List.range m) (fun i => qs.getD i 0) (L2.start N (qs.map V.ref ++ ws)) H S0 (slM (N.length - (m + n)) cs ds) := by
      have := rel_startM (N := N) hex hnd ho hd (by rw [hl1, hl2]; exact hn)
      rw [hl1, hl2] at this; exact this
    have onl : ∀ a, Owned (L2.start N (qs.map V.ref ++ ws)) (slM (N.length - (m + n)) cs ds) a → a ∈ qs := fun a ⟨i, d, h1, h2⟩ => by
      have hi := (List.getElem?_eq_some_iff.mp (slM_own h1)).1
      rw [ho.1] at hi
      rw [start_get (vs := qs.map V.ref ++ ws) (i := i) (v := .ref qs[i]) (by rw [List.getElem?_append_left (by rw [List.length_map]; exact hi), List.getElem?_map, List.getElem?_eq_getElem hi]; rfl)] at h2
      cases h2
      exact List.getElem_mem hi
    have fin : ∀ (σ' : L2.St) (H' S' : Hp) (ρ' : List Sl) (v : V) (d : D) (cs' : List D), AtOwn ρ' (List.range m) cs' → Pd d cs' → Rel K (List.range m) (fun i => qs.getD i 0) σ' H' S' ρ' → Tr (L2.start N (qs.map V.ref ++ ws)) H S0 (slM (N.length - (m + n)) cs ds) σ' H' S' ρ' →
        Den K S' v d → Q v H' := fun σ' H' S' ρ' v d cs' ao hP r' t' den => by
      have hlc : cs'.length = m := by rw [ao.1, List.length_range]
      have own' : OwnsH K S' H' qs cs' := ⟨by rw [hlc, hl1], fun j q c e1 e2 => by
        have hj := (List.getElem?_eq_some_iff.mp e1).1
        have hr : (List.range m)[j]? = some j := by rw [List.getElem?_range (by omega)]
        obtain ⟨q', o', f1, f2, f3, f4⟩ := r'.own j c (ao.2 j j c hr e2)
        have := r'.fix j (List.mem_range.mpr (by omega))
        rw [f1] at this
        have e3 : qs.getD j 0 = q := by rw [List.getD_eq_getElem?_getD, e1]; rfl
        simp only [e3] at this
        cases this
        exact ⟨o', f3, f2, f4⟩⟩
      refine k v S' H' d cs' hP t'.exS r'.ex (fun a u ha h => t'.keep a u h fun z => ha (onl a z)) (fun a ha => ?_) own' den
      rcases t'.new a ha with z | z | z | z
      · exact .inl z
      · exact .inr (.inl z)
      · obtain ⟨j, hj, eq⟩ := List.mem_iff_getElem.mp (onl a z)
        obtain ⟨o, _, g2, _⟩ := own'.2 j a (cs'[j]'(by omega)) (by rw [← eq]; exact List.getElem?_eq_getElem hj) (List.getElem?_eq_getElem _)
        exact absurd g2 ha
      · exact .inr (.inr z)
    refine ⟨t, pt, ok _ H S0 _ (retM (List.range m) Pd) _ r0 (hB cs ds Pd hg) ⟨?_, ?_, ?_, ?_, ?_⟩⟩
    · intro σ' H' S' ρ' hP r' t'
      obtain ⟨cs', h0, hP⟩ := ownsL_inv hP
      exact fin σ' H' S' ρ' _ _ cs' h0 hP r' t' .non
    · exact fun σ' H' S' ρ' hP r' t' => hP.elim
    · exact fun σ' H' S' ρ' hP r' t' => hP.elim
    · intro v d σ' H' S' ρ' hP r' t' den
      obtain ⟨cs', h0, hP⟩ := ownsL_inv hP
      exact fin σ' H' S' ρ' v d cs' h0 hP r' t' den
    · rintro v d σ' H' S' ρ' hP r' t' ⟨q, o', rfl, z0, zs, no, zp, hod⟩
      obtain ⟨cs', h0, hP⟩ := ownsL_inv hP
      exact fin σ' H' _ ρ' _ d cs' h0 hP (r'.take zp zs no) (t'.takeNew (K := K) z0 zs) ((hod.mono (Ex.new zs)).den upd_same)
end

/-! ### y = [.. for ..]: over an owned list, of two clauses -/
section
variable {X : Cx} {fi : List Nat} {fa : Nat → Addr} {tg iter tg1 iter1 elt : Expr} {ifs ifs1 : List Expr} {fe : FE} {ft ft1 : FT} {g g1 : FG} {fit fit1 : FI} {pos spos py px : Pos} {x y : Str}
theorem psd_setLcO (i : Nat) (j : Nat) {scope : Scope} (own : List (Str × Nat)) {ws : List Nat} (hN0 : X.N.Nodup) (ok : BlkOk X.N X.env.scope scope own)
    (hg : ∀ (s : Shared) (H : Hp) (C : Addr) (cl : List (Str × Addr)) (fp : List Addr), PGD (Blk X s H scope cl C fp) fi fa tg ws g)
    (ht : ∀ (s : Shared) (H : Hp) (C : Addr) (cl : List (Str × Addr)) (fp : List Addr), PTsD (Blk X s H scope cl C fp) fi fa ifs ft)
    (he : ∀ (s : Shared) (H : Hp) (C : Addr) (cl : List (Str × Addr)) (fp : List Addr), PED (Blk X s H scope cl C fp) fi fa elt fe)
    (hc : X.calm = true := by rfl) (hy : X.N[i]? = some y := by rfl) (hyl : X.env.scope.names.lookup y = some .local := by rfl)
    (hsw : swapsWith (.ListComp elt [⟨tg, .Name x px, ifs, 0⟩] scope pos) (some (.Name y py)) spos.line X.env = pure true := by exact sw_true rfl rfl rfl (by decide +kernel))
    (hN : X.N[j]? = some x := by rfl) (hvis : Vis X.env.scope x := by first | exact Or.inl rfl | exact Or.inr (Or.inl rfl) | exact Or.inr (Or.inr rfl)) (hd : (x == ("__debug__" : Str)) = false := by decide)
    (hcd : (x == ("__classdict__" : Str)) = false := by decide)
    (hs : ∀ y, foldedSetIterable (.Name x px) X.env y = pure y := by intro _; rfl) (hv : (own.map (·.2)).all (fun i => !fi.contains i) = true := by rfl) (hw : ws.all (fun i => (own.map (·.2)).contains i) = true := by rfl) (hj : (own.map (·.2)).contains j = false := by rfl) (hf : fi.contains i = false := by rfl) :
    PSD X fi fa (.Assign [.Name y py] (.ListComp elt [⟨tg, .Name x px, ifs, 0⟩] scope pos) spos) (fSet i (fLcO j g ft fe (own.map (·.2)))) := by
  refine ⟨_, ps_setLc (i := i) (g := uG X.K fi fa ws g) (tt := uT X.K fi fa ft) (te := uE X.K fi fa fe) hc hN0 hy hyl hsw (pi_list (pv j hN hvis hd hcd)) ok (fun s H C cl fp => (hg s H C cl fp).uni) (fun s H C cl fp => (ht s H C cl fp).uni) (fun s H C cl fp => (he s H C cl fp).uni) hs, fun σ H S ρ P E r h k => ?_⟩
  refine ok_lcO j (fun z => by rw [List.contains_iff_mem.mpr z] at hj; cases hj) (notin_of hv) (allin_of hw) σ H S ρ _ _ r h fun v H' S' d ρ' hP r' tr ⟨p, o, ev, h0, hs, no, hp, hd⟩ => ?_
  subst ev
  exact k.1 _ H' _ _ hP ((r'.take hp hs no).storeVal ((hd.mono (Ex.new hs)).den upd_same) (fresh_lt (j := 0) hf)) ((tr.takeNew (K := X.K) h0 hs).trans Tr.storeVal)
theorem psd_setLc2 (i : Nat) {scope : Scope} (own : List (Str × Nat)) (vs1 : List Nat) {ws ws1 : List Nat} (hN : X.N.Nodup) (hi : PID X fi fa tg iter fit) (ok : BlkOk X.N X.env.scope scope own)
    (hg : ∀ (s : Shared) (H : Hp) (C : Addr) (cl : List (Str × Addr)) (fp : List Addr), PGD (Blk X s H scope cl C fp) fi fa tg ws g)
    (ht : ∀ (s : Shared) (H : Hp) (C : Addr) (cl : List (Str × Addr)) (fp : List Addr), PTsD (Blk X s H scope cl C fp) fi fa ifs ft)
    (hi1 : ∀ (s : Shared) (H : Hp) (C : Addr) (cl : List (Str × Addr)) (fp : List Addr), PID (Blk X s H scope cl C fp) fi fa tg1 iter1 fit1)
    (hg1 : ∀ (s : Shared) (H : Hp) (C : Addr) (cl : List (Str × Addr)) (fp : List Addr), PGD (Blk X s H scope cl C fp) fi fa tg1 ws1 g1)
    (ht1 : ∀ (s : Shared) (H : Hp) (C : Addr) (cl : List (Str × Addr)) (fp : List Addr), PTsD (Blk X s H scope cl C fp) fi fa ifs1 ft1)
    (he : ∀ (s : Shared) (H : Hp) (C : Addr) (cl : List (Str × Addr)) (fp : List Addr), PED (Blk X s H scope cl C fp) fi fa elt fe)
    (hc : X.calm = true := by rfl) (hy : X.N[i]? = some y := by rfl) (hyl : X.env.scope.names.lookup y = some .local := by rfl)
    (hsw : swapsWith (.ListComp elt [⟨tg, iter, ifs, 0⟩, ⟨tg1, iter1, ifs1, 0⟩] scope pos) (some (.Name y py)) spos.line X.env = pure true := by exact sw_true rfl rfl rfl (by decide +kernel))
    (hs : ∀ x, foldedSetIterable iter X.env x = pure x := by intro _; rfl) (hs1 : ∀ env x, foldedSetIterable iter1 env x = pure x := by intro _ _; rfl)
    (hv : (own.map (·.2)).all (fun i => !fi.contains i) = true := by rfl) (hw : ws.all (fun i => (own.map (·.2)).contains i) = true := by rfl) (hv1 : vs1.all (fun i => (own.map (·.2)).contains i) = true := by rfl) (hw1 : ws1.all (fun i => vs1.contains i) = true := by rfl) (hf : fi.contains i = false := by rfl) :
    PSD X fi fa (.Assign [.Name y py] (.ListComp elt [⟨tg, iter, ifs, 0⟩, ⟨tg1, iter1, ifs1, 0⟩] scope pos) spos) (fSet i (fLc2 fit g ft fit1 g1 ft1 fe (own.map (·.2)) vs1)) := by
  obtain ⟨ti, p, oi⟩ := hi
  refine ⟨_, ps_setLc2 (i := i) (vs1 := vs1) (g := uG X.K fi fa ws g) (tt := uT X.K fi fa ft) (wi1 := uI X.K fi fa fit1) (g1 := uG X.K fi fa ws1 g1) (tt1 := uT X.K fi fa ft1) (te := uE X.K fi fa fe) hc hN hy hyl hsw p ok (allin_of hv1)
    (fun s H C cl fp => (hg s H C cl fp).uni) (fun s H C cl fp => (ht s H C cl fp).uni) (fun s H C cl fp => (hi1 s H C cl fp).uni) (fun s H C cl fp => (hg1 s H C cl fp).uni) (fun s H C cl fp => (ht1 s H C cl fp).uni) (fun s H C cl fp => (he s H C cl fp).uni) hs hs1, fun σ H S ρ P E r h k => ?_⟩
  refine ok_lc2 oi (notin_of hv) (allin_of hw) (allin_of hv1) (allin_of hw1) σ H S ρ _ _ r h fun v H' S' d ρ' hP r' tr ⟨p, o, ev, h0, hs, no, hp, hd⟩ => ?_
  subst ev
  exact k.1 _ H' _ _ hP ((r'.take hp hs no).storeVal ((hd.mono (Ex.new hs)).den upd_same) (fresh_lt (j := 0) hf)) ((tr.takeNew (K := X.K) h0 hs).trans Tr.storeVal)
theorem psd_setLcOF (i : Nat) (j : Nat) {scope : Scope} (own : List (Str × Nat)) {ws : List Nat} (hN0 : X.N.Nodup) (ok : BlkOk X.N X.env.scope scope own)
    (hg : ∀ (s : Shared) (H : Hp) (C : Addr) (cl : List (Str × Addr)) (fp : List Addr), PGD (Blk X s H scope cl C fp) fi fa tg ws g)
    (ht : ∀ (s : Shared) (H : Hp) (C : Addr) (cl : List (Str × Addr)) (fp : List Addr), PTsD (Blk X s H scope cl C fp) fi fa ifs ft)
    (he : ∀ (s : Shared) (H : Hp) (C : Addr) (cl : List (Str × Addr)) (fp : List Addr), PED (Blk X s H scope cl C fp) fi fa elt fe)
    (hc : X.calm = true := by rfl) (hy : X.N[i]? = some y := by rfl) (hyl : X.env.scope.names.lookup y = some .local := by rfl)
    (hsw : swapsWith (.ListComp elt [⟨tg, .Name x px, ifs, 0⟩] scope pos) (some (.Name y py)) spos.line X.env = pure true := by exact sw_true rfl rfl rfl (by decide +kernel))
    (hN : X.N[j]? = some x := by rfl) (hvis : Vis X.env.scope x := by first | exact Or.inl rfl | exact Or.inr (Or.inl rfl) | exact Or.inr (Or.inr rfl)) (hd : (x == ("__debug__" : Str)) = false := by decide)
    (hcd : (x == ("__classdict__" : Str)) = false := by decide)
    (hs : ∀ y, foldedSetIterable (.Name x px) X.env y = pure y := by intro _; rfl) (hv : (own.map (·.2)).all (fun i => !fi.contains i) = true := by rfl) (hw : ws.all (fun i => (own.map (·.2)).contains i) = true := by rfl) (hj : (own.map (·.2)).contains j = false := by rfl) (hf : fi.contains i = false := by rfl) :
    PSD X fi fa (.Assign [.Name y py] (.ListComp elt [⟨tg, .Name x px, ifs, 0⟩] scope pos) spos) (fSetF i (fLcO j g ft fe (own.map (·.2)))) := by
  refine ⟨_, ps_setLc (i := i) (g := uG X.K fi fa ws g) (tt := uT X.K fi fa ft) (te := uE X.K fi fa fe) hc hN0 hy hyl hsw (pi_list (pv j hN hvis hd hcd)) ok (fun s H C cl fp => (hg s H C cl fp).uni) (fun s H C cl fp => (ht s H C cl fp).uni) (fun s H C cl fp => (he s H C cl fp).uni) hs, fun σ H S ρ P E r h k => ?_⟩
  exact ok_lcO j (fun z => by rw [List.contains_iff_mem.mpr z] at hj; cases hj) (notin_of hv) (allin_of hw) σ H S ρ _ _ r h fun v H' S' d ρ' hP r' tr hd => k.1 _ H' S' _ hP (r'.storeOwn hd (fresh_lt (j := 0) hf)) (tr.storeOwn hd)
theorem psd_setLc2F (i : Nat) {scope : Scope} (own : List (Str × Nat)) (vs1 : List Nat) {ws ws1 : List Nat} (hN : X.N.Nodup) (hi : PID X fi fa tg iter fit) (ok : BlkOk X.N X.env.scope scope own)
    (hg : ∀ (s : Shared) (H : Hp) (C : Addr) (cl : List (Str × Addr)) (fp : List Addr), PGD (Blk X s H scope cl C fp) fi fa tg ws g)
    (ht : ∀ (s : Shared) (H : Hp) (C : Addr) (cl : List (Str × Addr)) (fp : List Addr), PTsD (Blk X s H scope cl C fp) fi fa ifs ft)
    (hi1 : ∀ (s : Shared) (H : Hp) (C : Addr) (cl : List (Str × Addr)) (fp : List Addr), PID (Blk X s H scope cl C fp) fi fa tg1 iter1 fit1)
    (hg1 : ∀ (s : Shared) (H : Hp) (C : Addr) (cl : List (Str × Addr)) (fp : List Addr), PGD (Blk X s H scope cl C fp) fi fa tg1 ws1 g1)
    (ht1 : ∀ (s : Shared) (H : Hp) (C : Addr) (cl : List (Str × Addr)) (fp : List Addr), PTsD (Blk X s H scope cl C fp) fi fa ifs1 ft1)
    (he : ∀ (s : Shared) (H : Hp) (C : Addr) (cl : List (Str × Addr)) (fp : List Addr), PED (Blk X s H scope cl C fp) fi fa elt fe)
    (hc : X.calm = true := by rfl) (hy : X.N[i]? = some y := by rfl) (hyl : X.env.scope.names.lookup y = some .local := by rfl)
    (hsw : swapsWith (.ListComp elt [⟨tg, iter, ifs, 0⟩, ⟨tg1, iter1, ifs1, 0⟩] scope pos) (some (.Name y py)) spos.line X.env = pure true := by exact sw_true rfl rfl rfl (by decide +kernel))
    (hs : ∀ x, foldedSetIterable iter X.env x = pure x := by intro _; rfl) (hs1 : ∀ env x, foldedSetIterable iter1 env x = pure x := by intro _ _; rfl)
    (hv : (own.map (·.2)).all (fun i => !fi.contains i) = true := by rfl) (hw : ws.all (fun i => (own.map (·.2)).contains i) = true := by rfl) (hv1 : vs1.all (fun i => (own.map (·.2)).contains i) = true := by rfl) (hw1 : ws1.all (fun i => vs1.contains i) = true := by rfl) (hf : fi.contains i = false := by rfl) :
    PSD X fi fa (.Assign [.Name y py] (.ListComp elt [⟨tg, iter, ifs, 0⟩, ⟨tg1, iter1, ifs1, 0⟩] scope pos) spos) (fSetF i (fLc2 fit g ft fit1 g1 ft1 fe (own.map (·.2)) vs1)) := by
  obtain ⟨ti, p, oi⟩ := hi
  refine ⟨_, ps_setLc2 (i := i) (vs1 := vs1) (g := uG X.K fi fa ws g) (tt := uT X.K fi fa ft) (wi1 := uI X.K fi fa fit1) (g1 := uG X.K fi fa ws1 g1) (tt1 := uT X.K fi fa ft1) (te := uE X.K fi fa fe) hc hN hy hyl hsw p ok (allin_of hv1)
    (fun s H C cl fp => (hg s H C cl fp).uni) (fun s H C cl fp => (ht s H C cl fp).uni) (fun s H C cl fp => (hi1 s H C cl fp).uni) (fun s H C cl fp => (hg1 s H C cl fp).uni) (fun s H C cl fp => (ht1 s H C cl fp).uni) (fun s H C cl fp => (he s H C cl fp).uni) hs hs1, fun σ H S ρ P E r h k => ?_⟩
  exact ok_lc2 oi (notin_of hv) (allin_of hw) (allin_of hv1) (allin_of hw1) σ H S ρ _ _ r h fun v H' S' d ρ' hP r' tr hd => k.1 _ H' S' _ hP (r'.storeOwn hd (fresh_lt (j := 0) hf)) (tr.storeOwn hd)
end
end DL

/-! DLJ: enumerate, new dicts with nested keys, min and max of a list, < of data, xs.index(x). -/
namespace DL
open PySem PySem.Spec PyProof.Rows L2
variable [HW]

/-! ### {} and {k: v} of nested keys -/
section
variable {P : Program} {w : World} {H : Hp} {h : Heap}
theorem dn_empty (h : Heap) (hb : sysModules < h.objs.size) : ObjOk P w H (h.push { cls := .type "dict", data := .dict #[] }) h.objs.size (HoN h.objs.size []) :=
  good_ok ⟨Nat.zero_le _, beq_eq_false_iff_ne.mpr (Ne.symm (Nat.ne_of_lt hb)), [], .nil, _, #[], 0, Heap.get?_push_size _ rfl, ⟨rfl, rfl, rfl⟩, rfl, rfl, List.nodup_nil, fun _ h => nomatch h⟩
end
def tDNewN : TE := fun _ H Q => ∀ p, H p = none → Q (.ref p) (upd H p (HoN p []))
theorem pe_dnewN {X : Cx} {pos : Pos} : PE X (.Dict [] [] pos) tDNewN := ⟨fun pins s σ H Q I h =>
  wpAny_Dict_empty ⟨.ref s.heap.objs.size, _, I.laid (a := s.heap.objs.size) (o := HoN s.heap.objs.size []) (t' := s.toks) (fun _ _ q => Heap.get?_push_of_some _ q) (Nat.le_refl _) (dn_empty s.heap I.big), rfl, h _ (I.hok.fresh (Nat.le_refl _))⟩⟩
section
variable {prog : Program} {w : World} {K : Type} [DecidableEq K] {knd : HeapKind prog w K} {A : Around} {E : Value → Shared → Prop} {s : Shared}
omit [HW] in
theorem wpAny_Dict_pairsA {env : Env} {keys : List (Option Expr)} {values : List Expr} {pos : Pos} {pairs : List (Sem Value × Sem Value)} {Q : Value → Shared → Prop} (hu : knd.room A)
    (hshape : (evalEachOpt keys env).zip ((evalEach values env).map fun v => do let x ← v; standAt pos; pure x) = pairs.map fun p => (some p.1, p.2)) (h0 : pairs ≠ []) (hlen : pairs.length ≤ 15)
    (h : wpAny (model prog w) A (evalPairs pairs) (fun vs s₁ => ∃ ps, CarriesH knd s₁.heap vs ps ∧ s₁.heap.DictOfH knd s.heap.objs.size [] ∧
      ∀ h' tk, h'.DictOfH knd s.heap.objs.size (storedAllH [] ps) → Heap.SameBut s.heap.objs.size s₁.heap h' → Q (.ref s.heap.objs.size) { s₁ with heap := h', toks := tk }) E
      { s with heap := s.heap.push { cls := .type "dict", data := .dict #[] } }) :
    wpAny (model prog w) A (eval (.Dict keys values pos) env) Q E s := by
  rw [arm_eval_Dict, hshape, dictDisplay_pairs pairs h0 (by omega)]
  exact wpAny_bind (wpAny_standAt (wpAny_bind (wpAny_subDictH (knd := knd) (Q := fun d s' => wpAny (model prog w) A (pure (Value.ref d)) Q E s') hu hlen
    (wpAny_mono h (fun vs s₁ h₁ => by obtain ⟨ps, hc, hm, hq⟩ := h₁; exact ⟨ps, hc, hm, fun h' tk a b => wpAny_pure (hq h' tk a b)⟩) fun _ _ e => e))))
end
def tDisp1N (tk tv : TE) : TE := fun σ H Q => ∀ p, H p = none → tk σ (upd H p (HoN p [])) fun x H1 => tv σ H1 fun y H2 => H2 p = some (HoN p []) ∧ ∃ k b, x = .ref b ∧ VKey H2 k x ∧ k.depth ≤ 8 ∧ Q (.ref p) (upd H2 p (HoN p [(k, b, y)]))
theorem pe_disp1N {X : Cx} {pos : Pos} {k v : Expr} {tk tv : TE} (hw : X.w = HW.w) (hu : X.A.units + 64 < cLine) (hk : PE X k tk) (hv : PE X v tv) : PE X (.Dict [some k] [v] pos) (tDisp1N tk tv) := by
  refine ⟨fun pins s σ H Q I q => ?_⟩
  have hn := I.hok.fresh (Nat.le_refl s.heap.objs.size)
  have I1 := I.laid (a := s.heap.objs.size) (o := HoN s.heap.objs.size []) (h' := s.heap.push { cls := .type "dict", data := .dict #[] }) (t' := s.toks) (fun _ _ q => Heap.get?_push_of_some _ q) (Nat.le_refl _) (dn_empty s.heap I.big)
  have hp := zip_pairTrees [some k] [v] X.env pos rfl rfl
  refine wpAny_Dict_pairsA (knd := nestedKind X.prog X.w) (by show X.A.units + 8 < cLine; omega) hp (by intro e; exact nomatch e) (by show 1 ≤ 15; decide) ?_
  refine pairTrees_cons_walk (thn (hk.run pins _ σ _ _ I1 (q _ hn)) fun u s1 ⟨x, H1, I2, rx, q1⟩ => thn (hv.run pins s1 σ H1 _ I2 q1) fun t s2 ⟨y, H2, I3, ry, e, kk, b, ex, vk, dp, q2⟩ => pairTrees_nil_walk ?_)
  subst ex
  cases (show u = Value.ref b from rx)
  obtain ⟨_, gg⟩ := good_of (I3.hok _ _ e)
  obtain ⟨xs, rel, dd⟩ := good_dict hw I3.hok gg (fun _ h => nomatch h)
  cases rel
  refine ⟨[(kk, b, t)], ⟨rfl, rfl, ⟨vkey_is I3.hok vk rfl, dp⟩, trivial⟩, dd, fun h' tk dd' hs => ⟨.ref s.heap.objs.size, _, ?_, rfl, q2⟩⟩
  have e1 : storedAllH [] [(kk, b, t)] = [(kk, b, t)] := rfl
  rw [e1] at dd'
  obtain ⟨o, es, ep, hq, h2, h3, h4, h6, h5⟩ := dd'
  exact d_write I3 (by rw [e]; exact True.intro) hs ⟨o, hq⟩ (good_ok ⟨by show 1 ≤ sizeLine; decide, gg.2.1, _, .cons ⟨rfl, rfl, ry⟩ .nil, o, es, ep, hq, h2, h3, by rw [h4, ← hw]; rfl, h5, fun x hx => (h6 x hx).2⟩)
section
variable {X : Cx} {fi : List Nat} {fa : Nat → Addr} {e f : Expr} {fe ff : FE} {pos : Pos}
theorem pf_dnewN : PEF X fi fa (.Dict [] [] pos) (fC (.dN [] [])) := ⟨_, pe_dnewN, fun σ H S ρ P Q r hf k p hp => by
  obtain ⟨a1, a2, a3⟩ := ok_new (o := HoN p []) (d := .dN [] []) (Tr.refl σ H S ρ) r hp (show HOD X.K S (HoN p []) (.dN [] []) from ⟨p, [], rfl, .nil, rfl, .nil⟩)
  exact k _ _ _ _ ρ hf a1 a2 a3⟩
def KeyOk (x : D) : Prop := ∃ k, nkT x = some k ∧ k.depth ≤ 8
def fDisp1N (fk fv : FE) : FE := fun ρ P => fk ρ fun x ρ1 => fv ρ1 fun y ρ2 => KeyOk x ∧ P (.dN [x] [y]) ρ2
theorem nkT_tup {x : D} {k : NestedKey} (h : nkT x = some k) : (∃ ds, x = .tup ds) ∧ nk x = some k := by
  cases x with
  | tup ds => exact ⟨⟨ds, rfl⟩, h⟩
  | _ => cases h
theorem pf_disp1N (hu : X.A.units + 64 < cLine) (hk : PED X fi fa e fe) (hv : PED X fi fa f ff) (hw : X.w = HW.w := by rfl) : PEF X fi fa (.Dict [some e] [f] pos) (fDisp1N fe ff) := by
  obtain ⟨t1, p1, o1⟩ := hk
  obtain ⟨t2, p2, o2⟩ := hv
  refine ⟨_, pe_disp1N hw hu p1 p2, fun σ H S ρ P Q r hf k p hp => ?_⟩
  have g0 : Gr S H S (upd H p (HoN p [])) := Gr.hid r.ex hp
  have no : ¬ Owned σ ρ p := fun ⟨i, d, h1, h2⟩ => by
    obtain ⟨q, u, e1, e2, e3, e4⟩ := r.own i d h1
    rw [h2] at e1
    cases e1
    rw [hp] at e3
    cases e3
  refine o1 σ _ S ρ _ _ (r.grow g0) hf fun v H1 S1 x ρ1 h1 r1 t1 d1 => o2 σ H1 S1 ρ1 _ _ r1 h1 fun u H2 S2 y ρ2 ⟨⟨kk, ek, dp⟩, hP⟩ r2 t2 d2 => ?_
  have t12 := t1.trans t2
  obtain ⟨q1, q2, q3⟩ := t12.hides upd_same (r.ex.free hp) no (fun _ => HO.noConfusion)
  obtain ⟨⟨ds, rfl⟩, en⟩ := nkT_tup ek
  have d1' := d1.mono t2.exS
  obtain ⟨b, xs, rfl, hb1, hb2⟩ := den_tup d1'
  refine ⟨q1, kk, b, rfl, (vkey_den kk d1' en).mono fun c ys hc => r2.ex _ _ hc, dp, ?_⟩
  refine k _ _ S2 _ ρ2 hP (r2.hid q2 q3) ((g0.tr.trans t12).hid hp) ⟨p, _, rfl, .inl hp, q2, q3, upd_same, ?_⟩
  exact (show HOD X.K S2 (HoN p [(kk, b, u)]) (.dN [.tup ds] [y]) from ⟨p, _, rfl, .cons d1' .nil, by show [nk (.tup ds)] = [some kk]; rw [en], .cons d2 .nil⟩)
end

/-! ### enumerate of a list or a tuple -/
set_option maxHeartbeats 1000000 in
omit [HW] in
theorem meets_enumerate_new1 {v : Value} {o : Obj} {H : Heap → Prop} (B : Begins v o H) :
    Meets (Builtin.«enumerate.__new__» ⟨[.type "enumerate", v], []⟩) (fun _ R s => H s.heap ∧
      R (.ok (.ret (.ref (s.heap.push o).objs.size))) { s with heap := (s.heap.push o).push { cls := .type "enumerate", data := .fields #[.none, .bool false, .ref s.heap.objs.size, rawInt 0, .none, .none] } }) :=
  .of_wp fun prog w A R s h => by
    obtain ⟨hp, g, d, tk, os⟩ := s; obtain ⟨h1, h⟩ := h
    have hsub := sub_enumerate
    have q1 : ∀ {A' : Around} {E : Value → Shared → Prop} {Q : Value → Shared → Prop}, Q (.ref hp.objs.size) ⟨hp.push o, g, d, tk, os⟩ → wpAny (model prog w) A' (pyIter v) Q E ⟨hp, g, d, tk, os⟩ :=
      fun q => B.iter prog w _ _ ⟨hp, g, d, tk, os⟩ _ h1 q
    wp_walk using q1
    refine wpAny_stack_any fun st => wpAny_pure ?_
    split
    · rename_i c _ _ _ _ _
      cases (c == Value.type "enumerate")
      · wp_walk using q1
        exact ⟨_, rfl, h⟩
      · wp_walk using q1
        exact ⟨_, rfl, h⟩
    · wp_walk using q1
      exact ⟨_, rfl, h⟩
section
variable {prog : Program} {w : World} {A : Around} {E : Value → Shared → Prop} {s : Shared}
omit [HW] in
theorem enum_begins1 {v : Value} {o : Obj} {H : Heap → Prop} {Q : Value → Shared → Prop} (B : Begins v o H) (h1 : H s.heap)
    (h : ∀ h', IsEnum h' (s.heap.objs.size + 1) s.heap.objs.size 0 .none → h'.get? s.heap.objs.size = some o → h'.objs.size = s.heap.objs.size + 2 →
      (∀ b o, s.heap.get? b = some o → h'.get? b = some o) → Q (.ref (s.heap.objs.size + 1)) { s with heap := h' }) :
    wpAny (model prog w) A (call (.type "enumerate") [v]) Q E s := by
  refine callType_new PySem.F.called_enumerate (by decide) (PySem.F.typeCall_enumerate_1 _) (PySem.F.newCall_enumerate_1 _) (fun obj => PySem.F.args_object_init_2 obj _) PySem.F.entry_enumerate_new
    (meets_enumerate_new1 B) ⟨h1, ?_⟩
  have hz : (s.heap.push o).objs.size = s.heap.objs.size + 1 := Heap.size_push ..
  show _ ∧ _
  rw [hz]
  have he : IsEnum ((s.heap.push o).push { cls := .type "enumerate", data := .fields #[.none, .bool false, .ref s.heap.objs.size, rawInt 0, .none, .none] }) (s.heap.objs.size + 1) s.heap.objs.size 0 .none := by
    have := Heap.get?_push_size (s.heap.push o) (o := { cls := .type "enumerate", data := .fields #[.none, .bool false, .ref s.heap.objs.size, rawInt 0, .none, .none] }) rfl
    rw [hz] at this; exact this
  refine ⟨⟨_, he, rfl⟩, h _ he (Heap.get?_push_of_some _ (Heap.get?_push_size _ B.free)) (by rw [Heap.size_push, hz]) fun b o x => Heap.get?_push_of_some _ (Heap.get?_push_of_some _ x)⟩
end
omit [HW] in
theorem pyNext_enumT_end {prog : Program} {w : World} {A : Around} {E : Value → Shared → Prop} {s : Shared} {e it t : Addr} {i : Nat} {c : Int} {old : Value} {items : List Value} {Q : Option Value → Shared → Prop} (hh : A.handled = none)
    (he : IsEnum s.heap e it c old) (hit : s.heap.IsTupleIter it t i) (ht : s.heap.IsTuple t items.toArray) (hx : items[i]? = none)
    (hQ : ∀ h', Heap.ExtBut it s.heap h' → Q none { s with heap := h' }) : wpAny (model prog w) A (pyNext (.ref e)) Q E s := by
  have hT : s.TypeIs (.ref e) "enumerate" := ⟨_, he, rfl⟩
  unfold pyNext
  refine wpAny_bind (wpAny_attempt (wpAny_callSpecial?_slot (name := Str.ofString "__next__") hT PySem.F.slot_enumerate_next
    (wpAny_call_entry PySem.F.slot_enumerate_next hT PySem.F.entry_enumerate_next ?_ (PySem.F.args_enumerate_next_1 _))))
  show wpAny _ _ (field (.ref e) 2 >>= _) _ _ _
  refine wpAny_bind (wpAny_field he rfl (x := .ref it) rfl ?_)
  refine wpAny_bind (wpAny_nextOf_tuple_end (A := A.in1) hh hit ht (by simpa using hx) fun h' x he' hx' => ?_)
  obtain ⟨o, ho, hc⟩ := hx'
  refine wpAny_bind (wpAny_isInstance (T := "StopIteration") (b := true) ⟨o, ho, hc⟩ isSubtype_stop ?_)
  exact wpAny_pure (hQ _ he')
/-- the tuple at a, each item in a new pair -/
def IteT (K : PySem.W.Frag) (a : Addr) : It :=
  ⟨fun i H => ∃ (xs : List V) (x : V), SqT K H a xs ∧ xs[i]? = some x, fun i H v H' => ∃ T x, v = .ref T ∧ H T = none ∧ H' = upd H T (.tup [.int (i : Nat), x]) ∧ ∀ xs, SqT K H a xs → xs[i]? = some x, fun i H => ∃ xs : List V, SqT K H a xs ∧ xs.length ≤ i⟩
omit [HW] in
theorem turn_enumT {P : Program} {w : World} {K : PySem.W.Frag} {elts : List Expr} {kk : Nat} {tpos : Pos} (a e it : Addr) (hai : a ≠ it) (hae : a ≠ e) :
    Turn P w K (.Tuple elts kk tpos) (IteT K a) [e, it] e (fun i h => (∃ old, IsEnum h e it ((i : Nat) : Int) old) ∧ h.IsTupleIter it a i ∧ e ≠ it) where
  mem := by simp
  obj := fun i h st b hb => by
    obtain ⟨⟨old, he⟩, ⟨o, ho, hc, hd⟩, _⟩ := st
    have e' : b = e ∨ b = it := by simpa using hb
    rcases e' with z | z
    · rw [z]; exact ⟨_, he, fun v q => nomatch q⟩
    · rw [z]; exact ⟨o, ho, fun v q => by rw [hd] at q; cases q⟩
  keep := fun i h h' st k => let ⟨⟨old, he⟩, hi, hne⟩ := st; ⟨⟨old, k e (by simp) _ he⟩, hi.at fun o q => k it (by simp) o q, hne⟩
  item := by
    intro X hP hw hK hc i pins s σ H E I hf st hg
    subst hP hw hK
    obtain ⟨⟨old, he⟩, hit, hne⟩ := st
    obtain ⟨xs, x, hq, hx⟩ := hg
    obtain ⟨its, rv, p, hz⟩ := I.tuple hq
    obtain ⟨u, hu, ru⟩ := rv.get hx
    have hel : e < s.heap.objs.size := Heap.lt_size he
    have hil : it < s.heap.objs.size := by obtain ⟨_, q, _⟩ := hit; exact Heap.lt_size q
    have hi : i < its.toArray.size := by
      have := (List.getElem?_eq_some_iff.mp hu).1
      simpa using this
    refine wpAny_pyNext_enum_itemC (Draws.tuple (A := X.A.in1) (show X.A.in1.handled = none from I.ok.hd hc) it a hai its.toArray) he ⟨hit, p⟩ hi hne (by simp [hne, Ne.symm hae]) fun y h' tk hP ho hit' hT hsz hk => ?_
    have hy : y = u := by
      have : its.toArray[i]? = some y := hP
      rw [List.getElem?_toArray] at this
      rw [hu] at this
      exact (Option.some.inj this).symm
    subst hy
    refine ⟨_, rfl, wpAny_letOwnedTupleGo_enum (s := { s with heap := h', toks := tk + 1 }) ho fun h'' he' sb => ?_⟩
    have hT2 : h''.get? s.heap.objs.size = some { cls := .type "tuple", data := .seq #[.int i tk, y] } := (sb.2 _ (Nat.ne_of_gt hel)).trans hT
    have new : ObjOk X.prog X.w (upd H s.heap.objs.size (.tup [.int (i : Nat), x])) h'' s.heap.objs.size (.tup [.int (i : Nat), x]) :=
      ⟨by show 2 ≤ sizeLine; decide, [.int i tk, y], .cons ⟨_, rfl⟩ (.cons ru .nil), ⟨_, hT2, rfl, _, rfl⟩⟩
    have I1 : Inv X pins σ (upd H s.heap.objs.size (.tup [.int (i : Nat), x])) { s with heap := h'', toks := tk + 1 } :=
      I.turnedNew (ch := [e, it]) (fun b ob hb q => (sb.2 b (fun z => hb (by simp [z]))).trans (hk b ob (fun z => hb (by simp [z])) (fun z => hb (by simp [z])) q)) hf (Nat.le_refl _) new
    refine ⟨.ref s.heap.objs.size, _, I1, rfl, ⟨_, x, rfl, I.hok.fresh (Nat.le_refl _), rfl, fun ys hy => by rw [I.tuple_inj hy hq]; exact hx⟩, ⟨⟨y, ?_⟩, hit'.1.at fun o q => (sb.2 it (Ne.symm hne)).trans q, hne⟩, fun b hb => ?_⟩
    · have e1 : ((i + 1 : Nat) : Int) = (i : Int) + 1 := by omega
      rw [e1]; exact he'
    · have hb' : b < s.heap.objs.size := by
        have e' : b = e ∨ b = it := by simpa using hb
        rcases e' with z | z
        · rw [z]; exact hel
        · rw [z]; exact hil
      rw [upd_ne (Nat.ne_of_lt hb')]
      exact (hf b hb).1
  done := by
    intro X hP hw hK hc i pins s σ H E I hf st hg
    subst hP hw hK
    obtain ⟨⟨old, he⟩, hit, hne⟩ := st
    obtain ⟨xs, hq, hx⟩ := hg
    obtain ⟨its, rv, p, hz⟩ := I.tuple hq
    obtain ⟨f0, f1, f2, f3, f4, f5⟩ := hf it (by simp)
    have hl := rv.length
    refine pyNext_enumT_end (I.ok.hd hc) he hit p (List.getElem?_eq_none (by omega)) fun h' eb => ⟨rfl, I.turned (t' := s.toks) (fun b o hb q => eb b o hb q) f0 f1 f3 f4 f5⟩
  self := fun A i s Q E st h => let ⟨⟨_, he⟩, _⟩ := st; wpAny_pyIter_enum he h
def iEnumA (K : PySem.W.Frag) (ta : TA) : TI := fun σ H R => ta σ H fun vs H1 => ∃ a xs, vs = [.ref a] ∧ ((SqL K H1 a xs ∧ R (Ite K a) H1) ∨ (SqT K H1 a xs ∧ R (IteT K a) H1))
omit [HW] in
theorem pi_enumA {X : Cx} {e : Expr} {ta : TA} {p pos tpos : Pos} {elts : List Expr} {kk : Nat} (hg : Gl X "enumerate") (hm : X.mg "enumerate" = none) (ha : PA X [e] ta) (hs : starEach [e] X.env = [(false, eval e X.env)] := by rfl) :
    PI X (.Tuple elts kk tpos) (.Call (.Name "enumerate" p) [e] [] pos) (iEnumA X.K ta) := by
  refine ⟨fun pins s σ H R I h => ?_⟩
  refine Call_ (ld_blt I hg hm boot_enumerate (PyProof.Rows.callWith_type1 (thn (ha.run pos pins s σ H _ I h) fun us s1 ⟨vs, H1, I1, r1, q1⟩ => ?_) hs rfl))
  obtain ⟨a, xs, ex, q1⟩ := q1
  subst ex
  cases r1 with
  | cons r rr =>
    cases rr
    cases r
    have fr : ∀ b ∈ [s1.heap.objs.size + 1, s1.heap.objs.size], FpOk X pins H1 b := fun b hb => by
      have e' : b = s1.heap.objs.size + 1 ∨ b = s1.heap.objs.size := by simpa using hb
      have hle : s1.heap.objs.size ≤ b := by
        rcases e' with z | z
        · rw [z]; exact Nat.le_add_right _ _
        · rw [z]; exact Nat.le_refl _
      exact I1.fpOk hle (I1.hok.fresh hle)
    rcases q1 with ⟨hq, q⟩ | ⟨hq, q⟩
    · obtain ⟨its, rv, p', hz⟩ := I1.list hq
      refine call_enumerate_list p'.isList fun h' he hit hsz hk => wpAny_pyIter_enum he ?_
      exact ⟨s1.heap.objs.size + 1, [s1.heap.objs.size + 1, s1.heap.objs.size], _, _, H1, rfl, I1.kept (t' := s1.toks) hk, turn_enum a (s1.heap.objs.size + 1) s1.heap.objs.size, ⟨⟨.none, he⟩, hit, Nat.succ_ne_self _⟩, fr, q⟩
    · obtain ⟨its, rv, p', hz⟩ := I1.tuple hq
      have hal : a < s1.heap.objs.size := by obtain ⟨o, ho, _⟩ := id p'; exact Heap.lt_size ho
      refine enum_begins1 (begins_tuple a its.toArray) p' fun h' he hit hsz hk => wpAny_pyIter_enum he ?_
      exact ⟨s1.heap.objs.size + 1, [s1.heap.objs.size + 1, s1.heap.objs.size], _, _, H1, rfl, I1.kept (t' := s1.toks) hk, turn_enumT a (s1.heap.objs.size + 1) s1.heap.objs.size (Nat.ne_of_lt hal) (Nat.ne_of_lt (Nat.lt_succ_of_lt hal)), ⟨⟨.none, he⟩, ⟨_, hit, rfl, rfl⟩, Nat.succ_ne_self _⟩, fr, q⟩
def enumD (ds : List D) : List D := ds.mapIdx fun i d => .tup [.int (i : Nat), d]
omit [HW] in
theorem enumD_len (ds : List D) : (enumD ds).length = ds.length := List.length_mapIdx
omit [HW] in
theorem enumD_get {ds : List D} {i : Nat} {d : D} (h : (enumD ds)[i]? = some d) : ∃ x, ds[i]? = some x ∧ d = .tup [.int (i : Nat), x] := by
  unfold enumD at h
  rw [List.getElem?_mapIdx] at h
  obtain ⟨x, hx, e⟩ := Option.map_eq_some_iff.mp h
  exact ⟨x, hx, e.symm⟩
theorem itd_enumL {K : PySem.W.Frag} {S : Hp} {a : Addr} {xs : List V} {ds : List D} (h : SqL K S a xs) (hd : Dens K S xs ds) : ItD K (Ite K a) S (enumD ds) := fun i S' H' e1 e2 => by
  refine ⟨fun hl => ⟨xs, (e1.trans e2).l h, by rw [enumD_len] at hl; rw [hd.length]; exact hl⟩, fun d he => ?_⟩
  obtain ⟨x, hx, rfl⟩ := enumD_get he
  obtain ⟨v, hv, den⟩ := hd.get hx
  refine ⟨⟨xs, v, (e1.trans e2).l h, hv⟩, fun z H'' hz => ?_⟩
  obtain ⟨T, v', rfl, hT, rfl, f1⟩ := hz
  have q1 := f1 xs ((e1.trans e2).l h)
  rw [hv] at q1
  cases q1
  have g := Gr.one (o := .tup [.int (i : Nat), v]) e2 hT
  exact ⟨_, g, .tup upd_same (.cons (.int _) (.cons (den.mono (e1.trans g.s)) .nil))⟩
theorem itd_enumT {K : PySem.W.Frag} {S : Hp} {a : Addr} {xs : List V} {ds : List D} (h : SqT K S a xs) (hd : Dens K S xs ds) : ItD K (IteT K a) S (enumD ds) := fun i S' H' e1 e2 => by
  refine ⟨fun hl => ⟨xs, (e1.trans e2).t h, by rw [enumD_len] at hl; rw [hd.length]; exact hl⟩, fun d he => ?_⟩
  obtain ⟨x, hx, rfl⟩ := enumD_get he
  obtain ⟨v, hv, den⟩ := hd.get hx
  refine ⟨⟨xs, v, (e1.trans e2).t h, hv⟩, fun z H'' hz => ?_⟩
  obtain ⟨T, v', rfl, hT, rfl, f1⟩ := hz
  have q1 := f1 xs ((e1.trans e2).t h)
  rw [hv] at q1
  cases q1
  have g := Gr.one (o := .tup [.int (i : Nat), v]) e2 hT
  exact ⟨_, g, .tup upd_same (.cons (.int _) (.cons (den.mono (e1.trans g.s)) .nil))⟩
def enum1 (ds : List D) (P : List D → Prop) : Prop := match ds with
  | [.lst xs] => P (enumD xs)
  | [.rol xs] => P (enumD xs)
  | [.tup xs] => P (enumD xs)
  | _ => False
def fEnum (fs : FA) : FI := fun ρ P => fs ρ fun ds ρ1 => enum1 ds fun xs => P xs ρ1
section
variable {X : Cx} {fi : List Nat} {fa : Nat → Addr} {a : Expr}
theorem pid_enum {p tpos pos : Pos} {elts : List Expr} {kk : Nat} {fs : FA} (hg : Gl X "enumerate") (hm : X.mg "enumerate" = none) (ha : PAD X fi fa [a] fs) (hs : starEach [a] X.env = [(false, eval a X.env)] := by rfl) :
    PID X fi fa (.Tuple elts kk tpos) (.Call (.Name "enumerate" p) [a] [] pos) (fEnum fs) := by
  obtain ⟨t, q, ok⟩ := ha
  refine ⟨_, pi_enumA hg hm q hs, fun σ H S ρ P R r hf k => ?_⟩
  refine ok σ H S ρ _ _ r hf fun vs H' S' ds ρ' hP r' t' hd => ?_
  unfold enum1 at hP
  split at hP
  · cases hd with
    | cons h1 h2 =>
      cases h2
      obtain ⟨a, xs, rfl, g1, g2⟩ := den_lst h1
      exact ⟨a, xs, rfl, .inl ⟨SqL.of (r'.ex _ _ g1), k _ H' S' _ ρ' hP r' t' (itd_enumL (SqL.of g1) g2)⟩⟩
  · cases hd with
    | cons h1 h2 =>
      cases h2
      obtain ⟨a, xs, rfl, g1, g2⟩ := den_rol h1
      exact ⟨a, xs, rfl, .inl ⟨r'.ex.l g1, k _ H' S' _ ρ' hP r' t' (itd_enumL g1 g2)⟩⟩
  · cases hd with
    | cons h1 h2 =>
      cases h2
      obtain ⟨a, xs, rfl, g1, g2⟩ := den_tup h1
      exact ⟨a, xs, rfl, .inr ⟨SqT.of (r'.ex _ _ g1), k _ H' S' _ ρ' hP r' t' (itd_enumT (SqT.of g1) g2)⟩⟩
  · exact hP.elim
end

/-! ### x < y of data -/
def gLtD (x y : D) (P : D → Prop) : Prop := EqOk x y ∧ PySem.W.alike (toP x) (toP y) = true ∧ toP x ≠ .none ∧ P (.bl (PySem.W.dataLt (toP x) (toP y)))
def rLtD (K : PySem.W.Frag) : R2 := fun x y H Q => ∃ d e, Dp K H x d ∧ Dp K H y e ∧ (d.depth ≤ 60 ∨ e.depth ≤ 60) ∧ PySem.W.alike d e = true ∧ d ≠ .none ∧ Q (.bl (PySem.W.dataLt d e)) H
section
variable {X : Cx} {fi : List Nat} {fa : Nat → Addr}
theorem op_ltD (hu : X.A.units + 64 < cLine) : OpR X (compareOp .Lt) (rLtD X.K) := by
  intro pins s σ H x y v u Q I rx ry ⟨d, e, h1, h2, dep, al, hn, q⟩
  obtain ⟨as, r1⟩ := Dp.reads I d x v h1 rx
  obtain ⟨bs, r2⟩ := Dp.reads I e y u h2 ry
  exact PySem.W.lt_data r1 r2 al hn (room_min dep hu) ⟨.bl _, H, I, rfl, q⟩
theorem od_ltD (hu : X.A.units + 64 < cLine) : OpD X (compareOp .Lt) gLtD := ⟨_, op_ltD hu, fun x y dx dy S H P Q ex hx hy hg k =>
  ⟨_, _, den_dp dx x hg.1.1 (hx.mono ex), den_dp dy y hg.1.2.1 (hy.mono ex), hg.1.2.2, hg.2.1, hg.2.2.1, k _ S H _ hg.2.2.2 (Gr.refl ex) (.bl _)⟩⟩

/-! ### min(xs), max(xs) of data -/
def rMinL (lt : PyData → List PyData → PyData) (K : PySem.W.Frag) : List V → Hp → VK → Prop := fun vs H Q => ∃ (a : Addr) (bs : List (V × D)), vs = [V.ref a] ∧ SqL K H a (bs.map (·.1)) ∧ (∀ b ∈ bs, Dp K H b.1 (toP b.2) ∧ (toP b.2).plain = true ∧ (toP b.2).depth ≤ 60) ∧
  PySem.W.AlikeAll (bs.map fun b => toP b.2) ∧ bs ≠ [] ∧ ∀ y ys, bs.map (fun b => toP b.2) = y :: ys → ∀ b ∈ bs, toP b.2 = lt y ys → Q b.1 H
open PySem.W in
theorem cr_minL {X : Cx} (hc : X.calm = true) (hu : X.A.units + 64 < cLine) : CallR X (.builtin "min") (rMinL minD X.K) := by
  intro pins s σ H vs us Q I r h
  obtain ⟨a, bs, rfl, hs, hx, hal, hne, q1⟩ := h
  obtain rfl := Vals.ref1 r
  obtain ⟨its, rv, hl, hz⟩ := I.list hs
  obtain ⟨as, rd⟩ := Dp.readsAll I _ _ _ (dpAll_of fun b hb => (hx b hb).1) rv
  have hd : PyData.depthAll (bs.map fun b => toP b.2) ≤ 60 := depthAll_le fun x hx' => by
    obtain ⟨b, hb, rfl⟩ := List.mem_map.mp hx'
    exact (hx b hb).2.2
  cases e : bs.map (fun b => toP b.2) with
  | nil => exact absurd (List.map_eq_nil_iff.mp e) hne
  | cons y ys =>
    rw [e] at rd hal hd
    refine min_list_data (I.ok.hd hc) hl.isList rd hal (by omega) (fun i v h' tk bs' hv hr hk => ?_)
    have hv' : its[i]? = some v := by rw [← hv]; simp
    have hi : i < bs.length := by
      have := (List.getElem?_eq_some_iff.mp hv').1
      have hl := rv.length
      rw [List.length_map] at hl
      omega
    have hm : bs[i] ∈ bs := List.getElem_mem hi
    obtain ⟨u, hu1, hx2⟩ := rv.get (i := i) (x := bs[i].1) (by rw [List.getElem?_map, List.getElem?_eq_getElem hi]; rfl)
    rw [hv'] at hu1
    cases hu1
    obtain ⟨as2, r2⟩ := Dp.reads I _ _ _ (hx _ hm).1 hx2
    have e2 := (PySem.Reads.unique (reads_keeps hk r2) _ _ hr).1
    exact ⟨bs[i].1, H, I.kept (t' := tk) hk, hx2, q1 y ys e _ hm e2⟩
open PySem.W in
theorem cr_maxL {X : Cx} (hc : X.calm = true) (hu : X.A.units + 64 < cLine) : CallR X (.builtin "max") (rMinL maxD X.K) := by
  intro pins s σ H vs us Q I r h
  obtain ⟨a, bs, rfl, hs, hx, hal, hne, q1⟩ := h
  obtain rfl := Vals.ref1 r
  obtain ⟨its, rv, hl, hz⟩ := I.list hs
  obtain ⟨as, rd⟩ := Dp.readsAll I _ _ _ (dpAll_of fun b hb => (hx b hb).1) rv
  have hd : PyData.depthAll (bs.map fun b => toP b.2) ≤ 60 := depthAll_le fun x hx' => by
    obtain ⟨b, hb, rfl⟩ := List.mem_map.mp hx'
    exact (hx b hb).2.2
  cases e : bs.map (fun b => toP b.2) with
  | nil => exact absurd (List.map_eq_nil_iff.mp e) hne
  | cons y ys =>
    rw [e] at rd hal hd
    refine max_list_data (I.ok.hd hc) hl.isList rd hal (by omega) (fun i v h' tk bs' hv hr hk => ?_)
    have hv' : its[i]? = some v := by rw [← hv]; simp
    have hi : i < bs.length := by
      have := (List.getElem?_eq_some_iff.mp hv').1
      have hl := rv.length
      rw [List.length_map] at hl
      omega
    have hm : bs[i] ∈ bs := List.getElem_mem hi
    obtain ⟨u, hu1, hx2⟩ := rv.get (i := i) (x := bs[i].1) (by rw [List.getElem?_map, List.getElem?_eq_getElem hi]; rfl)
    rw [hv'] at hu1
    cases hu1
    obtain ⟨as2, r2⟩ := Dp.reads I _ _ _ (hx _ hm).1 hx2
    have e2 := (PySem.Reads.unique (reads_keeps hk r2) _ _ hr).1
    exact ⟨bs[i].1, H, I.kept (t' := tk) hk, hx2, q1 y ys e _ hm e2⟩
def gBestL (lt : PyData → List PyData → PyData) : GD := fun ds P => ∃ xs, (ds = [.lst xs] ∨ ds = [.rol xs]) ∧ (∀ x ∈ xs, (toP x).plain = true ∧ (toP x).depth ≤ 60) ∧ PySem.W.AlikeAll (xs.map toP) ∧
  xs ≠ [] ∧ ∀ y ys, xs.map toP = y :: ys → ∀ x ∈ xs, toP x = lt y ys → P x
abbrev gMinL : GD := gBestL PySem.W.minD
abbrev gMaxL : GD := gBestL PySem.W.maxD
theorem bestL_ok {X : Cx} {lt : PyData → List PyData → PyData} {xs : List V} {ds : List D} {S H : Hp} {P : D → Prop} {Q : VK} (ex : Ex S H) (hd : Dens X.K S xs ds) (hg : gBestL lt ds P) (k : ∀ v S' H' d, P d → Gr S H S' H' → Den X.K S' v d → Q v H') : rMinL lt X.K xs H Q := by
  obtain ⟨xs', e1, h1, h2, hn, hP1⟩ := hg
  have : ∃ x, xs = [x] ∧ ∃ d, (d = .lst xs' ∨ d = .rol xs') ∧ Den X.K S x d := by
    rcases e1 with rfl | rfl
    · cases hd with
      | cons h t => cases t; exact ⟨_, rfl, _, .inl rfl, h⟩
    · cases hd with
      | cons h t => cases t; exact ⟨_, rfl, _, .inr rfl, h⟩
  obtain ⟨x, rfl, d, ed, hx⟩ := this
  obtain ⟨a, vs, rfl, g1, g2⟩ := den_lstR ed hx
  obtain ⟨z1, z2, z3⟩ := dens_zip g2
  have em : (vs.zip xs').map (fun b => toP b.2) = xs'.map toP := by
    rw [show (fun b : V × D => toP b.2) = toP ∘ (fun b : V × D => b.2) from rfl, ← List.map_map, z2]
  refine ⟨a, vs.zip xs', rfl, by rw [z1]; exact ex.l g1, fun b hb => ?_, by rw [em]; exact h2, fun h0 => hn (by rw [← z2, h0]; rfl), fun y ys ey b hb eb => ?_⟩
  · have hm : b.2 ∈ xs' := by rw [← z2]; exact List.mem_map.mpr ⟨b, hb, rfl⟩
    obtain ⟨a1, a2⟩ := h1 b.2 hm
    exact ⟨den_dp b.2 b.1 a1 ((z3 b hb).mono ex), a1, a2⟩
  · rw [em] at ey
    have hm : b.2 ∈ xs' := by rw [← z2]; exact List.mem_map.mpr ⟨b, hb, rfl⟩
    exact k b.1 S H b.2 (hP1 y ys ey b.2 hm eb) (Gr.refl ex) (z3 b hb)
theorem cd_minL {X : Cx} (hu : X.A.units + 64 < cLine) (hc : X.calm = true := by rfl) : CallD X (.builtin "min") gMinL := ⟨_, cr_minL hc hu, fun xs ds S H P Q ex hd hg k => bestL_ok ex hd hg k⟩
theorem cd_maxL {X : Cx} (hu : X.A.units + 64 < cLine) (hc : X.calm = true := by rfl) : CallD X (.builtin "max") gMaxL := ⟨_, cr_maxL hc hu, fun xs ds S H P Q ex hd hg k => bestL_ok ex hd hg k⟩

/-! ### xs.index(x) -/
def gIndex (xs : List D) (y : D) (P : D → Prop) : Prop := intsD xs fun is => asI y fun i => i ∈ is ∧ P (.int (is.idxOf i : Nat))
def fIndex (fo fy : FE) : FE := fun ρ P => fo ρ fun o ρ1 => lstD o fun xs => fy ρ1 fun y ρ2 => gIndex xs y fun d => P d ρ2
omit [HW] in
theorem eqV_int (i j : Int) : eqV (.int i) (.int j) = decide (i = j) := by
  first | rfl | (unfold eqV; simp)
theorem pd_index {o e : Expr} {fo fy : FE} {apos cpos : Pos} (ho : PED X fi fa o fo) (he : PED X fi fa e fy) (hbase : attributeBase o "index" X.env (eval o X.env) = eval o X.env := by rfl)
    (hfew : ((backTo cpos (starEach [e] X.env)).all (fun x => !x.1) && (backToKw cpos (keywordEach [] X.env)).all (fun x => x.1.isSome)
      && decide (([e] : List Expr).length + ([] : List Keyword).length + (if ([] : List Keyword).isEmpty then 0 else 1) < 30)) = true := by rfl)
    (hline : (apos.endLine == cpos.line) = true := by rfl) (hs : starEach [e] X.env = (false, eval e X.env) :: starEach [] X.env := by rfl) (hplain : (backTo cpos (starEach [] X.env)).any (·.1) = false := by rfl) :
    PED X fi fa (.Call (.Attribute o "index" apos) [e] [] cpos) (fIndex fo fy) := by
  obtain ⟨t1, p1, o1⟩ := ho
  obtain ⟨t2, p2, o2⟩ := he
  refine ⟨_, pe_bm (T := "list") (id := "list.index") PySem.F.plainAttrs_list PySem.F.slot_list_index PySem.F.type_list_index mt_index p1 (pa_cons p2 pa_nil hs) hbase hfew hline hs hplain, fun σ H S ρ P Q r hf k => o1 σ H S ρ _ _ r hf fun v H1 S1 d ρ1 h1 r1 t1 d1 => ?_⟩
  obtain ⟨xs, ed, h1⟩ := lstD_inv h1
  obtain ⟨a, vs, rfl, g1, g2⟩ := den_lstR ed d1
  refine ⟨.inl ⟨rfl, vs, r1.ex.l g1⟩, o2 σ H1 S1 ρ1 _ _ r1 h1 fun u H2 S2 y ρ2 h2 r2 t2 d2 => ?_⟩
  obtain ⟨is, rfl, rfl, hg⟩ := intsD_inv h2 (g2.mono t2.exS)
  obtain ⟨i, rfl, hm, hP⟩ := asI_inv hg
  cases den_int d2
  have hl : is.idxOf i < is.length := List.idxOf_lt_length_of_mem hm
  have hgt : is[is.idxOf i]? = some i := by rw [List.getElem?_eq_getElem hl, List.getElem_idxOf]
  refine ⟨a, is.map V.int, .int i, is.idxOf i, .int i, rfl, rfl, (t2.exS.trans r2.ex).l g1, rfl, by rw [List.all_map]; exact List.all_eq_true.mpr fun _ _ => rfl, by rw [List.getElem?_map, hgt]; rfl, by rw [eqV_int, decide_eq_true rfl], fun m z hmj hz => ?_, k _ H2 S2 _ ρ2 hP r2 (t1.trans t2) (.int _)⟩
  rw [List.getElem?_map] at hz
  obtain ⟨c, hc, rfl⟩ := Option.map_eq_some_iff.mp hz
  rw [eqV_int]
  refine decide_eq_false fun e => ?_
  subst e
  obtain ⟨hm1, hm2⟩ := List.getElem?_eq_some_iff.mp hc
  have := List.not_of_lt_findIdx (p := fun x => x == c) (xs := is) (i := m) hmj
  rw [hm2] at this
  simp at this
end

/-! ### a call whose first argument, a new object, is changed and forgotten -/
section
variable {X : Cx} {fi : List Nat} {fa : Nat → Addr} {e1 : Expr} {es : List Expr} {fF : FE} {fs : FA} {pos p : Pos} {n L : Nat} {x : Str} {ps : List Str} {E : XK}
def fCallIT (n : Nat) (g : GI) (fF : FE) (fs : FA) : FE := fun ρ P => fF ρ fun c ρ1 => fs ρ1 fun ds ρ2 => ds.length = n ∧ g c ds fun d c' => P d ρ2
theorem ok_callIT {K : PySem.W.Frag} {g : GI} {te : TE} {ta : TA} (he : OkF K fi fa te fF) (ha : OkA K fi fa ta fs) : OkE K fi fa (tCall (spI K n g) [] E (tCons te ta)) (fCallIT n g fF fs) := fun σ H S ρ P Q r hf k => by
  refine he σ H S ρ _ _ r hf fun v0 H0 S0 c ρ0 hf0 r0 t0 ⟨p, o, ev, hw, hs, no, hp, hod⟩ => ?_
  subst ev
  refine ha σ H0 S0 ρ0 _ _ r0 hf0 fun vs H1 S1 ds ρ1 ⟨hn, hP⟩ r1 t1 hd => ?_
  obtain ⟨q2, q3, q4⟩ := t1.hides hp hs no (fun xs z => by subst z; exact hod.notup)
  refine ⟨S1, p, vs, o, c, ds, _, by rw [List.append_nil], hn, r1.ex, q3, q2, hod.mono t1.exS, hd, hP, fun v S' H' d c' o2 hpd exS exH keep new hp' hs' hod' den => ?_⟩
  have T : Tr σ H S ρ σ H' S' ρ1 := by
    have t01 := t0.trans t1
    refine ⟨t01.exS.trans exS, fun a u ha na => ?_, fun a h => t01.owned a h, fun a ha => ?_, fun a ha => ?_⟩
    · refine keep a u (fun z => ?_) (t01.keep a u ha na)
      subst z
      rcases hw with hw | hw
      · rw [hw] at ha; cases ha
      · exact na hw
    · rcases new a ha with z | z | ⟨xs, z⟩
      · exact t01.new a z
      · exact .inr (.inl (t01.dom a z))
      · by_cases ho : Owned σ ρ a
        · exact .inr (.inr (.inl ho))
        · cases hx : H a with
          | none => exact .inr (.inl rfl)
          | some u =>
            have := t01.keep a u hx ho
            rw [z] at this
            cases this
            exact .inr (.inr (.inr ⟨xs, rfl⟩))
    · by_cases hap : a = p
      · subst hap; rw [hp'] at ha; cases ha
      · refine t01.dom a ?_
        cases z : H1 a with
        | none => rfl
        | some u => rw [keep a u hap z] at ha; cases ha
  have R : Rel K fi fa σ H' S' ρ1 := by
    refine ⟨exH, r1.len, fun j e h => ?_, fun j e h => ?_, r1.dis, r1.fix⟩
    · obtain ⟨w, w1, w2⟩ := r1.val j e h
      exact ⟨w, w1, w2.mono exS⟩
    · obtain ⟨q, u, w1, w2, w3, w4⟩ := r1.own j e h
      have hqp : q ≠ p := fun z => q4 ⟨j, e, h, by rw [w1, z]⟩
      refine ⟨q, u, w1, ?_, keep q u hqp w3, w4.mono exS⟩
      cases z : S' q with
      | none => rfl
      | some y =>
        rcases new q (by rw [z]; intro hh; cases hh) with y1 | y1 | ⟨xs, y1⟩
        · exact absurd w2 y1
        · rw [w3] at y1; cases y1
        · rw [w3] at y1; cases y1; exact w4.notup.elim
  exact k v H' S' d _ hpd R T den
theorem pd_iT {g : GI} (D : Df X.prog X.w X.K X.mg X.base L x ps (spI X.K n g)) (hr : Room L X.A) (he : PEF X fi fa e1 fF) (ha : PAD X fi fa es fs) (hg : Gl X x := by rfl) (hs : starEach (e1 :: es) X.env = (false, eval e1 X.env) :: starEach es X.env := by rfl)
    (hdb : (x == ("__debug__" : Str)) = false := by decide) (hpl : (backTo pos (starEach es X.env)).any (·.1) = false := by rfl) : PED X fi fa (.Call (.Name x p) (e1 :: es) [] pos) (fCallIT n g fF fs) := by
  obtain ⟨f, fd, F, hm, hk, hb⟩ := D.ex
  obtain ⟨t, q, ok⟩ := ha
  obtain ⟨t1, q1, ok1⟩ := he
  exact ⟨_, pe_call F hr hg hm hk hb .nil pass0 (pa_cons q1 q hs) hdb hs hpl, ok_callIT ok1 ok⟩
end
end DL

/-! DLB: what the combinators come to on typed contents: lemmas for the plain laws. -/
namespace DL
open PySem L2

/-! ### isinstance -/
def optP {α : Type} (o : Option α) (P : α → Prop) : Prop := match o with
  | some a => P a
  | none => False
@[simp] theorem optP_some {α : Type} (a : α) (P : α → Prop) : optP (some a) P = P a := rfl
def isiB (x : D) (n : String) : Option Bool := (tyN x).bind fun t => isiT t n
theorem gIsi_eq (x : D) (n : String) (P : D → Prop) : gIsi [x, .ty n] P = optP (isiB x n) fun b => P (.bl b) := by
  apply propext
  show (∃ t b, tyN x = some t ∧ isiT t n = some b ∧ P (.bl b)) ↔ _
  unfold isiB
  constructor
  · rintro ⟨t, b, h1, h2, h3⟩
    rw [h1]
    show optP (isiT t n) _
    rw [h2]
    exact h3
  · intro h
    cases h1 : tyN x with
    | none => rw [h1] at h; exact h.elim
    | some t =>
      rw [h1] at h
      have h : optP (isiT t n) fun b => P (.bl b) := h
      cases h2 : isiT t n with
      | none => rw [h2] at h; exact h.elim
      | some b => rw [h2] at h; exact ⟨t, b, rfl, h2, h⟩
section
variable (b : Bool) (i : Int) (s : Str) (xs : List D) (ks : List Key)
@[simp] theorem isi_int_int : isiB (.int i) "int" = some true := by simp [isiB, tyN, isiT]
@[simp] theorem isi_int_bool : isiB (.int i) "bool" = some false := by simp [isiB, tyN, isiT]
@[simp] theorem isi_int_tuple : isiB (.int i) "tuple" = some false := by simp [isiB, tyN, isiT]
@[simp] theorem isi_int_list : isiB (.int i) "list" = some false := by simp [isiB, tyN, isiT]
@[simp] theorem isi_int_str : isiB (.int i) "str" = some false := by simp [isiB, tyN, isiT]
@[simp] theorem isi_bl_int : isiB (.bl b) "int" = some true := by simp [isiB, tyN, isiT]
@[simp] theorem isi_bl_bool : isiB (.bl b) "bool" = some true := by simp [isiB, tyN, isiT]
@[simp] theorem isi_bl_tuple : isiB (.bl b) "tuple" = some false := by simp [isiB, tyN, isiT]
@[simp] theorem isi_bl_list : isiB (.bl b) "list" = some false := by simp [isiB, tyN, isiT]
@[simp] theorem isi_bl_str : isiB (.bl b) "str" = some false := by simp [isiB, tyN, isiT]
@[simp] theorem isi_non_int : isiB .non "int" = some false := by simp [isiB, tyN, isiT]
@[simp] theorem isi_non_bool : isiB .non "bool" = some false := by simp [isiB, tyN, isiT]
@[simp] theorem isi_non_tuple : isiB .non "tuple" = some false := by simp [isiB, tyN, isiT]
@[simp] theorem isi_non_list : isiB .non "list" = some false := by simp [isiB, tyN, isiT]
@[simp] theorem isi_non_str : isiB .non "str" = some false := by simp [isiB, tyN, isiT]
@[simp] theorem isi_str_int : isiB (.str s) "int" = some false := by simp [isiB, tyN, isiT]
@[simp] theorem isi_str_bool : isiB (.str s) "bool" = some false := by simp [isiB, tyN, isiT]
@[simp] theorem isi_str_tuple : isiB (.str s) "tuple" = some false := by simp [isiB, tyN, isiT]
@[simp] theorem isi_str_list : isiB (.str s) "list" = some false := by simp [isiB, tyN, isiT]
@[simp] theorem isi_str_str : isiB (.str s) "str" = some true := by simp [isiB, tyN, isiT]
@[simp] theorem isi_lst_int : isiB (.lst xs) "int" = some false := by simp [isiB, tyN, isiT]
@[simp] theorem isi_lst_bool : isiB (.lst xs) "bool" = some false := by simp [isiB, tyN, isiT]
@[simp] theorem isi_lst_tuple : isiB (.lst xs) "tuple" = some false := by simp [isiB, tyN, isiT]
@[simp] theorem isi_lst_list : isiB (.lst xs) "list" = some true := by simp [isiB, tyN, isiT]
@[simp] theorem isi_lst_str : isiB (.lst xs) "str" = some false := by simp [isiB, tyN, isiT]
@[simp] theorem isi_tup_int : isiB (.tup xs) "int" = some false := by simp [isiB, tyN, isiT]
@[simp] theorem isi_tup_bool : isiB (.tup xs) "bool" = some false := by simp [isiB, tyN, isiT]
@[simp] theorem isi_tup_tuple : isiB (.tup xs) "tuple" = some true := by simp [isiB, tyN, isiT]
@[simp] theorem isi_tup_list : isiB (.tup xs) "list" = some false := by simp [isiB, tyN, isiT]
@[simp] theorem isi_tup_str : isiB (.tup xs) "str" = some false := by simp [isiB, tyN, isiT]
@[simp] theorem isi_dK_int : isiB (.dK ks xs) "int" = some false := by simp [isiB, tyN, isiT]
@[simp] theorem isi_dK_bool : isiB (.dK ks xs) "bool" = some false := by simp [isiB, tyN, isiT]
@[simp] theorem isi_dK_tuple : isiB (.dK ks xs) "tuple" = some false := by simp [isiB, tyN, isiT]
@[simp] theorem isi_dK_list : isiB (.dK ks xs) "list" = some false := by simp [isiB, tyN, isiT]
@[simp] theorem isi_dK_str : isiB (.dK ks xs) "str" = some false := by simp [isiB, tyN, isiT]
end

/-! ### subscripts, bools, ints -/
theorem gIx_eq (x : D) (k : Int) (P : D → Prop) : gIx x (.int k) P = optP ((seqL x).bind fun xs => atI xs k) P := by
  unfold gIx optP
  cases seqL x with
  | none => simp
  | some xs =>
    cases h : atI xs k with
    | none => simp [h]
    | some d => simp [h]
theorem ev_gIx_lst (xs : List D) (k : Int) (P : D → Prop) : gIx (.lst xs) (.int k) P = optP (atI xs k) P := gIx_eq _ _ _
theorem ev_gIx_tup (xs : List D) (k : Int) (P : D → Prop) : gIx (.tup xs) (.int k) P = optP (atI xs k) P := gIx_eq _ _ _
theorem ev_gIx_rol (xs : List D) (k : Int) (P : D → Prop) : gIx (.rol xs) (.int k) P = optP (atI xs k) P := gIx_eq _ _ _
@[simp] theorem seqL_lst (xs : List D) : seqL (.lst xs) = some xs := rfl
@[simp] theorem seqL_tup (xs : List D) : seqL (.tup xs) = some xs := rfl
@[simp] theorem seqL_rol (xs : List D) : seqL (.rol xs) = some xs := rfl
theorem atI_nn {xs : List D} {k : Nat} : atI xs (k : Int) = xs[k]? := by
  unfold atI ixN
  by_cases h : k < xs.length
  · simp [h]
  · simp [h]
@[simp] theorem atI_zero (x : D) (xs : List D) : atI (x :: xs) 0 = some x := by
  have := atI_nn (xs := x :: xs) (k := 0)
  simpa using this
@[simp] theorem atI_one (x y : D) (xs : List D) : atI (x :: y :: xs) 1 = some y := by
  have := atI_nn (xs := x :: y :: xs) (k := 1)
  simpa using this
@[simp] theorem atI_two (x y z : D) (xs : List D) : atI (x :: y :: z :: xs) 2 = some z := by
  have := atI_nn (xs := x :: y :: z :: xs) (k := 2)
  simpa using this
theorem blsD_eq : ∀ (bs : List Bool) (P : List Bool → Prop), blsD (bs.map .bl) P = P bs
  | [], P => rfl
  | b :: bs, P => by
    show blsD (bs.map .bl) (fun is => P (b :: is)) = _
    rw [blsD_eq bs]
theorem intsD_eq : ∀ (bs : List Int) (P : List Int → Prop), intsD (bs.map .int) P = P bs
  | [], P => rfl
  | b :: bs, P => by
    show intsD (bs.map .int) (fun is => P (b :: is)) = _
    rw [intsD_eq bs]
theorem gAll_eq (bs : List Bool) (P : D → Prop) : gAll [.lst (bs.map .bl)] P = P (.bl (bs.all id)) := blsD_eq bs _
theorem gAny_eq (bs : List Bool) (P : D → Prop) : gAny [.lst (bs.map .bl)] P = P (.bl (bs.any id)) := blsD_eq bs _

/-! ### evaluation, arm by arm -/
def rng1 (ds : List D) (P : List D → Prop) : Prop := match ds with
  | [.int j] => j ≤ 100000 ∧ -100000 ≤ j ∧ P (rangeD 0 j.toNat)
  | _ => False
def rng2 (ds : List D) (P : List D → Prop) : Prop := match ds with
  | [.int i, .int j] => (j ≤ 100000 ∧ -100000 ≤ j ∧ i ≤ 100000 ∧ -100000 ≤ i) ∧ P (rangeD i (j - i).toNat)
  | _ => False
def zip2 (ds : List D) (P : List D → Prop) : Prop := match ds with
  | [.lst xs, .lst ys] => P (zipD xs ys)
  | [.tup xs, .tup ys] => P (zipD xs ys)
  | _ => False
def slotV (o : Option Sl) (P Q : D → Prop) : Prop := match o with
  | some (.val d) => P d
  | some (.own d) => Q d
  | _ => False
def slotO (o : Option Sl) (P : D → Prop) : Prop := match o with
  | some (.own d) => P d
  | _ => False
theorem ev_asB_bl (b : Bool) (P : Bool → Prop) : asB (.bl b) P = P b := rfl
theorem ev_ixN_30 : ixN 3 0 = some 0 := rfl
theorem ev_ixN_31 : ixN 3 1 = some 1 := rfl
theorem ev_ixN_32 : ixN 3 2 = some 2 := rfl
theorem ev_ixS (n : Nat) (P : Nat → Prop) : (∃ m, some n = some m ∧ P m) = P n := propext ⟨fun ⟨_, e, h⟩ => by cases e; exact h, fun h => ⟨_, rfl, h⟩⟩
theorem ev_asI_int (i : Int) (P : Int → Prop) : asI (.int i) P = P i := rfl
theorem ev_gAdd_int (i j : Int) (P : D → Prop) : gAdd (.int i) (.int j) P = P (.int (i + j)) := rfl
theorem ev_gAdd_tup (xs ys : List D) (P : D → Prop) : gAdd (.tup xs) (.tup ys) P = (xs.length + ys.length ≤ 100000 ∧ P (.tup (xs ++ ys))) := rfl
theorem ev_gAdd_lst (xs ys : List D) (P : D → Prop) : gAdd (.lst xs) (.lst ys) P = (xs.length + ys.length ≤ 100000 ∧ P (.lst (xs ++ ys))) := rfl
theorem ev_gAdd_str (xs ys : Str) (P : D → Prop) : gAdd (.str xs) (.str ys) P = (xs.length + ys.length ≤ 100000 ∧ P (.str (xs ++ ys))) := rfl
theorem ev_gMul_int (i j : Int) (P : D → Prop) : gMul (.int i) (.int j) P = ((CMul i j ∨ CMulW i j) ∧ P (.int (i * j))) := rfl
theorem ev_gMul_tup (xs : List D) (k : Int) (P : D → Prop) : gMul (.tup xs) (.int k) P = (xs ≠ [] ∧ 1 ≤ k ∧ k ≤ 1000 ∧ xs.length ≤ 100 ∧ P (.tup (List.replicate k.toNat xs).flatten)) := rfl
theorem ev_gMul_lst (xs : List D) (k : Int) (P : D → Prop) : gMul (.lst xs) (.int k) P = (0 ≤ k ∧ k ≤ 1000 ∧ xs.length ≤ 100 ∧ P (.lst (List.replicate k.toNat xs).flatten)) := rfl
theorem ev_gMul_str (s : Str) (k : Int) (P : D → Prop) : gMul (.str s) (.int k) P = (s.length ≤ 16 ∧ 0 ≤ k ∧ k ≤ 1000 ∧ P (.str (PySem.Txt.mul s k))) := rfl
theorem ev_gI_int (C : Int → Int → Prop) (h : Int → Int → D) (i j : Int) (P : D → Prop) : gI C h (.int i) (.int j) P = (C i j ∧ P (h i j)) := rfl
theorem ev_gC_int (h : Int → Int → Bool) (i j : Int) (P : D → Prop) : gC h (.int i) (.int j) P = P (.bl (h i j)) := rfl
theorem ev_gLt_int (i j : Int) (P : D → Prop) : gLt (.int i) (.int j) P = P (.bl (decide (i < j))) := rfl
theorem ev_gNeg_int (i : Int) (P : D → Prop) : gNeg (.int i) P = P (.int (-i)) := rfl
theorem ev_gIs_bl (a b : Bool) (P : D → Prop) : gIs (.bl a) (.bl b) P = P (.bl (decide (a = b))) := rfl
theorem ev_gIsNot_bl (a b : Bool) (P : D → Prop) : gIsNot (.bl a) (.bl b) P = P (.bl (!decide (a = b))) := rfl
theorem ev_gInt_int (i : Int) (P : D → Prop) : gInt [.int i] P = P (.int i) := rfl
theorem ev_gInt_bl (b : Bool) (P : D → Prop) : gInt [.bl b] P = P (.int (if b then 1 else 0)) := rfl
theorem ev_gInt2_int (h : Int → Int → Int) (i j : Int) (P : D → Prop) : gInt2 h [.int i, .int j] P = P (.int (h i j)) := rfl
theorem ev_gAbs_int (i : Int) (P : D → Prop) : gAbs [.int i] P = P (.int (if i < 0 then -i else i)) := rfl
theorem ev_gTuple_lst (xs : List D) (P : D → Prop) : gTuple [.lst xs] P = P (.tup xs) := rfl
theorem ev_gTuple_rol (xs : List D) (P : D → Prop) : gTuple [.rol xs] P = P (.tup xs) := rfl
theorem ev_gTuple_tup (xs : List D) (P : D → Prop) : gTuple [.tup xs] P = P (.tup xs) := rfl
theorem ev_gList_dT (ks : List (List Key)) (vs : List D) (P : D → Prop) : gList [.dT ks vs] P = P (.lst (ks.map fun k => .tup (k.map kD))) := rfl
theorem ev_gList_dK (ks : List Key) (vs : List D) (P : D → Prop) : gList [.dK ks vs] P = P (.lst (ks.map kD)) := rfl
theorem ev_gLen_str (s : Str) (P : D → Prop) : gLen [.str s] P = (s.length ≤ 100000 ∧ P (.int s.length)) := rfl
theorem ev_gLen_dT (ks : List (List Key)) (vs : List D) (P : D → Prop) : gLen [.dT ks vs] P = P (.int ks.length) := rfl
theorem ev_gLen_dK (ks : List Key) (vs : List D) (P : D → Prop) : gLen [.dK ks vs] P = P (.int ks.length) := rfl
theorem ev_lstD_lst (xs : List D) (P : List D → Prop) : lstD (.lst xs) P = P xs := rfl
theorem ev_lstD_rol (xs : List D) (P : List D → Prop) : lstD (.rol xs) P = P xs := rfl
theorem ev_tupD_tup (xs : List D) (P : List D → Prop) : tupD (.tup xs) P = P xs := rfl
theorem ev_lstO_lst (xs : List D) (P : List D → Prop) : lstO (.lst xs) P = P xs := rfl
theorem ev_gSl_lst (xs : List D) (l h : Option Int) (P : D → Prop) : gSl (.lst xs) l h P = P (.lst (cutD xs l h)) := rfl
theorem ev_gSl_rol (xs : List D) (l h : Option Int) (P : D → Prop) : gSl (.rol xs) l h P = P (.lst (cutD xs l h)) := rfl
theorem ev_gSl_tup (xs : List D) (l h : Option Int) (P : D → Prop) : gSl (.tup xs) l h P = P (.tup (cutD xs l h)) := rfl
theorem ev_dlook_dT (ks : List (List Key)) (vs : List D) (y : D) (P : Option D → Prop) : dlook (.dT ks vs) y P = ∃ k, asTK y = some k ∧ P (look ks vs k) := rfl
theorem ev_dlook_dK (ks : List Key) (vs : List D) (y : D) (P : Option D → Prop) : dlook (.dK ks vs) y P = ∃ k, asK y = some k ∧ P (look ks vs k) := rfl
theorem ev_dput_dT (ks : List (List Key)) (vs : List D) (y x : D) (P : D → Prop) : dput (.dT ks vs) y x P = ∃ k, asTK y = some k ∧ ks.length < 100000 ∧ P (.dT (putKs ks k) (putVs ks vs k x)) := rfl
theorem ev_dput_dK (ks : List Key) (vs : List D) (y x : D) (P : D → Prop) : dput (.dK ks vs) y x P = ∃ k, asK y = some k ∧ ks.length < 100000 ∧ P (.dK (putKs ks k) (putVs ks vs k x)) := rfl
theorem ev_retP_nx (P : D → Prop) (ρ : List Sl) : retP P (.nx ρ) = P .non := rfl
theorem ev_retP_rt (P : D → Prop) (d : D) (ρ : List Sl) : retP P (.rt d ρ) = P d := rfl
theorem ev_retP_rf (P : D → Prop) (d : D) (ρ : List Sl) : retP P (.rf d ρ) = P d := rfl
theorem ev_retF_rf (P : D → Prop) (d : D) (ρ : List Sl) : retF P (.rf d ρ) = P d := rfl
theorem ev_retI_nx (P : D → D → Prop) (ρ : List Sl) : retI P (.nx ρ) = ownD ρ 0 fun c => P .non c := rfl
theorem ev_retI_rt (P : D → D → Prop) (d : D) (ρ : List Sl) : retI P (.rt d ρ) = ownD ρ 0 fun c => P d c := rfl
theorem ev_retI_rf (P : D → D → Prop) (d : D) (ρ : List Sl) : retI P (.rf d ρ) = ownD ρ 0 fun c => P d c := rfl
theorem ev_andThen_nx (F : FS) (P : Fl → Prop) (ρ : List Sl) : andThen F P (.nx ρ) = F ρ P := rfl
theorem ev_andThen_rt (F : FS) (P : Fl → Prop) (d : D) (ρ : List Sl) : andThen F P (.rt d ρ) = P (.rt d ρ) := rfl
theorem ev_andThen_rf (F : FS) (P : Fl → Prop) (d : D) (ρ : List Sl) : andThen F P (.rf d ρ) = P (.rf d ρ) := rfl
theorem ev_andThen_bk (F : FS) (P : Fl → Prop) (ρ : List Sl) : andThen F P (.bk ρ) = P (.bk ρ) := rfl
theorem ev_andThen_ct (F : FS) (P : Fl → Prop) (ρ : List Sl) : andThen F P (.ct ρ) = P (.ct ρ) := rfl
theorem ev_frz_own (d : D) : frz (.own d) = .val d := rfl
theorem ev_frz_val (d : D) : frz (.val d) = .val d := rfl
theorem ev_frz_non : frz .non = .non := rfl
theorem ev_scal_int (i : Int) : (scalD (.int i) = true) = True := eq_true rfl
theorem ev_scal_bl (i : Bool) : (scalD (.bl i) = true) = True := eq_true rfl
theorem ev_scal_str (i : Str) : (scalD (.str i) = true) = True := eq_true rfl
theorem ev_scal_non : (scalD .non = true) = True := eq_true rfl
theorem ev_fRng1_int (fs : FA) (ρ : List Sl) (P : List D → List Sl → Prop) : fRng1 fs ρ P = fs ρ fun ds ρ1 => rng1 ds fun xs => P xs ρ1 := by
  unfold fRng1
  congr 1
theorem ev_fRng2_int (fs : FA) (ρ : List Sl) (P : List D → List Sl → Prop) : fRng2 fs ρ P = fs ρ fun ds ρ1 => rng2 ds fun xs => P xs ρ1 := by
  unfold fRng2
  congr 1
theorem ev_rng1_int (j : Int) (P : List D → Prop) : rng1 [.int j] P = (j ≤ 100000 ∧ -100000 ≤ j ∧ P (rangeD 0 j.toNat)) := rfl
theorem ev_rng2_int (i j : Int) (P : List D → Prop) : rng2 [.int i, .int j] P = ((j ≤ 100000 ∧ -100000 ≤ j ∧ i ≤ 100000 ∧ -100000 ≤ i) ∧ P (rangeD i (j - i).toNat)) := rfl
theorem ev_fZip_eq (fs : FA) (ρ : List Sl) (P : List D → List Sl → Prop) : fZip fs ρ P = fs ρ fun ds ρ1 => zip2 ds fun xs => P xs ρ1 := by
  unfold fZip
  congr 1
theorem ev_zip2_lst (xs ys : List D) (P : List D → Prop) : zip2 [.lst xs, .lst ys] P = P (zipD xs ys) := rfl
theorem ev_zip2_tup (xs ys : List D) (P : List D → Prop) : zip2 [.tup xs, .tup ys] P = P (zipD xs ys) := rfl
theorem ev_gdTup_tup (n : Nat) (fs : FGs) (ds : List D) (ρ : List Sl) (P : List Sl → Prop) : gdTup n fs (.tup ds) ρ P = (ds.length = n ∧ fs ds ρ P) := rfl
theorem ev_slotV_val (d : D) (P : D → Prop) (Q : D → Prop) : slotV (some (.val d)) P Q = P d := rfl
theorem ev_slotV_own (d : D) (P : D → Prop) (Q : D → Prop) : slotV (some (.own d)) P Q = Q d := rfl
theorem ev_fVar_eq (i : Nat) (ρ : List Sl) (P : D → List Sl → Prop) : fVar i ρ P = slotV ρ[i]? (fun d => P d ρ) (fun d => P d (ρ.set i (.val d))) := rfl
theorem ev_fVarF_eq (i : Nat) (ρ : List Sl) (P : D → List Sl → Prop) : fVarF i ρ P = slotO ρ[i]? (fun d => P d (ρ.set i .non)) := rfl
theorem ev_ownD_eq (ρ : List Sl) (i : Nat) (P : D → Prop) : ownD ρ i P = slotO ρ[i]? P := rfl
theorem ev_slotO_own (d : D) (P : D → Prop) : slotO (some (.own d)) P = P d := rfl

theorem ev_gdCons (f : FG) (fs : FGs) (d : D) (ds : List D) (ρ : List Sl) (P : List Sl → Prop) : gdCons f fs (d :: ds) ρ P = f d ρ fun ρ1 => fs ds ρ1 P :=
  propext ⟨fun ⟨_, _, e, h⟩ => by cases e; exact h, fun h => ⟨d, ds, rfl, h⟩⟩
theorem ev_gdNil (ρ : List Sl) (P : List Sl → Prop) : gdNil [] ρ P = P ρ := propext ⟨fun h => h.2, fun h => ⟨rfl, h⟩⟩

/-! ### equality on typed contents -/
theorem gLen_seq (x : D) (xs : List D) (P : D → Prop) (h : seqL x = some xs) : gLen [x] P = P (.int xs.length) := by
  cases x with
  | lst ys => cases h; exact propext ⟨fun ⟨_, e, h⟩ => by cases e; exact h, fun h => ⟨_, rfl, h⟩⟩
  | tup ys => cases h; exact propext ⟨fun ⟨_, e, h⟩ => by cases e; exact h, fun h => ⟨_, rfl, h⟩⟩
  | rol ys => cases h; exact propext ⟨fun ⟨_, e, h⟩ => by cases e; exact h, fun h => ⟨_, rfl, h⟩⟩
  | _ => cases h
theorem ev_gLen_lst (xs : List D) (P : D → Prop) : gLen [.lst xs] P = P (.int xs.length) := gLen_seq _ _ P rfl
theorem ev_gLen_tup (xs : List D) (P : D → Prop) : gLen [.tup xs] P = P (.int xs.length) := gLen_seq _ _ P rfl
theorem ev_gLen_rol (xs : List D) (P : D → Prop) : gLen [.rol xs] P = P (.int xs.length) := gLen_seq _ _ P rfl
/-- data whose equality is that of what they are made from -/
structure Dat {α : Type} (f : α → D) (n : Nat) : Prop where
  plain : ∀ a, (toP (f a)).plain = true
  depth : ∀ a, (toP (f a)).depth ≤ n
  eqv : ∀ a b, PyData.eqv (toP (f a)) (toP (f b)) = true ↔ a = b
theorem gEq_dat {α : Type} [DecidableEq α] {f : α → D} {n : Nat} (h : Dat f n) (hn : n ≤ 60) (a b : α) (P : D → Prop) : gEq (f a) (f b) P = P (.bl (decide (a = b))) := by
  have e : PyData.eqv (toP (f a)) (toP (f b)) = decide (a = b) := by
    by_cases q : a = b
    · rw [decide_eq_true q]; exact (h.eqv a b).mpr q
    · rw [decide_eq_false q]
      cases z : PyData.eqv (toP (f a)) (toP (f b)) with
      | false => rfl
      | true => exact absurd ((h.eqv a b).mp z) q
  unfold gEq
  rw [e]
  exact propext ⟨fun h => h.2, fun q => ⟨⟨h.plain a, h.plain b, .inl (Nat.le_trans (h.depth a) hn)⟩, q⟩⟩
theorem gNe_dat {α : Type} [DecidableEq α] {f : α → D} {n : Nat} (h : Dat f n) (hn : n ≤ 60) (a b : α) (P : D → Prop) : gNe (f a) (f b) P = P (.bl (!decide (a = b))) := by
  have e : PyData.eqv (toP (f a)) (toP (f b)) = decide (a = b) := by
    by_cases q : a = b
    · rw [decide_eq_true q]; exact (h.eqv a b).mpr q
    · rw [decide_eq_false q]
      cases z : PyData.eqv (toP (f a)) (toP (f b)) with
      | false => rfl
      | true => exact absurd ((h.eqv a b).mp z) q
  unfold gNe
  rw [e]
  exact propext ⟨fun h => h.2, fun q => ⟨⟨h.plain a, h.plain b, .inl (Nat.le_trans (h.depth a) hn)⟩, q⟩⟩
theorem dat_int : Dat D.int 1 := ⟨fun _ => rfl, fun a => by show PyData.depth (.int a) ≤ 1; simp [PyData.depth], fun a b => by show PyData.eqv (.int a) (.int b) = true ↔ _; simp [PyData.eqv]⟩
theorem dat_bl : Dat D.bl 1 := ⟨fun _ => rfl, fun a => by show PyData.depth (.bool a) ≤ 1; simp [PyData.depth], fun a b => by show PyData.eqv (.bool a) (.bool b) = true ↔ _; simp [PyData.eqv]⟩
theorem dat_str : Dat D.str 1 := ⟨fun _ => rfl, fun a => by show PyData.depth (.str a) ≤ 1; simp [PyData.depth], fun a b => by show PyData.eqv (.str a) (.str b) = true ↔ _; simp [PyData.eqv]⟩
section
variable {α : Type} {f : α → D} {n : Nat}
theorem dat_all (h : Dat f n) : ∀ xs : List α, PyData.plainAll (toPs (xs.map f)) = true ∧ PyData.depthAll (toPs (xs.map f)) ≤ n
  | [] => ⟨rfl, by show PyData.depthAll [] ≤ n; simp [PyData.depthAll]⟩
  | x :: xs => by
    obtain ⟨h1, h2⟩ := dat_all h xs
    have d := h.depth x
    constructor
    · show ((toP (f x)).plain && PyData.plainAll (toPs (xs.map f))) = true
      rw [h.plain, h1]; rfl
    · show PyData.depthAll (toP (f x) :: toPs (xs.map f)) ≤ n
      simp only [PyData.depthAll]
      omega
theorem eqv_all (h : Dat f n) : ∀ xs ys : List α, PyData.eqvAll (toPs (xs.map f)) (toPs (ys.map f)) = true ↔ xs = ys
  | [], [] => by show PyData.eqvAll [] [] = true ↔ _; simp [PyData.eqvAll]
  | [], y :: ys => by show PyData.eqvAll [] (toP (f y) :: toPs (ys.map f)) = true ↔ _; simp [PyData.eqvAll]
  | x :: xs, [] => by show PyData.eqvAll (toP (f x) :: toPs (xs.map f)) [] = true ↔ _; simp [PyData.eqvAll]
  | x :: xs, y :: ys => by
    show PyData.eqvAll (toP (f x) :: toPs (xs.map f)) (toP (f y) :: toPs (ys.map f)) = true ↔ _
    rw [PyData.eqvAll, Bool.and_eq_true, h.eqv, eqv_all h xs ys, List.cons.injEq]
theorem dat_tup (h : Dat f n) : Dat (fun xs : List α => D.tup (xs.map f)) (n + 1) := by
  refine ⟨fun xs => ?_, fun xs => ?_, fun xs ys => ?_⟩
  · show PyData.plain (.tuple (toPs (xs.map f))) = true
    rw [PyData.plain]; exact (dat_all h xs).1
  · show PyData.depth (.tuple (toPs (xs.map f))) ≤ n + 1
    have := (dat_all h xs).2
    simp only [PyData.depth]
    omega
  · show PyData.eqv (.tuple (toPs (xs.map f))) (.tuple (toPs (ys.map f))) = true ↔ _
    rw [PyData.eqv]; exact eqv_all h xs ys
theorem dat_lst (h : Dat f n) : Dat (fun xs : List α => D.lst (xs.map f)) (n + 1) := by
  refine ⟨fun xs => ?_, fun xs => ?_, fun xs ys => ?_⟩
  · show PyData.plain (.list (toPs (xs.map f))) = true
    rw [PyData.plain]; exact (dat_all h xs).1
  · show PyData.depth (.list (toPs (xs.map f))) ≤ n + 1
    have := (dat_all h xs).2
    simp only [PyData.depth]
    omega
  · show PyData.eqv (.list (toPs (xs.map f))) (.list (toPs (ys.map f))) = true ↔ _
    rw [PyData.eqv]; exact eqv_all h xs ys
end
theorem dat_tupI : Dat tupI 2 := dat_tup dat_int
theorem dat_tupsI : Dat (fun xs : List (List Int) => D.lst (xs.map tupI)) 3 := dat_lst dat_tupI
theorem ev_gEq_int (a b : Int) (P : D → Prop) : gEq (.int a) (.int b) P = P (.bl (decide (a = b))) := gEq_dat dat_int (by decide) a b P
theorem ev_gNe_int (a b : Int) (P : D → Prop) : gNe (.int a) (.int b) P = P (.bl (!decide (a = b))) := gNe_dat dat_int (by decide) a b P
theorem ev_gEq_str (a b : Str) (P : D → Prop) : gEq (.str a) (.str b) P = P (.bl (decide (a = b))) := gEq_dat dat_str (by decide) a b P
theorem ev_gNe_str (a b : Str) (P : D → Prop) : gNe (.str a) (.str b) P = P (.bl (!decide (a = b))) := gNe_dat dat_str (by decide) a b P
theorem ev_gIs_nonnon (P : D → Prop) : gIs .non .non P = P (.bl true) := rfl
theorem ev_seqD_lst (xs : List D) (P : List D → Prop) : seqD (.lst xs) P = P xs := rfl
theorem ev_seqD_tup (xs : List D) (P : List D → Prop) : seqD (.tup xs) P = P xs := rfl
theorem ev_seqD_rol (xs : List D) (P : List D → Prop) : seqD (.rol xs) P = P xs := rfl
theorem ev_asK_str (s : Str) : asK (.str s) = some (.inr s) := rfl
theorem ev_asK_int (i : Int) : asK (.int i) = some (.inl i) := rfl
theorem ev_isDict_dK (ks : List Key) (vs : List D) : isDict (.dK ks vs) = true := rfl
theorem ev_isDict_dT (ks : List (List Key)) (vs : List D) : isDict (.dT ks vs) = true := rfl
theorem ev_gEq_bl (a b : Bool) (P : D → Prop) : gEq (.bl a) (.bl b) P = P (.bl (decide (a = b))) := gEq_dat dat_bl (by decide) a b P
theorem ev_gNe_bl (a b : Bool) (P : D → Prop) : gNe (.bl a) (.bl b) P = P (.bl (!decide (a = b))) := gNe_dat dat_bl (by decide) a b P
theorem gEq_tupI (a b : List Int) (P : D → Prop) : gEq (tupI a) (tupI b) P = P (.bl (decide (a = b))) := gEq_dat dat_tupI (by decide) a b P
theorem gNe_tupI (a b : List Int) (P : D → Prop) : gNe (tupI a) (tupI b) P = P (.bl (!decide (a = b))) := gNe_dat dat_tupI (by decide) a b P
theorem gEq_tupsI (a b : List (List Int)) (P : D → Prop) : gEq (.lst (a.map tupI)) (.lst (b.map tupI)) P = P (.bl (decide (a = b))) := gEq_dat dat_tupsI (by decide) a b P
theorem gNe_tupsI (a b : List (List Int)) (P : D → Prop) : gNe (.lst (a.map tupI)) (.lst (b.map tupI)) P = P (.bl (!decide (a = b))) := gNe_dat dat_tupsI (by decide) a b P

/-! ### comprehensions over ranges, zips -/
theorem rangeD_get {lo : Int} {n i : Nat} {d : D} (h : (rangeD lo n)[i]? = some d) : i < n ∧ d = .int (lo + i) := by
  unfold rangeD at h
  rw [List.getElem?_map] at h
  cases q : (List.range n)[i]? with
  | none => rw [q] at h; cases h
  | some j =>
    rw [q] at h
    have hl := (List.getElem?_eq_some_iff.mp q).1
    rw [List.length_range] at hl
    rw [List.getElem?_range hl] at q
    cases q
    exact ⟨hl, (Option.some.inj h).symm⟩
theorem rangeD_len (lo : Int) (n : Nat) : (rangeD lo n).length = n := by unfold rangeD; rw [List.length_map, List.length_range]
theorem lc_range {g : FG} {fe : FE} {vs : List Nat} {P : List D → List Sl → Prop} {ρ : List Sl} (n : Nat) (h : Nat → D) (hn : n ≤ 100000)
    (step : ∀ i, i < n → ∀ k : D → List Sl → Prop, (∀ ρ3, wipeS ρ3 vs = ρ → k (h i) ρ3) → g (.int (i : Int)) ρ fun ρ1 => fe ρ1 k) (fin : P ((List.range n).map h) ρ) : lcGo g fYes fe vs (rangeD 0 n) [] ρ P := by
  have key : ∀ (m s : Nat) (acc : List D), s + m = n → acc = (List.range s).map h → lcGo g fYes fe vs ((List.range' s m).map fun i => D.int (0 + (i : Nat))) acc ρ P := by
    intro m
    induction m with
    | zero =>
      intro s acc e ea
      have : s = n := by omega
      subst this
      subst ea
      exact fin
    | succ m ih =>
      intro s acc e ea
      rw [List.range'_succ, List.map_cons]
      show g (.int (0 + (s : Nat))) ρ fun ρ1 => _
      rw [Int.zero_add]
      refine step s (by omega) _ fun ρ3 e3 => ⟨?_, ?_⟩
      · rw [ea, List.length_map, List.length_range]; omega
      · rw [e3]
        refine ih (s + 1) _ (by omega) ?_
        rw [ea, List.range_succ, List.map_append]
        rfl
  have := key n 0 [] (by omega) rfl
  unfold rangeD
  rw [List.range_eq_range']
  exact this
theorem zipD_ints : ∀ a b : List Int, zipD (a.map .int) (b.map .int) = List.zipWith (fun x y => D.tup [.int x, .int y]) a b
  | [], _ => by simp [zipD]
  | _ :: _, [] => by simp [zipD]
  | x :: a, y :: b => by
    rw [List.map_cons, List.map_cons, List.zipWith_cons_cons, ← zipD_ints a b]
    rfl
theorem lc_zip {g : FG} {fe : FE} {vs : List Nat} {P : List D → List Sl → Prop} {ρ : List Sl} (h : Int → Int → D) : ∀ (a b : List Int) (acc : List D), acc.length + a.length ≤ 100000 →
    (∀ (x y : Int) (k : D → List Sl → Prop), (∀ ρ3, wipeS ρ3 vs = ρ → k (h x y) ρ3) → g (.tup [.int x, .int y]) ρ fun ρ1 => fe ρ1 k) → P (acc ++ List.zipWith h a b) ρ → lcGo g fYes fe vs (zipD (a.map .int) (b.map .int)) acc ρ P
  | [], _, acc, _, _, fin => by
    rw [List.zipWith_nil_left, List.append_nil] at fin
    exact fin
  | _ :: _, [], acc, _, _, fin => by
    rw [List.zipWith_nil_right, List.append_nil] at fin
    exact fin
  | x :: a, y :: b, acc, hl, step, fin => by
    rw [List.length_cons] at hl
    show g (.tup [.int x, .int y]) ρ fun ρ1 => _
    refine step x y _ fun ρ3 e3 => ⟨by omega, ?_⟩
    rw [e3]
    refine lc_zip h a b _ (by rw [List.length_append, List.length_singleton]; omega) step ?_
    rw [List.append_assoc]
    exact fin
/-! ### tuples and lists of ints, as they are -/
def lstI (L : List Int) : D := .lst (L.map .int)
theorem map_snoc (L : List Int) (l : Int) : (L ++ [l]).map D.int = L.map D.int ++ [D.int l] := by rw [List.map_append]; rfl
theorem ev_gAdd_tupI1 (g : List Int) (l : Int) (P : D → Prop) : gAdd (tupI g) (.tup [.int l]) P = (g.length + 1 ≤ 100000 ∧ P (tupI (g ++ [l]))) := by
  unfold tupI
  rw [ev_gAdd_tup, List.length_map, map_snoc]
  rfl
theorem ev_gAdd_tupI2 (g : List Int) (l : Int) (P : D → Prop) : gAdd (.tup [.int l]) (tupI g) P = (1 + g.length ≤ 100000 ∧ P (tupI (l :: g))) := by
  unfold tupI
  rw [ev_gAdd_tup, List.length_map]
  rfl
theorem ev_gLen_tupI (g : List Int) (P : D → Prop) : gLen [tupI g] P = P (.int g.length) := by unfold tupI; rw [ev_gLen_tup, List.length_map]
theorem ev_gLen_lstI (g : List Int) (P : D → Prop) : gLen [lstI g] P = P (.int g.length) := by unfold lstI; rw [ev_gLen_lst, List.length_map]
theorem ev_tupD_tupI (g : List Int) (P : List D → Prop) : tupD (tupI g) P = P (g.map .int) := rfl
theorem ev_lstD_lstI (g : List Int) (P : List D → Prop) : lstD (lstI g) P = P (g.map .int) := rfl
theorem ev_seqD_tupI (g : List Int) (P : List D → Prop) : seqD (tupI g) P = P (g.map .int) := rfl
theorem ev_seqD_lstI (g : List Int) (P : List D → Prop) : seqD (lstI g) P = P (g.map .int) := rfl
theorem isi_tupI_tuple (g : List Int) : isiB (tupI g) "tuple" = some true := isi_tup_tuple _
theorem isi_tupI_list (g : List Int) : isiB (tupI g) "list" = some false := isi_tup_list _
theorem isi_tupI_int (g : List Int) : isiB (tupI g) "int" = some false := isi_tup_int _
theorem isi_lstI_list (g : List Int) : isiB (lstI g) "list" = some true := isi_lst_list _
def atN (xs : List Int) (k : Int) : Option Int := (ixN xs.length k).bind (xs[·]?)
theorem atI_map (xs : List Int) (k : Int) : atI (xs.map .int) k = (atN xs k).map D.int := by
  unfold atI atN
  rw [List.length_map]
  cases ixN xs.length k with
  | none => rfl
  | some n => rw [Option.bind_some, Option.bind_some, List.getElem?_map]
theorem ev_gIx_tupI (xs : List Int) (k : Int) (P : D → Prop) : gIx (tupI xs) (.int k) P = optP (atN xs k) fun i => P (.int i) := by
  rw [gIx_eq]
  show optP (atI (xs.map .int) k) P = _
  rw [atI_map]
  cases atN xs k <;> rfl
theorem ev_gIx_lstI (xs : List Int) (k : Int) (P : D → Prop) : gIx (lstI xs) (.int k) P = optP (atN xs k) fun i => P (.int i) := by
  rw [gIx_eq]
  show optP (atI (xs.map .int) k) P = _
  rw [atI_map]
  cases atN xs k <;> rfl
theorem atN_nat {xs : List Int} {k : Nat} (h : k < xs.length) : atN xs (k : Int) = some (xs.getD k 0) := by
  unfold atN ixN
  rw [if_pos (by omega), if_pos (by omega), Option.bind_some]
  rw [List.getElem?_eq_getElem (by simpa using h), List.getD_eq_getElem?_getD, List.getElem?_eq_getElem h]
  simp
theorem ev_lstO_lstI (g : List Int) (P : List D → Prop) : lstO (lstI g) P = P (g.map .int) := rfl
theorem seqL_tupI (xs : List Int) : seqL (tupI xs) = some (xs.map .int) := rfl
theorem ev_gTuple_ints (xs : List Int) (P : D → Prop) : gTuple [.lst (xs.map .int)] P = P (tupI xs) := rfl
theorem ev_pow15 : (10 : Int) ^ Int.toNat 15 = 1000000000000000 := by decide
theorem ev_atI_last (xs : List D) (x : D) : atI (xs ++ [x]) (-1) = some x := by
  unfold atI ixN
  rw [List.length_append, List.length_singleton]
  rw [if_neg (by omega), if_pos (by omega)]
  rw [Option.bind_some]
  have : ((-1 : Int) + ((xs.length + 1 : Nat) : Int)).toNat = xs.length := by omega
  rw [this, List.getElem?_append_right (Nat.le_refl _), Nat.sub_self]
  rfl
theorem cmul_r (i : Int) {j : Int} (h : -(2 ^ 64) < j ∧ j < 2 ^ 64) : CMul i j ∨ CMulW i j := .inl (.inr h)
theorem cmul_l (j : Int) {i : Int} (h : -(2 ^ 64) < i ∧ i < 2 ^ 64) : CMul i j ∨ CMulW i j := .inl (.inl h)
theorem cdivW {i j : Int} (h : 0 < j) (h2 : j < 10 ^ 16) : CDivW i j := wide_div (b := 60) h (by omega) (by decide) (by decide)
theorem cpow10 {j : Int} (h : 0 ≤ j) (h2 : j ≤ 1000000) : CPow 10 j := ⟨h, h2, by decide⟩
theorem gList_seq (x : D) (xs : List D) (P : D → Prop) (h : seqL x = some xs) : gList [x] P = P (.lst xs) := by
  cases x with
  | lst ys => cases h; exact propext ⟨fun ⟨_, e, h⟩ => by cases e; exact h, fun h => ⟨_, rfl, h⟩⟩
  | tup ys => cases h; exact propext ⟨fun ⟨_, e, h⟩ => by cases e; exact h, fun h => ⟨_, rfl, h⟩⟩
  | rol ys => cases h; exact propext ⟨fun ⟨_, e, h⟩ => by cases e; exact h, fun h => ⟨_, rfl, h⟩⟩
  | _ => cases h
theorem ev_gList_lst (xs : List D) (P : D → Prop) : gList [.lst xs] P = P (.lst xs) := gList_seq _ _ P rfl
theorem ev_gList_tup (xs : List D) (P : D → Prop) : gList [.tup xs] P = P (.lst xs) := gList_seq _ _ P rfl
theorem ev_gList_rol (xs : List D) (P : D → Prop) : gList [.rol xs] P = P (.lst xs) := gList_seq _ _ P rfl
theorem ev_gList_tupI (xs : List Int) (P : D → Prop) : gList [tupI xs] P = P (lstI xs) := gList_seq _ _ P rfl
theorem ev_gSl_tupI (xs : List Int) (l h : Option Int) (P : D → Prop) : gSl (tupI xs) l h P = P (.tup (cutD (xs.map .int) l h)) := rfl
theorem isi_lstI_tuple (g : List Int) : isiB (lstI g) "tuple" = some false := isi_lst_tuple _
theorem mem_cutD {ds : List D} {l h : Option Int} {x : D} (m : x ∈ cutD ds l h) : x ∈ ds := List.mem_of_mem_drop (List.mem_of_mem_take m)
theorem ev_gLt_tupI (a b : List Int) (P : D → Prop) : gLt (tupI a) (tupI b) P = P (.bl (HT.lexLt a b)) := by
  show (intsD (a.map .int) fun is => intsD (b.map .int) fun js => P (.bl (HT.lexLt is js))) = _
  rw [intsD_eq, intsD_eq]
theorem atI_mapN {α : Type} (f : α → D) {xs : List α} {k : Nat} {x : α} (h : xs[k]? = some x) : atI (xs.map f) (k : Int) = some (f x) := by
  rw [atI_nn, List.getElem?_map, h]
  rfl
theorem look_some {κ : Type} [DecidableEq κ] (k : κ) : ∀ (ks : List κ) (vs : List D), vs.length = ks.length → (look ks vs k).isSome = decide (k ∈ ks)
  | [], [], _ => by rw [decide_eq_false (fun h => nomatch h)]; rfl
  | k' :: ks, v :: vs, h => by
    unfold look
    by_cases e : k' = k
    · rw [if_pos e, decide_eq_true (by rw [e]; exact List.mem_cons_self)]
      rfl
    · rw [if_neg e, look_some k ks vs (Nat.succ.inj h)]
      refine decide_eq_decide.mpr ⟨fun h => List.mem_cons_of_mem _ h, fun h => ?_⟩
      rcases List.mem_cons.mp h with h | h
      · exact absurd h.symm e
      · exact h
theorem look_mem {κ : Type} [DecidableEq κ] {k : κ} {ks : List κ} {vs : List D} (h : vs.length = ks.length) (hk : k ∈ ks) : (look ks vs k).isSome = true := by
  rw [look_some k ks vs h]
  exact decide_eq_true hk
theorem repl_len {κ : Type} [DecidableEq κ] (k : κ) (x : D) : ∀ (ks : List κ) (vs : List D), vs.length = ks.length → (replV ks vs k x).length = ks.length
  | [], [], _ => rfl
  | k' :: ks, v :: vs, h => by
    unfold replV
    rw [List.length_cons, List.length_cons, repl_len k x ks vs (Nat.succ.inj h)]
theorem put_len {κ : Type} [DecidableEq κ] {k : κ} {x : D} {ks : List κ} {vs : List D} (h : vs.length = ks.length) : (putVs ks vs k x).length = (putKs ks k).length := by
  unfold putVs putKs
  split
  · exact repl_len k x ks vs h
  · rw [List.length_append, List.length_append, h]; rfl
theorem lex_tot : ∀ a b : List Int, HT.lexLt a b = false → HT.lexLt b a = false → a = b
  | [], [], _, _ => rfl
  | [], _ :: _, h, _ => (nomatch h)
  | _ :: _, [], _, h => (nomatch h)
  | x :: a, y :: b, h1, h2 => by
    rw [HT.lexLt_cons] at h1 h2
    by_cases e : x = y
    · subst e
      rw [if_pos rfl] at h1 h2
      rw [lex_tot a b h1 h2]
    · rw [if_neg e] at h1
      rw [if_neg (Ne.symm e)] at h2
      have := of_decide_eq_false h1
      have := of_decide_eq_false h2
      omega
/-- a slice, of any list -/
def cutL {α : Type} (xs : List α) (l h : Option Int) : List α := (xs.drop (HT.sIx xs.length 0 l)).take (HT.sIx xs.length xs.length h - HT.sIx xs.length 0 l)
theorem cutD_map {α : Type} (f : α → D) (xs : List α) (l h : Option Int) : cutD (xs.map f) l h = (cutL xs l h).map f := by
  unfold cutD cutL
  rw [List.length_map, ← List.map_drop, ← List.map_take]
theorem mem_cutL {α : Type} {xs : List α} {l h : Option Int} {x : α} (m : x ∈ cutL xs l h) : x ∈ xs := List.mem_of_mem_drop (List.mem_of_mem_take m)
theorem len_cutL {α : Type} (xs : List α) (l h : Option Int) : (cutL xs l h).length ≤ xs.length := by
  unfold cutL
  rw [List.length_take, List.length_drop]
  omega
theorem ev_gSumL (bs : List Int) (P : D → Prop) : gSumL [.lst (bs.map .int)] P = P (.int bs.sum) := intsD_eq bs _
theorem ev_keysD_dT (ks : List (List Key)) (vs : List D) (P : List D → Prop) : keysD (.dT ks vs) P = P (ks.map fun k => .tup (k.map kD)) := rfl
theorem ev_keysD_dK (ks : List Key) (vs : List D) (P : List D → Prop) : keysD (.dK ks vs) P = P (ks.map kD) := rfl
/-! ### loops over mapped lists -/
theorem lc_mapT {α : Type} {g : FG} {fe : FE} {vs : List Nat} {P : List D → List Sl → Prop} {ρ : List Sl} (f F : α → D) : ∀ (xs : List α) (acc : List D), acc.length + xs.length ≤ 100000 →
    (∀ x ∈ xs, ∀ k : D → List Sl → Prop, (∀ ρ3, wipeS ρ3 vs = ρ → k (F x) ρ3) → g (f x) ρ fun ρ1 => fe ρ1 k) → P (acc ++ xs.map F) ρ → lcGo g fYes fe vs (xs.map f) acc ρ P
  | [], acc, _, _, h => by
    rw [List.map_nil, List.append_nil] at h
    exact h
  | x :: xs, acc, hl, hs, h => by
    rw [List.length_cons] at hl
    show g (f x) ρ fun ρ1 => fYes ρ1 fun b ρ2 => _
    refine hs x List.mem_cons_self _ fun ρ3 e => ?_
    refine ⟨by omega, ?_⟩
    rw [e]
    refine lc_mapT f F xs (acc ++ [F x]) (by rw [List.length_append, List.length_singleton]; omega) (fun y hy => hs y (List.mem_cons_of_mem _ hy)) ?_
    rw [List.append_assoc]
    exact h
theorem for_invT {α : Type} {g : FG} {B : FS} {P : Fl → Prop} (f : α → D) (I : Nat → List Sl → Prop) (xs : List α) (ρ : List Sl) (h0 : I 0 ρ)
    (hs : ∀ (j : Nat) (x : α) (ρ : List Sl), xs[j]? = some x → I j ρ → ∀ k : Fl → Prop, (∀ ρ', I (j + 1) ρ' → k (.nx ρ') ∧ k (.ct ρ')) → (∀ ρ', P (.nx ρ') → k (.bk ρ')) → (∀ d ρ', P (.rt d ρ') → k (.rt d ρ')) → (∀ d ρ', P (.rf d ρ') → k (.rf d ρ')) →
      g (f x) ρ fun ρ1 => B ρ1 k) (hd : ∀ ρ, I xs.length ρ → P (.nx ρ)) : forGo g B (xs.map f) ρ P := by
  refine for_inv I _ 0 ρ h0 (fun j d ρ hj hI k h1 h2 h3 h4 => ?_) (fun ρ hI => hd ρ ?_)
  · rw [List.getElem?_map] at hj
    cases q : xs[j]? with
    | none => rw [q] at hj; cases hj
    | some x =>
      rw [q] at hj
      cases hj
      rw [Nat.zero_add] at hI
      refine hs j x ρ q hI k (fun ρ' h => h1 ρ' ?_) h2 h3 h4
      rw [Nat.zero_add]
      exact h
  · rw [Nat.zero_add, List.length_map] at hI
    exact hI
theorem for_invD {g : FG} {B : FS} {P : Fl → Prop} (I : Nat → List Sl → Prop) (xs : List D) (ρ : List Sl) (h0 : I 0 ρ)
    (hs : ∀ (j : Nat) (x : D) (ρ : List Sl), xs[j]? = some x → I j ρ → ∀ k : Fl → Prop, (∀ ρ', I (j + 1) ρ' → k (.nx ρ') ∧ k (.ct ρ')) → (∀ ρ', P (.nx ρ') → k (.bk ρ')) → (∀ d ρ', P (.rt d ρ') → k (.rt d ρ')) → (∀ d ρ', P (.rf d ρ') → k (.rf d ρ')) →
      g x ρ fun ρ1 => B ρ1 k) (hd : ∀ ρ, I xs.length ρ → P (.nx ρ)) : forGo g B xs ρ P := by
  have := for_invT id I xs ρ h0 hs hd
  rw [List.map_id] at this
  exact this
theorem for_range {g : FG} {B : FS} {P : Fl → Prop} (I : Nat → List Sl → Prop) (lo : Int) (n : Nat) (ρ : List Sl) (h0 : I 0 ρ)
    (hs : ∀ (j : Nat) (ρ : List Sl), j < n → I j ρ → ∀ k : Fl → Prop, (∀ ρ', I (j + 1) ρ' → k (.nx ρ') ∧ k (.ct ρ')) → (∀ ρ', P (.nx ρ') → k (.bk ρ')) → (∀ d ρ', P (.rt d ρ') → k (.rt d ρ')) → (∀ d ρ', P (.rf d ρ') → k (.rf d ρ')) →
      g (.int (lo + j)) ρ fun ρ1 => B ρ1 k) (hd : ∀ ρ, I n ρ → P (.nx ρ)) : forGo g B (rangeD lo n) ρ P := by
  refine for_inv I _ 0 ρ h0 (fun j d ρ hj hI k h1 h2 h3 h4 => ?_) (fun ρ hI => hd ρ ?_)
  · obtain ⟨hj', rfl⟩ := rangeD_get hj
    rw [Nat.zero_add] at hI
    refine hs j ρ hj' hI k (fun ρ' h => h1 ρ' ?_) h2 h3 h4
    rw [Nat.zero_add]
    exact h
  · rw [Nat.zero_add, rangeD_len] at hI
    exact hI
theorem lc_invT {α : Type} {g : FG} {t : FT} {fe : FE} {vs : List Nat} {P : List D → List Sl → Prop} (f : α → D) (I : Nat → List D → List Sl → Prop) (xs : List α) (ρ : List Sl) (h0 : I 0 [] ρ)
    (hs : ∀ (j : Nat) (x : α) (acc : List D) (ρ : List Sl), xs[j]? = some x → I j acc ρ → ∀ k : List D → List Sl → Prop, (∀ acc' ρ', I (j + 1) acc' ρ' → k acc' ρ') →
      g (f x) ρ fun ρ1 => t ρ1 fun b ρ2 => if b = true then fe ρ2 fun x ρ3 => acc.length < 100000 ∧ k (acc ++ [x]) (wipeS ρ3 vs) else k acc (wipeS ρ2 vs))
    (hd : ∀ acc ρ, I xs.length acc ρ → P acc ρ) : lcGo g t fe vs (xs.map f) [] ρ P := by
  refine lc_inv I _ 0 [] ρ h0 (fun j d acc ρ hj hI k h1 => ?_) (fun acc ρ hI => hd acc ρ ?_)
  · rw [List.getElem?_map] at hj
    cases q : xs[j]? with
    | none => rw [q] at hj; cases hj
    | some x =>
      rw [q] at hj
      cases hj
      rw [Nat.zero_add] at hI
      refine hs j x acc ρ q hI k fun acc' ρ' h => h1 acc' ρ' ?_
      rw [Nat.zero_add]
      exact h
  · rw [Nat.zero_add, List.length_map] at hI
    exact hI
theorem lc_rangeI {g : FG} {t : FT} {fe : FE} {vs : List Nat} {P : List D → List Sl → Prop} (I : Nat → List D → List Sl → Prop) (lo : Int) (n : Nat) (ρ : List Sl) (h0 : I 0 [] ρ)
    (hs : ∀ (j : Nat) (acc : List D) (ρ : List Sl), j < n → I j acc ρ → ∀ k : List D → List Sl → Prop, (∀ acc' ρ', I (j + 1) acc' ρ' → k acc' ρ') →
      g (.int (lo + j)) ρ fun ρ1 => t ρ1 fun b ρ2 => if b = true then fe ρ2 fun x ρ3 => acc.length < 100000 ∧ k (acc ++ [x]) (wipeS ρ3 vs) else k acc (wipeS ρ2 vs))
    (hd : ∀ acc ρ, I n acc ρ → P acc ρ) : lcGo g t fe vs (rangeD lo n) [] ρ P := by
  refine lc_inv I _ 0 [] ρ h0 (fun j d acc ρ hj hI k h1 => ?_) (fun acc ρ hI => hd acc ρ ?_)
  · obtain ⟨hj', rfl⟩ := rangeD_get hj
    rw [Nat.zero_add] at hI
    refine hs j acc ρ hj' hI k fun acc' ρ' h => h1 acc' ρ' ?_
    rw [Nat.zero_add]
    exact h
  · rw [Nat.zero_add, rangeD_len] at hI
    exact hI
theorem bool_if {b : Bool} {A B : Prop} (h1 : b = true → A) (h2 : b = false → B) : if b = true then A else B := by
  cases b with
  | true => rw [if_pos rfl]; exact h1 rfl
  | false => rw [if_neg Bool.false_ne_true]; exact h2 rfl
theorem bool_ifF {b : Bool} {A B : Prop} (h1 : b = false → A) (h2 : b = true → B) : if b = false then A else B := by
  cases b with
  | false => rw [if_pos rfl]; exact h1 rfl
  | true => rw [if_neg (fun h => nomatch h)]; exact h2 rfl
end DL

/-! DLC: evaluation, head first (printed by mkC.py). -/
namespace DL
open PySem L2
inductive Tg {α : Type} (a : α) : Type | mk
def AP1 {β : Type} (m : (β → Prop) → Prop) (P : β → Prop) (_t : Tg P) : Prop := m P
def AP2 {β γ : Type} (m : (β → γ → Prop) → Prop) (P : β → γ → Prop) (_t : Tg P) : Prop := m P
def BR (b : Bool) (A B : Unit → Prop) (_t : Tg A) (_u : Tg B) : Prop := if b = true then A () else B ()
theorem AP1_eq {β : Type} (m : (β → Prop) → Prop) (P : β → Prop) (t : Tg P) : AP1 m P t = m P := propext (iff_of_eq rfl)
theorem AP2_eq {β γ : Type} (m : (β → γ → Prop) → Prop) (P : β → γ → Prop) (t : Tg P) : AP2 m P t = m P := propext (iff_of_eq rfl)
theorem BR_eq (b : Bool) (A B : Unit → Prop) (t : Tg A) (u : Tg B) : BR b A B t u = if b = true then A () else B () := propext (iff_of_eq rfl)
def slotQ (o : Option Sl) (P : Bool × D → Prop) : Prop := match o with
  | some (.val d) => P (true, d)
  | some (.own d) => P (false, d)
  | _ => False
theorem ex_optP {α : Type} (o : Option α) (P : α → Prop) : (∃ n, o = some n ∧ P n) = optP o P := by
  cases o with
  | none => exact propext ⟨fun ⟨_, e, _⟩ => (nomatch e), fun h => (show False from h).elim⟩
  | some a => exact propext ⟨fun ⟨_, e, h⟩ => by cases e; exact h, fun h => ⟨_, rfl, h⟩⟩
theorem asKs_ints : ∀ xs : List Int, asKs (xs.map .int) = some (xs.map .inl)
  | [] => rfl
  | x :: xs => by
    rw [List.map_cons, asKs, asKs_ints xs]
    rfl
theorem w_fVar {i ρ P} : fVar i ρ P = AP2 (fVar i ρ) P .mk := propext (iff_of_eq (rfl))
theorem c_fVar {i ρ P} {tg : Tg P} : AP2 (fVar i ρ) P tg = (AP1 (slotQ ρ[i]?) (fun q => BR q.1 (fun _ => P q.2 ρ) (fun _ => P q.2 (ρ.set i (.val q.2))) .mk .mk) .mk) := propext (iff_of_eq (by
  show fVar i ρ P = _
  rw [ev_fVar_eq]
  cases ρ[i]? with
  | none => rfl
  | some s => cases s <;> rfl))
theorem w_fC {d ρ P} : fC d ρ P = AP2 (fC d ρ) P .mk := propext (iff_of_eq (rfl))
theorem c_fC {d ρ P} {tg : Tg P} : AP2 (fC d ρ) P tg = (P d ρ) := propext (iff_of_eq (rfl))
theorem w_fOp {g fx fy ρ P} : fOp g fx fy ρ P = AP2 (fOp g fx fy ρ) P .mk := propext (iff_of_eq (rfl))
theorem c_fOp {g fx fy ρ P} {tg : Tg P} : AP2 (fOp g fx fy ρ) P tg = (AP2 (fx ρ) (fun x ρ1 => AP2 (fy ρ1) (fun y ρ2 => AP1 (g x y) (fun z => P z ρ2) .mk) .mk) .mk) := propext (iff_of_eq (rfl))
theorem w_fTst {f ρ P} : fTst f ρ P = AP2 (fTst f ρ) P .mk := propext (iff_of_eq (rfl))
theorem c_fTst {f ρ P} {tg : Tg P} : AP2 (fTst f ρ) P tg = (AP2 (f ρ) (fun d ρ1 => AP1 (asB d) (fun b => P b ρ1) .mk) .mk) := propext (iff_of_eq (rfl))
theorem w_fAnd {t u ρ P} : fAnd t u ρ P = AP2 (fAnd t u ρ) P .mk := propext (iff_of_eq (rfl))
theorem c_fAnd {t u ρ P} {tg : Tg P} : AP2 (fAnd t u ρ) P tg = (AP2 (t ρ) (fun b ρ1 => BR b (fun _ => AP2 (u ρ1) P .mk) (fun _ => P false ρ1) .mk .mk) .mk) := propext (iff_of_eq (rfl))
theorem w_fOr {t u ρ P} : fOr t u ρ P = AP2 (fOr t u ρ) P .mk := propext (iff_of_eq (rfl))
theorem c_fOr {t u ρ P} {tg : Tg P} : AP2 (fOr t u ρ) P tg = (AP2 (t ρ) (fun b ρ1 => BR b (fun _ => P true ρ1) (fun _ => AP2 (u ρ1) P .mk) .mk .mk) .mk) := propext (iff_of_eq (rfl))
theorem w_fNot {t ρ P} : fNot t ρ P = AP2 (fNot t ρ) P .mk := propext (iff_of_eq (rfl))
theorem c_fNot {t ρ P} {tg : Tg P} : AP2 (fNot t ρ) P tg = (AP2 (t ρ) (fun b ρ1 => P (!b) ρ1) .mk) := propext (iff_of_eq (rfl))
theorem w_fAndV {f g ρ P} : fAndV f g ρ P = AP2 (fAndV f g ρ) P .mk := propext (iff_of_eq (rfl))
theorem c_fAndV {f g ρ P} {tg : Tg P} : AP2 (fAndV f g ρ) P tg = (AP2 (f ρ) (fun d ρ1 => AP1 (asB d) (fun b => BR b (fun _ => AP2 (g ρ1) P .mk) (fun _ => P (.bl false) ρ1) .mk .mk) .mk) .mk) := propext (iff_of_eq (rfl))
theorem w_fOrV {f g ρ P} : fOrV f g ρ P = AP2 (fOrV f g ρ) P .mk := propext (iff_of_eq (rfl))
theorem c_fOrV {f g ρ P} {tg : Tg P} : AP2 (fOrV f g ρ) P tg = (AP2 (f ρ) (fun d ρ1 => AP1 (asB d) (fun b => BR b (fun _ => P (.bl true) ρ1) (fun _ => AP2 (g ρ1) P .mk) .mk .mk) .mk) .mk) := propext (iff_of_eq (rfl))
theorem w_fNotV {f ρ P} : fNotV f ρ P = AP2 (fNotV f ρ) P .mk := propext (iff_of_eq (rfl))
theorem c_fNotV {f ρ P} {tg : Tg P} : AP2 (fNotV f ρ) P tg = (AP2 (f ρ) (fun d ρ1 => AP1 (asB d) (fun b => P (.bl (!b)) ρ1) .mk) .mk) := propext (iff_of_eq (rfl))
theorem w_fIf {t f g ρ P} : fIf t f g ρ P = AP2 (fIf t f g ρ) P .mk := propext (iff_of_eq (rfl))
theorem c_fIf {t f g ρ P} {tg : Tg P} : AP2 (fIf t f g ρ) P tg = (AP2 (t ρ) (fun b ρ1 => BR b (fun _ => AP2 (f ρ1) P .mk) (fun _ => AP2 (g ρ1) P .mk) .mk .mk) .mk) := propext (iff_of_eq (rfl))
theorem w_fUn {g fx ρ P} : fUn g fx ρ P = AP2 (fUn g fx ρ) P .mk := propext (iff_of_eq (rfl))
theorem c_fUn {g fx ρ P} {tg : Tg P} : AP2 (fUn g fx ρ) P tg = (AP2 (fx ρ) (fun x ρ1 => AP1 (g x) (fun z => P z ρ1) .mk) .mk) := propext (iff_of_eq (rfl))
theorem w_fNil {ρ P} : fNil ρ P = AP2 (fNil ρ) P .mk := propext (iff_of_eq (rfl))
theorem c_fNil {ρ P} {tg : Tg P} : AP2 (fNil ρ) P tg = (P [] ρ) := propext (iff_of_eq (rfl))
theorem w_fCons {f fs ρ P} : fCons f fs ρ P = AP2 (fCons f fs ρ) P .mk := propext (iff_of_eq (rfl))
theorem c_fCons {f fs ρ P} {tg : Tg P} : AP2 (fCons f fs ρ) P tg = (AP2 (f ρ) (fun d ρ1 => AP2 (fs ρ1) (fun ds ρ2 => P (d :: ds) ρ2) .mk) .mk) := propext (iff_of_eq (rfl))
theorem w_fTup {fs ρ P} : fTup fs ρ P = AP2 (fTup fs ρ) P .mk := propext (iff_of_eq (rfl))
theorem c_fTup {fs ρ P} {tg : Tg P} : AP2 (fTup fs ρ) P tg = (AP2 (fs ρ) (fun ds ρ1 => ds.length ≤ 100000 ∧ P (.tup ds) ρ1) .mk) := propext (iff_of_eq (rfl))
theorem w_fLst {fs ρ P} : fLst fs ρ P = AP2 (fLst fs ρ) P .mk := propext (iff_of_eq (rfl))
theorem c_fLst {fs ρ P} {tg : Tg P} : AP2 (fLst fs ρ) P tg = (AP2 (fs ρ) (fun ds ρ1 => ds.length ≤ 100000 ∧ P (.lst ds) ρ1) .mk) := propext (iff_of_eq (rfl))
theorem w_fCall {g fs ρ P} : fCall g fs ρ P = AP2 (fCall g fs ρ) P .mk := propext (iff_of_eq (rfl))
theorem c_fCall {g fs ρ P} {tg : Tg P} : AP2 (fCall g fs ρ) P tg = (AP2 (fs ρ) (fun ds ρ1 => AP1 (g ds) (fun d => P d ρ1) .mk) .mk) := propext (iff_of_eq (rfl))
theorem w_fVarF {i ρ P} : fVarF i ρ P = AP2 (fVarF i ρ) P .mk := propext (iff_of_eq (rfl))
theorem c_fVarF {i ρ P} {tg : Tg P} : AP2 (fVarF i ρ) P tg = (AP1 (slotO ρ[i]?) (fun d => P d (ρ.set i .non)) .mk) := propext (iff_of_eq (rfl))
theorem w_fPure {f ρ P} : fPure f ρ P = AP2 (fPure f ρ) P .mk := propext (iff_of_eq (rfl))
theorem c_fPure {f ρ P} {tg : Tg P} : AP2 (fPure f ρ) P tg = (AP2 (f (ρ.map frz)) (fun d _ => scalD d = true ∧ P d ρ) .mk) := propext (iff_of_eq (rfl))
theorem w_fPureT {f ρ P} : fPureT f ρ P = AP2 (fPureT f ρ) P .mk := propext (iff_of_eq (rfl))
theorem c_fPureT {f ρ P} {tg : Tg P} : AP2 (fPureT f ρ) P tg = (AP2 (f (ρ.map frz)) (fun b _ => P b ρ) .mk) := propext (iff_of_eq (rfl))
theorem w_fNext {ρ P} : fNext ρ P = AP1 (fNext ρ) P .mk := propext (iff_of_eq (rfl))
theorem c_fNext {ρ P} {tg : Tg P} : AP1 (fNext ρ) P tg = (P (.nx ρ)) := propext (iff_of_eq (rfl))
theorem w_fSeq {F G ρ P} : fSeq F G ρ P = AP1 (fSeq F G ρ) P .mk := propext (iff_of_eq (rfl))
theorem c_fSeq {F G ρ P} {tg : Tg P} : AP1 (fSeq F G ρ) P tg = (AP1 (F ρ) (andThen G P) .mk) := propext (iff_of_eq (rfl))
theorem w_fBrk {ρ P} : fBrk ρ P = AP1 (fBrk ρ) P .mk := propext (iff_of_eq (rfl))
theorem c_fBrk {ρ P} {tg : Tg P} : AP1 (fBrk ρ) P tg = (P (.bk ρ)) := propext (iff_of_eq (rfl))
theorem w_fCnt {ρ P} : fCnt ρ P = AP1 (fCnt ρ) P .mk := propext (iff_of_eq (rfl))
theorem c_fCnt {ρ P} {tg : Tg P} : AP1 (fCnt ρ) P tg = (P (.ct ρ)) := propext (iff_of_eq (rfl))
theorem w_fDrop {f ρ P} : fDrop f ρ P = AP1 (fDrop f ρ) P .mk := propext (iff_of_eq (rfl))
theorem c_fDrop {f ρ P} {tg : Tg P} : AP1 (fDrop f ρ) P tg = (AP2 (f ρ) (fun _ ρ1 => P (.nx ρ1)) .mk) := propext (iff_of_eq (rfl))
theorem w_fRet {f ρ P} : fRet f ρ P = AP1 (fRet f ρ) P .mk := propext (iff_of_eq (rfl))
theorem c_fRet {f ρ P} {tg : Tg P} : AP1 (fRet f ρ) P tg = (AP2 (f ρ) (fun d ρ1 => P (.rt d ρ1)) .mk) := propext (iff_of_eq (rfl))
theorem w_fRetF {f ρ P} : fRetF f ρ P = AP1 (fRetF f ρ) P .mk := propext (iff_of_eq (rfl))
theorem c_fRetF {f ρ P} {tg : Tg P} : AP1 (fRetF f ρ) P tg = (AP2 (f ρ) (fun d ρ1 => P (.rf d ρ1)) .mk) := propext (iff_of_eq (rfl))
theorem w_fRetN {ρ P} : fRetN ρ P = AP1 (fRetN ρ) P .mk := propext (iff_of_eq (rfl))
theorem c_fRetN {ρ P} {tg : Tg P} : AP1 (fRetN ρ) P tg = (P (.rt .non ρ)) := propext (iff_of_eq (rfl))
theorem w_fIfS {t F G ρ P} : fIfS t F G ρ P = AP1 (fIfS t F G ρ) P .mk := propext (iff_of_eq (rfl))
theorem c_fIfS {t F G ρ P} {tg : Tg P} : AP1 (fIfS t F G ρ) P tg = (AP2 (t ρ) (fun b ρ1 => BR b (fun _ => AP1 (F ρ1) P .mk) (fun _ => AP1 (G ρ1) P .mk) .mk .mk) .mk) := propext (iff_of_eq (rfl))
theorem w_fSet {i f ρ P} : fSet i f ρ P = AP1 (fSet i f ρ) P .mk := propext (iff_of_eq (rfl))
theorem c_fSet {i f ρ P} {tg : Tg P} : AP1 (fSet i f ρ) P tg = (AP2 (f ρ) (fun d ρ1 => P (.nx (ρ1.set i (.val d)))) .mk) := propext (iff_of_eq (rfl))
theorem w_fSetF {i f ρ P} : fSetF i f ρ P = AP1 (fSetF i f ρ) P .mk := propext (iff_of_eq (rfl))
theorem c_fSetF {i f ρ P} {tg : Tg P} : AP1 (fSetF i f ρ) P tg = (AP2 (f ρ) (fun d ρ1 => P (.nx (ρ1.set i (.own d)))) .mk) := propext (iff_of_eq (rfl))
theorem w_gdName {i d ρ P} : gdName i d ρ P = AP1 (gdName i d ρ) P .mk := propext (iff_of_eq (rfl))
theorem c_gdName {i d ρ P} {tg : Tg P} : AP1 (gdName i d ρ) P tg = (P (ρ.set i (.val d))) := propext (iff_of_eq (rfl))
theorem w_gdNil {ds ρ P} : gdNil ds ρ P = AP1 (gdNil ds ρ) P .mk := propext (iff_of_eq (rfl))
theorem w_gdCons {f fs ds ρ P} : gdCons f fs ds ρ P = AP1 (gdCons f fs ds ρ) P .mk := propext (iff_of_eq (rfl))
theorem w_gdTup {n fs d ρ P} : gdTup n fs d ρ P = AP1 (gdTup n fs d ρ) P .mk := propext (iff_of_eq (rfl))
theorem w_fSeqI {f ρ P} : fSeqI f ρ P = AP2 (fSeqI f ρ) P .mk := propext (iff_of_eq (rfl))
theorem c_fSeqI {f ρ P} {tg : Tg P} : AP2 (fSeqI f ρ) P tg = (AP2 (f ρ) (fun d ρ1 => AP1 (seqD d) (fun ds => P ds ρ1) .mk) .mk) := propext (iff_of_eq (rfl))
theorem w_fLstI {f ρ P} : fLstI f ρ P = AP2 (fLstI f ρ) P .mk := propext (iff_of_eq (rfl))
theorem c_fLstI {f ρ P} {tg : Tg P} : AP2 (fLstI f ρ) P tg = (AP2 (f ρ) (fun d ρ1 => AP1 (lstD d) (fun ds => P ds ρ1) .mk) .mk) := propext (iff_of_eq (rfl))
theorem w_fTupI {f ρ P} : fTupI f ρ P = AP2 (fTupI f ρ) P .mk := propext (iff_of_eq (rfl))
theorem c_fTupI {f ρ P} {tg : Tg P} : AP2 (fTupI f ρ) P tg = (AP2 (f ρ) (fun d ρ1 => AP1 (tupD d) (fun ds => P ds ρ1) .mk) .mk) := propext (iff_of_eq (rfl))
theorem w_fRng1 {fs ρ P} : fRng1 fs ρ P = AP2 (fRng1 fs ρ) P .mk := propext (iff_of_eq (rfl))
theorem c_fRng1 {fs ρ P} {tg : Tg P} : AP2 (fRng1 fs ρ) P tg = (AP2 (fs ρ) (fun ds ρ1 => AP1 (rng1 ds) (fun xs => P xs ρ1) .mk) .mk) := propext (iff_of_eq (ev_fRng1_int fs ρ P))
theorem w_fRng2 {fs ρ P} : fRng2 fs ρ P = AP2 (fRng2 fs ρ) P .mk := propext (iff_of_eq (rfl))
theorem c_fRng2 {fs ρ P} {tg : Tg P} : AP2 (fRng2 fs ρ) P tg = (AP2 (fs ρ) (fun ds ρ1 => AP1 (rng2 ds) (fun xs => P xs ρ1) .mk) .mk) := propext (iff_of_eq (ev_fRng2_int fs ρ P))
theorem w_fZip {fs ρ P} : fZip fs ρ P = AP2 (fZip fs ρ) P .mk := propext (iff_of_eq (rfl))
theorem c_fZip {fs ρ P} {tg : Tg P} : AP2 (fZip fs ρ) P tg = (AP2 (fs ρ) (fun ds ρ1 => AP1 (zip2 ds) (fun xs => P xs ρ1) .mk) .mk) := propext (iff_of_eq (ev_fZip_eq fs ρ P))
theorem w_fFor {i g B ρ P} : fFor i g B ρ P = AP1 (fFor i g B ρ) P .mk := propext (iff_of_eq (rfl))
theorem c_fFor {i g B ρ P} {tg : Tg P} : AP1 (fFor i g B ρ) P tg = (AP2 (i ρ) (fun ds ρ1 => AP1 (forGo g B ds ρ1) P .mk) .mk) := propext (iff_of_eq (rfl))
theorem w_fYes {ρ P} : fYes ρ P = AP2 (fYes ρ) P .mk := propext (iff_of_eq (rfl))
theorem c_fYes {ρ P} {tg : Tg P} : AP2 (fYes ρ) P tg = (P true ρ) := propext (iff_of_eq (rfl))
theorem w_fLc {i g t fe vs ρ P} : fLc i g t fe vs ρ P = AP2 (fLc i g t fe vs ρ) P .mk := propext (iff_of_eq (rfl))
theorem c_fLc {i g t fe vs ρ P} {tg : Tg P} : AP2 (fLc i g t fe vs ρ) P tg = (AP2 (i ρ) (fun ds ρ1 => AP2 (lcGo g t fe vs ds [] (wipeS ρ1 vs)) (fun acc ρ2 => P (.lst acc) ρ2) .mk) .mk) := propext (iff_of_eq (rfl))
theorem w_fCallP {n g fs ρ P} : fCallP n g fs ρ P = AP2 (fCallP n g fs ρ) P .mk := propext (iff_of_eq (rfl))
theorem c_fCallP {n g fs ρ P} {tg : Tg P} : AP2 (fCallP n g fs ρ) P tg = (AP2 (fs ρ) (fun ds ρ1 => ds.length = n ∧ AP1 (g ds) (fun d => P d ρ1) .mk) .mk) := propext (iff_of_eq (rfl))
theorem w_fCallI {i n g fs ρ P} : fCallI i n g fs ρ P = AP2 (fCallI i n g fs ρ) P .mk := propext (iff_of_eq (rfl))
theorem c_fCallI {i n g fs ρ P} {tg : Tg P} : AP2 (fCallI i n g fs ρ) P tg = (AP1 (ownD ρ i) (fun _ => AP2 (fs ρ) (fun ds ρ1 => ds.length = n ∧ AP1 (ownD ρ1 i) (fun c => AP2 (g c ds) (fun d c' => P d (ρ1.set i (.own c'))) .mk) .mk) .mk) .mk) := propext (iff_of_eq (rfl))
theorem w_fPN {ρ P} : fPN ρ P = AP2 (fPN ρ) P .mk := propext (iff_of_eq (rfl))
theorem c_fPN {ρ P} {tg : Tg P} : AP2 (fPN ρ) P tg = (P none ρ) := propext (iff_of_eq (rfl))
theorem w_fPS {f ρ P} : fPS f ρ P = AP2 (fPS f ρ) P .mk := propext (iff_of_eq (rfl))
theorem c_fPS {f ρ P} {tg : Tg P} : AP2 (fPS f ρ) P tg = (AP2 (f ρ) (fun d ρ1 => AP1 (asI d) (fun i => P (some i) ρ1) .mk) .mk) := propext (iff_of_eq (rfl))
theorem w_fSl {f lo hi ρ P} : fSl f lo hi ρ P = AP2 (fSl f lo hi ρ) P .mk := propext (iff_of_eq (rfl))
theorem c_fSl {f lo hi ρ P} {tg : Tg P} : AP2 (fSl f lo hi ρ) P tg = (AP2 (f ρ) (fun d ρ1 => AP2 (lo ρ1) (fun l ρ2 => AP2 (hi ρ2) (fun h ρ3 => AP1 (gSl d l h) (fun x => P x ρ3) .mk) .mk) .mk) .mk) := propext (iff_of_eq (rfl))
theorem w_fDGet {fd fy ρ P} : fDGet fd fy ρ P = AP2 (fDGet fd fy ρ) P .mk := propext (iff_of_eq (rfl))
theorem c_fDGet {fd fy ρ P} {tg : Tg P} : AP2 (fDGet fd fy ρ) P tg = (AP2 (fd ρ) (fun d ρ1 => AP2 (fy ρ1) (fun y ρ2 => AP1 (dlook d y) (fun o => AP1 (optP o) (fun x => P x ρ2) .mk) .mk) .mk) .mk) := propext (iff_of_eq (by
  unfold fDGet AP2
  simp only [ex_optP]
  rfl))
theorem w_fDIn {neg fy fd ρ P} : fDIn neg fy fd ρ P = AP2 (fDIn neg fy fd ρ) P .mk := propext (iff_of_eq (rfl))
theorem c_fDIn {neg fy fd ρ P} {tg : Tg P} : AP2 (fDIn neg fy fd ρ) P tg = (AP2 (fy ρ) (fun y ρ1 => AP2 (fd ρ1) (fun d ρ2 => AP1 (dlook d y) (fun o => P (.bl (neg != o.isSome)) ρ2) .mk) .mk) .mk) := propext (iff_of_eq (rfl))
theorem w_fDGet2 {fd fy fx ρ P} : fDGet2 fd fy fx ρ P = AP2 (fDGet2 fd fy fx ρ) P .mk := propext (iff_of_eq (rfl))
theorem c_fDGet2 {fd fy fx ρ P} {tg : Tg P} : AP2 (fDGet2 fd fy fx ρ) P tg = (AP2 (fd ρ) (fun d ρ1 => isDict d = true ∧ AP2 (fy ρ1) (fun y ρ2 => AP2 (fx ρ2) (fun x ρ3 => AP1 (dlook d y) (fun o => P (o.getD x) ρ3) .mk) .mk) .mk) .mk) := propext (iff_of_eq (rfl))
theorem w_fSetO {j fe fk ρ P} : fSetO j fe fk ρ P = AP1 (fSetO j fe fk ρ) P .mk := propext (iff_of_eq (rfl))
theorem c_fSetO {j fe fk ρ P} {tg : Tg P} : AP1 (fSetO j fe fk ρ) P tg = (AP2 (fe ρ) (fun x ρ1 => AP1 (ownD ρ1 j) (fun _ => AP2 (fk ρ1) (fun y ρ2 => AP1 (asI y) (fun k => AP1 (ownD ρ2 j) (fun c => AP1 (lstO c) (fun ds => AP1 (optP (ixN ds.length k)) (fun n => P (.nx (ρ2.set j (.own (.lst (ds.set n x)))))) .mk) .mk) .mk) .mk) .mk) .mk) .mk) := propext (iff_of_eq (by
  unfold fSetO AP1
  simp only [ex_optP]
  rfl))
theorem w_fApp {j fe ρ P} : fApp j fe ρ P = AP1 (fApp j fe ρ) P .mk := propext (iff_of_eq (rfl))
theorem c_fApp {j fe ρ P} {tg : Tg P} : AP1 (fApp j fe ρ) P tg = (AP1 (ownD ρ j) (fun c0 => AP1 (lstO c0) (fun _ => AP2 (fe ρ) (fun x ρ1 => AP1 (ownD ρ1 j) (fun c => AP1 (lstO c) (fun ds => ds.length < 100000 ∧ P (.nx (ρ1.set j (.own (.lst (ds ++ [x])))))) .mk) .mk) .mk) .mk) .mk) := propext (iff_of_eq (rfl))
theorem w_fExt {j fe ρ P} : fExt j fe ρ P = AP1 (fExt j fe ρ) P .mk := propext (iff_of_eq (rfl))
theorem c_fExt {j fe ρ P} {tg : Tg P} : AP1 (fExt j fe ρ) P tg = (AP1 (ownD ρ j) (fun c0 => AP1 (lstO c0) (fun _ => AP2 (fe ρ) (fun x ρ1 => AP1 (lstO x) (fun es => AP1 (ownD ρ1 j) (fun c => AP1 (lstO c) (fun ds => ds.length + es.length ≤ 100000 ∧ P (.nx (ρ1.set j (.own (.lst (ds ++ es)))))) .mk) .mk) .mk) .mk) .mk) .mk) := propext (iff_of_eq (rfl))
theorem w_fDPut {j fv fk ρ P} : fDPut j fv fk ρ P = AP1 (fDPut j fv fk ρ) P .mk := propext (iff_of_eq (rfl))
theorem c_fDPut {j fv fk ρ P} {tg : Tg P} : AP1 (fDPut j fv fk ρ) P tg = (AP2 (fv ρ) (fun x ρ1 => AP1 (ownD ρ1 j) (fun _ => AP2 (fk ρ1) (fun y ρ2 => AP1 (ownD ρ2 j) (fun c => AP1 (dput c y x) (fun c' => P (.nx (ρ2.set j (.own c')))) .mk) .mk) .mk) .mk) .mk) := propext (iff_of_eq (rfl))
theorem w_fListO {j ρ P} : fListO j ρ P = AP2 (fListO j ρ) P .mk := propext (iff_of_eq (rfl))
theorem c_fListO {j ρ P} {tg : Tg P} : AP2 (fListO j ρ) P tg = (AP1 (ownD ρ j) (fun c => AP1 (gList [c]) (fun d => P d ρ) .mk) .mk) := propext (iff_of_eq (rfl))
theorem w_fCallK {ix n m g fs ρ P} : fCallK ix n m g fs ρ P = AP2 (fCallK ix n m g fs ρ) P .mk := propext (iff_of_eq (rfl))
theorem c_fCallK {ix n m g fs ρ P} {tg : Tg P} : AP2 (fCallK ix n m g fs ρ) P tg = (AP2 (fs ρ) (fun ds ρ1 => ds.length = m ∧ (permL ix ds).length = n ∧ AP1 (g (permL ix ds)) (fun d => P d ρ1) .mk) .mk) := propext (iff_of_eq (rfl))
theorem w_fChain {g h fx fy fz ρ P} : fChain g h fx fy fz ρ P = AP2 (fChain g h fx fy fz ρ) P .mk := propext (iff_of_eq (rfl))
theorem c_fChain {g h fx fy fz ρ P} {tg : Tg P} : AP2 (fChain g h fx fy fz ρ) P tg = (AP2 (fx ρ) (fun x ρ1 => AP2 (fy ρ1) (fun y ρ2 => AP1 (g x y) (fun d => AP1 (asB d) (fun k => BR k (fun _ => AP2 (fz ρ2) (fun z ρ3 => AP1 (h y z) (fun d => P d ρ3) .mk) .mk) (fun _ => P (.bl false) ρ2) .mk .mk) .mk) .mk) .mk) .mk) := propext (iff_of_eq (rfl))
theorem w_fDicI {j ρ P} : fDicI j ρ P = AP2 (fDicI j ρ) P .mk := propext (iff_of_eq (rfl))
theorem c_fDicI {j ρ P} {tg : Tg P} : AP2 (fDicI j ρ) P tg = (AP2 (fVar j ρ) (fun d ρ1 => AP1 (keysD d) (fun ds => P ds ρ1) .mk) .mk) := propext (iff_of_eq (rfl))
theorem w_fLstRg1 {fx ρ P} : fLstRg1 fx ρ P = AP2 (fLstRg1 fx ρ) P .mk := propext (iff_of_eq (rfl))
theorem c_fLstRg1 {fx ρ P} {tg : Tg P} : AP2 (fLstRg1 fx ρ) P tg = (AP2 (fx ρ) (fun x ρ1 => AP1 (asI x) (fun n => n ≤ 100000 ∧ -100000 ≤ n ∧ P (.lst (rangeD 0 n.toNat)) ρ1) .mk) .mk) := propext (iff_of_eq (rfl))
theorem w_fLstRg2 {fx fy ρ P} : fLstRg2 fx fy ρ P = AP2 (fLstRg2 fx fy ρ) P .mk := propext (iff_of_eq (rfl))
theorem c_fLstRg2 {fx fy ρ P} {tg : Tg P} : AP2 (fLstRg2 fx fy ρ) P tg = (AP2 (fx ρ) (fun x ρ1 => AP2 (fy ρ1) (fun y ρ2 => AP1 (asI x) (fun i => AP1 (asI y) (fun j => i ≤ 100000 ∧ -100000 ≤ i ∧ j ≤ 100000 ∧ -100000 ≤ j ∧ P (.lst (rangeD i (j - i).toNat)) ρ2) .mk) .mk) .mk) .mk) := propext (iff_of_eq (rfl))
theorem w_fAsgG {f g ρ P} : fAsgG f g ρ P = AP1 (fAsgG f g ρ) P .mk := propext (iff_of_eq (rfl))
theorem c_fAsgG {f g ρ P} {tg : Tg P} : AP1 (fAsgG f g ρ) P tg = (AP2 (f ρ) (fun d ρ1 => AP1 (g d ρ1) (fun ρ2 => P (.nx ρ2)) .mk) .mk) := propext (iff_of_eq (rfl))
theorem w_fDisp {ks fs ρ P} : fDisp ks fs ρ P = AP2 (fDisp ks fs ρ) P .mk := propext (iff_of_eq (rfl))
theorem c_fDisp {ks fs ρ P} {tg : Tg P} : AP2 (fDisp ks fs ρ) P tg = (AP2 (fs ρ) (fun ds ρ1 => P (.dK ks ds) ρ1) .mk) := propext (iff_of_eq (rfl))
theorem w_fIxO {j fk ρ P} : fIxO j fk ρ P = AP2 (fIxO j fk ρ) P .mk := propext (iff_of_eq (rfl))
theorem c_fIxO {j fk ρ P} {tg : Tg P} : AP2 (fIxO j fk ρ) P tg = (AP1 (ownD ρ j) (fun _ => AP2 (fk ρ) (fun y ρ1 => AP1 (asI y) (fun k => AP1 (ownD ρ1 j) (fun c => AP1 (lstO c) (fun ds => AP1 (optP (atI ds k)) (fun d => P d ρ1) .mk) .mk) .mk) .mk) .mk) .mk) := propext (iff_of_eq (by
  unfold fIxO AP2
  simp only [ex_optP]
  rfl))
theorem w_fDGetO {j fk ρ P} : fDGetO j fk ρ P = AP2 (fDGetO j fk ρ) P .mk := propext (iff_of_eq (rfl))
theorem c_fDGetO {j fk ρ P} {tg : Tg P} : AP2 (fDGetO j fk ρ) P tg = (AP1 (ownD ρ j) (fun _ => AP2 (fk ρ) (fun y ρ1 => AP1 (ownD ρ1 j) (fun c => AP1 (dlook c y) (fun o => AP1 (optP o) (fun d => P d ρ1) .mk) .mk) .mk) .mk) .mk) := propext (iff_of_eq (by
  unfold fDGetO AP2
  simp only [ex_optP]
  rfl))
theorem w_fFld {cns f fe ρ P} : fFld cns f fe ρ P = AP2 (fFld cns f fe ρ) P .mk := propext (iff_of_eq (rfl))
theorem c_fFld {cns f fe ρ P} {tg : Tg P} : AP2 (fFld cns f fe ρ) P tg = (AP2 (fe ρ) (fun d ρ1 => AP1 (gFld cns f d) (fun x => P x ρ1) .mk) .mk) := propext (iff_of_eq (rfl))
theorem w_fFldO {j cns f ρ P} : fFldO j cns f ρ P = AP2 (fFldO j cns f ρ) P .mk := propext (iff_of_eq (rfl))
theorem c_fFldO {j cns f ρ P} {tg : Tg P} : AP2 (fFldO j cns f ρ) P tg = (AP1 (ownD ρ j) (fun c => AP1 (gFld cns f c) (fun x => P x ρ) .mk) .mk) := propext (iff_of_eq (rfl))
theorem w_fFldSet {j cns f fe ρ P} : fFldSet j cns f fe ρ P = AP1 (fFldSet j cns f fe ρ) P .mk := propext (iff_of_eq (rfl))
theorem c_fFldSet {j cns f fe ρ P} {tg : Tg P} : AP1 (fFldSet j cns f fe ρ) P tg = (AP2 (fe ρ) (fun x ρ1 => AP1 (ownD ρ1 j) (fun c => AP1 (gSetF cns f x c) (fun c' => P (.nx (ρ1.set j (.own c')))) .mk) .mk) .mk) := propext (iff_of_eq (rfl))
theorem w_fMake {cn n g fs ρ P} : fMake cn n g fs ρ P = AP2 (fMake cn n g fs ρ) P .mk := propext (iff_of_eq (rfl))
theorem c_fMake {cn n g fs ρ P} {tg : Tg P} : AP2 (fMake cn n g fs ρ) P tg = (AP2 (fs ρ) (fun ds ρ1 => ds.length = n ∧ AP2 (g (.obj cn [] []) ds) (fun d c => d = .non ∧ P c ρ1) .mk) .mk) := propext (iff_of_eq (rfl))
theorem w_fMeth {m n tbl fo fs ρ P} : fMeth m n tbl fo fs ρ P = AP2 (fMeth m n tbl fo fs ρ) P .mk := propext (iff_of_eq (rfl))
theorem c_fMeth {m n tbl fo fs ρ P} {tg : Tg P} : AP2 (fMeth m n tbl fo fs ρ) P tg = (AP2 (fo ρ) (fun d ρ1 => AP1 (recvT m tbl d) (fun g => AP2 (fs ρ1) (fun ds ρ2 => ds.length = n ∧ AP1 (g (d :: ds)) (fun r => P r ρ2) .mk) .mk) .mk) .mk) := propext (iff_of_eq (rfl))
theorem w_fMethK {m ix n nk tbl fo fs ρ P} : fMethK m ix n nk tbl fo fs ρ P = AP2 (fMethK m ix n nk tbl fo fs ρ) P .mk := propext (iff_of_eq (rfl))
theorem c_fMethK {m ix n nk tbl fo fs ρ P} {tg : Tg P} : AP2 (fMethK m ix n nk tbl fo fs ρ) P tg = (AP2 (fo ρ) (fun d ρ1 => AP1 (recvT m tbl d) (fun g => AP2 (fs ρ1) (fun ds ρ2 => ds.length = nk ∧ (permL ix ds).length = n ∧ AP1 (g (d :: permL ix ds)) (fun r => P r ρ2) .mk) .mk) .mk) .mk) := propext (iff_of_eq (rfl))
theorem w_fTru {f ρ P} : fTru f ρ P = AP2 (fTru f ρ) P .mk := propext (iff_of_eq (rfl))
theorem c_fTru {f ρ P} {tg : Tg P} : AP2 (fTru f ρ) P tg = (AP2 (f ρ) (fun d ρ1 => AP1 (optP (truD d)) (fun b => P b ρ1) .mk) .mk) := propext (iff_of_eq (by
  unfold fTru AP2
  simp only [ex_optP]
  rfl))
theorem w_fNever {ρ P} : fNever ρ P = AP1 (fNever ρ) P .mk := propext (iff_of_eq (rfl))
theorem c_fNever {ρ P} {tg : Tg P} : AP1 (fNever ρ) P tg = (False) := propext (iff_of_eq (rfl))
theorem w_fLc2 {i g t i1 g1 t1 fe vs vs1 ρ P} : fLc2 i g t i1 g1 t1 fe vs vs1 ρ P = AP2 (fLc2 i g t i1 g1 t1 fe vs vs1 ρ) P .mk := propext (iff_of_eq (rfl))
theorem c_fLc2 {i g t i1 g1 t1 fe vs vs1 ρ P} {tg : Tg P} : AP2 (fLc2 i g t i1 g1 t1 fe vs vs1 ρ) P tg = (AP2 (i ρ) (fun ds ρ1 => AP2 (lc2Go g t i1 g1 t1 fe vs vs1 ds [] (wipeS ρ1 vs)) (fun acc ρ2 => P (.lst acc) ρ2) .mk) .mk) := propext (iff_of_eq (rfl))
theorem w_fCallKw {g fs fk ρ P} : fCallKw g fs fk ρ P = AP2 (fCallKw g fs fk ρ) P .mk := propext (iff_of_eq (rfl))
theorem c_fCallKw {g fs fk ρ P} {tg : Tg P} : AP2 (fCallKw g fs fk ρ) P tg = (AP2 (fs ρ) (fun ds ρ1 => AP2 (fk ρ1) (fun es ρ2 => AP1 (g ds es) (fun d => P d ρ2) .mk) .mk) .mk) := propext (iff_of_eq (rfl))
theorem w_fLcO {j g t fe vs ρ P} : fLcO j g t fe vs ρ P = AP2 (fLcO j g t fe vs ρ) P .mk := propext (iff_of_eq (rfl))
theorem c_fLcO {j g t fe vs ρ P} {tg : Tg P} : AP2 (fLcO j g t fe vs ρ) P tg = (AP1 (ownD ρ j) (fun c => AP1 (lstO c) (fun ds => AP2 (lcGo (gO j ds g) t fe vs ds [] (wipeS ρ vs)) (fun acc ρ2 => ρ2[j]? = some (.own (.lst ds)) ∧ P (.lst acc) ρ2) .mk) .mk) .mk) := propext (iff_of_eq (rfl))
theorem w_fCallM {is n g fs ρ P} : fCallM is n g fs ρ P = AP2 (fCallM is n g fs ρ) P .mk := propext (iff_of_eq (rfl))
theorem c_fCallM {is n g fs ρ P} {tg : Tg P} : AP2 (fCallM is n g fs ρ) P tg = (AP1 (ownsL ρ is) (fun _ => AP2 (fs ρ) (fun ds ρ1 => ds.length = n ∧ AP1 (ownsL ρ1 is) (fun cs => AP2 (g cs ds) (fun d cs' => P d (setOwns ρ1 is cs')) .mk) .mk) .mk) .mk) := propext (iff_of_eq (rfl))
theorem w_fDisp1N {fk fv ρ P} : fDisp1N fk fv ρ P = AP2 (fDisp1N fk fv ρ) P .mk := propext (iff_of_eq (rfl))
theorem c_fDisp1N {fk fv ρ P} {tg : Tg P} : AP2 (fDisp1N fk fv ρ) P tg = (AP2 (fk ρ) (fun x ρ1 => AP2 (fv ρ1) (fun y ρ2 => KeyOk x ∧ P (.dN [x] [y]) ρ2) .mk) .mk) := propext (iff_of_eq (rfl))
theorem w_fEnum {fs ρ P} : fEnum fs ρ P = AP2 (fEnum fs ρ) P .mk := propext (iff_of_eq (rfl))
theorem c_fEnum {fs ρ P} {tg : Tg P} : AP2 (fEnum fs ρ) P tg = (AP2 (fs ρ) (fun ds ρ1 => AP1 (enum1 ds) (fun xs => P xs ρ1) .mk) .mk) := propext (iff_of_eq (rfl))
theorem w_fIndex {fo fy ρ P} : fIndex fo fy ρ P = AP2 (fIndex fo fy ρ) P .mk := propext (iff_of_eq (rfl))
theorem c_fIndex {fo fy ρ P} {tg : Tg P} : AP2 (fIndex fo fy ρ) P tg = (AP2 (fo ρ) (fun o ρ1 => AP1 (lstD o) (fun xs => AP2 (fy ρ1) (fun y ρ2 => AP1 (gIndex xs y) (fun d => P d ρ2) .mk) .mk) .mk) .mk) := propext (iff_of_eq (rfl))
theorem w_fCallIT {n g fF fs ρ P} : fCallIT n g fF fs ρ P = AP2 (fCallIT n g fF fs ρ) P .mk := propext (iff_of_eq (rfl))
theorem c_fCallIT {n g fF fs ρ P} {tg : Tg P} : AP2 (fCallIT n g fF fs ρ) P tg = (AP2 (fF ρ) (fun c ρ1 => AP2 (fs ρ1) (fun ds ρ2 => ds.length = n ∧ AP2 (g c ds) (fun d c' => P d ρ2) .mk) .mk) .mk) := propext (iff_of_eq (rfl))
theorem a_gIsi_eq (x : D) (n : String) (P : D → Prop) {tg : Tg P} : AP1 (gIsi [x, .ty n]) P tg = (AP1 (optP (isiB x n)) (fun b => P (.bl b)) .mk) := propext (iff_of_eq (gIsi_eq x n P))
theorem a_ev_gIx_lst (xs : List D) (k : Int) (P : D → Prop) {tg : Tg P} : AP1 (gIx (.lst xs) (.int k)) P tg = (AP1 (optP (atI xs k)) P .mk) := propext (iff_of_eq (ev_gIx_lst xs k P))
theorem a_ev_gIx_tup (xs : List D) (k : Int) (P : D → Prop) {tg : Tg P} : AP1 (gIx (.tup xs) (.int k)) P tg = (AP1 (optP (atI xs k)) P .mk) := propext (iff_of_eq (ev_gIx_tup xs k P))
theorem a_ev_gIx_rol (xs : List D) (k : Int) (P : D → Prop) {tg : Tg P} : AP1 (gIx (.rol xs) (.int k)) P tg = (AP1 (optP (atI xs k)) P .mk) := propext (iff_of_eq (ev_gIx_rol xs k P))
theorem a_gAll_eq (bs : List Bool) (P : D → Prop) {tg : Tg P} : AP1 (gAll [.lst (bs.map .bl)]) P tg = (P (.bl (bs.all id))) := propext (iff_of_eq (gAll_eq bs P))
theorem a_gAny_eq (bs : List Bool) (P : D → Prop) {tg : Tg P} : AP1 (gAny [.lst (bs.map .bl)]) P tg = (P (.bl (bs.any id))) := propext (iff_of_eq (gAny_eq bs P))
theorem a_ev_asB_bl (b : Bool) (P : Bool → Prop) {tg : Tg P} : AP1 (asB (.bl b)) P tg = (P b) := propext (iff_of_eq (ev_asB_bl b P))
theorem a_ev_asI_int (i : Int) (P : Int → Prop) {tg : Tg P} : AP1 (asI (.int i)) P tg = (P i) := propext (iff_of_eq (ev_asI_int i P))
theorem a_ev_gAdd_int (i j : Int) (P : D → Prop) {tg : Tg P} : AP1 (gAdd (.int i) (.int j)) P tg = (P (.int (i + j))) := propext (iff_of_eq (ev_gAdd_int i j P))
theorem a_ev_gAdd_tup (xs ys : List D) (P : D → Prop) {tg : Tg P} : AP1 (gAdd (.tup xs) (.tup ys)) P tg = ((xs.length + ys.length ≤ 100000 ∧ P (.tup (xs ++ ys)))) := propext (iff_of_eq (ev_gAdd_tup xs ys P))
theorem a_ev_gAdd_lst (xs ys : List D) (P : D → Prop) {tg : Tg P} : AP1 (gAdd (.lst xs) (.lst ys)) P tg = ((xs.length + ys.length ≤ 100000 ∧ P (.lst (xs ++ ys)))) := propext (iff_of_eq (ev_gAdd_lst xs ys P))
theorem a_ev_gAdd_str (xs ys : Str) (P : D → Prop) {tg : Tg P} : AP1 (gAdd (.str xs) (.str ys)) P tg = ((xs.length + ys.length ≤ 100000 ∧ P (.str (xs ++ ys)))) := propext (iff_of_eq (ev_gAdd_str xs ys P))
theorem a_ev_gMul_int (i j : Int) (P : D → Prop) {tg : Tg P} : AP1 (gMul (.int i) (.int j)) P tg = (((CMul i j ∨ CMulW i j) ∧ P (.int (i * j)))) := propext (iff_of_eq (ev_gMul_int i j P))
theorem a_ev_gMul_tup (xs : List D) (k : Int) (P : D → Prop) {tg : Tg P} : AP1 (gMul (.tup xs) (.int k)) P tg = ((xs ≠ [] ∧ 1 ≤ k ∧ k ≤ 1000 ∧ xs.length ≤ 100 ∧ P (.tup (List.replicate k.toNat xs).flatten))) := propext (iff_of_eq (ev_gMul_tup xs k P))
theorem a_ev_gMul_lst (xs : List D) (k : Int) (P : D → Prop) {tg : Tg P} : AP1 (gMul (.lst xs) (.int k)) P tg = ((0 ≤ k ∧ k ≤ 1000 ∧ xs.length ≤ 100 ∧ P (.lst (List.replicate k.toNat xs).flatten))) := propext (iff_of_eq (ev_gMul_lst xs k P))
theorem a_ev_gMul_str (s : Str) (k : Int) (P : D → Prop) {tg : Tg P} : AP1 (gMul (.str s) (.int k)) P tg = ((s.length ≤ 16 ∧ 0 ≤ k ∧ k ≤ 1000 ∧ P (.str (PySem.Txt.mul s k)))) := propext (iff_of_eq (ev_gMul_str s k P))
theorem a_ev_gI_int (C : Int → Int → Prop) (h : Int → Int → D) (i j : Int) (P : D → Prop) {tg : Tg P} : AP1 (gI C h (.int i) (.int j)) P tg = ((C i j ∧ P (h i j))) := propext (iff_of_eq (ev_gI_int C h i j P))
theorem a_ev_gC_int (h : Int → Int → Bool) (i j : Int) (P : D → Prop) {tg : Tg P} : AP1 (gC h (.int i) (.int j)) P tg = (P (.bl (h i j))) := propext (iff_of_eq (ev_gC_int h i j P))
theorem a_ev_gLt_int (i j : Int) (P : D → Prop) {tg : Tg P} : AP1 (gLt (.int i) (.int j)) P tg = (P (.bl (decide (i < j)))) := propext (iff_of_eq (ev_gLt_int i j P))
theorem a_ev_gNeg_int (i : Int) (P : D → Prop) {tg : Tg P} : AP1 (gNeg (.int i)) P tg = (P (.int (-i))) := propext (iff_of_eq (ev_gNeg_int i P))
theorem a_ev_gIs_bl (a b : Bool) (P : D → Prop) {tg : Tg P} : AP1 (gIs (.bl a) (.bl b)) P tg = (P (.bl (decide (a = b)))) := propext (iff_of_eq (ev_gIs_bl a b P))
theorem a_ev_gIsNot_bl (a b : Bool) (P : D → Prop) {tg : Tg P} : AP1 (gIsNot (.bl a) (.bl b)) P tg = (P (.bl (!decide (a = b)))) := propext (iff_of_eq (ev_gIsNot_bl a b P))
theorem a_ev_gInt_int (i : Int) (P : D → Prop) {tg : Tg P} : AP1 (gInt [.int i]) P tg = (P (.int i)) := propext (iff_of_eq (ev_gInt_int i P))
theorem a_ev_gInt_bl (b : Bool) (P : D → Prop) {tg : Tg P} : AP1 (gInt [.bl b]) P tg = (P (.int (if b then 1 else 0))) := propext (iff_of_eq (ev_gInt_bl b P))
theorem a_ev_gInt2_int (h : Int → Int → Int) (i j : Int) (P : D → Prop) {tg : Tg P} : AP1 (gInt2 h [.int i, .int j]) P tg = (P (.int (h i j))) := propext (iff_of_eq (ev_gInt2_int h i j P))
theorem a_ev_gAbs_int (i : Int) (P : D → Prop) {tg : Tg P} : AP1 (gAbs [.int i]) P tg = (P (.int (if i < 0 then -i else i))) := propext (iff_of_eq (ev_gAbs_int i P))
theorem a_ev_gTuple_lst (xs : List D) (P : D → Prop) {tg : Tg P} : AP1 (gTuple [.lst xs]) P tg = (P (.tup xs)) := propext (iff_of_eq (ev_gTuple_lst xs P))
theorem a_ev_gTuple_rol (xs : List D) (P : D → Prop) {tg : Tg P} : AP1 (gTuple [.rol xs]) P tg = (P (.tup xs)) := propext (iff_of_eq (ev_gTuple_rol xs P))
theorem a_ev_gTuple_tup (xs : List D) (P : D → Prop) {tg : Tg P} : AP1 (gTuple [.tup xs]) P tg = (P (.tup xs)) := propext (iff_of_eq (ev_gTuple_tup xs P))
theorem a_ev_gList_dT (ks : List (List Key)) (vs : List D) (P : D → Prop) {tg : Tg P} : AP1 (gList [.dT ks vs]) P tg = (P (.lst (ks.map fun k => .tup (k.map kD)))) := propext (iff_of_eq (ev_gList_dT ks vs P))
theorem a_ev_gList_dK (ks : List Key) (vs : List D) (P : D → Prop) {tg : Tg P} : AP1 (gList [.dK ks vs]) P tg = (P (.lst (ks.map kD))) := propext (iff_of_eq (ev_gList_dK ks vs P))
theorem a_ev_gLen_str (s : Str) (P : D → Prop) {tg : Tg P} : AP1 (gLen [.str s]) P tg = ((s.length ≤ 100000 ∧ P (.int s.length))) := propext (iff_of_eq (ev_gLen_str s P))
theorem a_ev_gLen_dT (ks : List (List Key)) (vs : List D) (P : D → Prop) {tg : Tg P} : AP1 (gLen [.dT ks vs]) P tg = (P (.int ks.length)) := propext (iff_of_eq (ev_gLen_dT ks vs P))
theorem a_ev_gLen_dK (ks : List Key) (vs : List D) (P : D → Prop) {tg : Tg P} : AP1 (gLen [.dK ks vs]) P tg = (P (.int ks.length)) := propext (iff_of_eq (ev_gLen_dK ks vs P))
theorem a_ev_lstD_lst (xs : List D) (P : List D → Prop) {tg : Tg P} : AP1 (lstD (.lst xs)) P tg = (P xs) := propext (iff_of_eq (ev_lstD_lst xs P))
theorem a_ev_lstD_rol (xs : List D) (P : List D → Prop) {tg : Tg P} : AP1 (lstD (.rol xs)) P tg = (P xs) := propext (iff_of_eq (ev_lstD_rol xs P))
theorem a_ev_tupD_tup (xs : List D) (P : List D → Prop) {tg : Tg P} : AP1 (tupD (.tup xs)) P tg = (P xs) := propext (iff_of_eq (ev_tupD_tup xs P))
theorem a_ev_lstO_lst (xs : List D) (P : List D → Prop) {tg : Tg P} : AP1 (lstO (.lst xs)) P tg = (P xs) := propext (iff_of_eq (ev_lstO_lst xs P))
theorem a_ev_gSl_lst (xs : List D) (l h : Option Int) (P : D → Prop) {tg : Tg P} : AP1 (gSl (.lst xs) l h) P tg = (P (.lst (cutD xs l h))) := propext (iff_of_eq (ev_gSl_lst xs l h P))
theorem a_ev_gSl_rol (xs : List D) (l h : Option Int) (P : D → Prop) {tg : Tg P} : AP1 (gSl (.rol xs) l h) P tg = (P (.lst (cutD xs l h))) := propext (iff_of_eq (ev_gSl_rol xs l h P))
theorem a_ev_gSl_tup (xs : List D) (l h : Option Int) (P : D → Prop) {tg : Tg P} : AP1 (gSl (.tup xs) l h) P tg = (P (.tup (cutD xs l h))) := propext (iff_of_eq (ev_gSl_tup xs l h P))
theorem a_ev_retP_nx (P : D → Prop) (ρ : List Sl) : retP P (.nx ρ) = (P .non) := propext (iff_of_eq (ev_retP_nx P ρ))
theorem a_ev_retP_rt (P : D → Prop) (d : D) (ρ : List Sl) : retP P (.rt d ρ) = (P d) := propext (iff_of_eq (ev_retP_rt P d ρ))
theorem a_ev_retP_rf (P : D → Prop) (d : D) (ρ : List Sl) : retP P (.rf d ρ) = (P d) := propext (iff_of_eq (ev_retP_rf P d ρ))
theorem a_ev_retF_rf (P : D → Prop) (d : D) (ρ : List Sl) : retF P (.rf d ρ) = (P d) := propext (iff_of_eq (ev_retF_rf P d ρ))
theorem a_ev_retI_nx (P : D → D → Prop) (ρ : List Sl) : retI P (.nx ρ) = (AP1 (ownD ρ 0) (fun c => P .non c) .mk) := propext (iff_of_eq (ev_retI_nx P ρ))
theorem a_ev_retI_rt (P : D → D → Prop) (d : D) (ρ : List Sl) : retI P (.rt d ρ) = (AP1 (ownD ρ 0) (fun c => P d c) .mk) := propext (iff_of_eq (ev_retI_rt P d ρ))
theorem a_ev_retI_rf (P : D → D → Prop) (d : D) (ρ : List Sl) : retI P (.rf d ρ) = (AP1 (ownD ρ 0) (fun c => P d c) .mk) := propext (iff_of_eq (ev_retI_rf P d ρ))
theorem a_ev_andThen_nx (F : FS) (P : Fl → Prop) (ρ : List Sl) : andThen F P (.nx ρ) = (AP1 (F ρ) P .mk) := propext (iff_of_eq (ev_andThen_nx F P ρ))
theorem a_ev_andThen_rt (F : FS) (P : Fl → Prop) (d : D) (ρ : List Sl) : andThen F P (.rt d ρ) = (P (.rt d ρ)) := propext (iff_of_eq (ev_andThen_rt F P d ρ))
theorem a_ev_andThen_rf (F : FS) (P : Fl → Prop) (d : D) (ρ : List Sl) : andThen F P (.rf d ρ) = (P (.rf d ρ)) := propext (iff_of_eq (ev_andThen_rf F P d ρ))
theorem a_ev_andThen_bk (F : FS) (P : Fl → Prop) (ρ : List Sl) : andThen F P (.bk ρ) = (P (.bk ρ)) := propext (iff_of_eq (ev_andThen_bk F P ρ))
theorem a_ev_andThen_ct (F : FS) (P : Fl → Prop) (ρ : List Sl) : andThen F P (.ct ρ) = (P (.ct ρ)) := propext (iff_of_eq (ev_andThen_ct F P ρ))
theorem a_ev_rng1_int (j : Int) (P : List D → Prop) {tg : Tg P} : AP1 (rng1 [.int j]) P tg = ((j ≤ 100000 ∧ -100000 ≤ j ∧ P (rangeD 0 j.toNat))) := propext (iff_of_eq (ev_rng1_int j P))
theorem a_ev_rng2_int (i j : Int) (P : List D → Prop) {tg : Tg P} : AP1 (rng2 [.int i, .int j]) P tg = (((j ≤ 100000 ∧ -100000 ≤ j ∧ i ≤ 100000 ∧ -100000 ≤ i) ∧ P (rangeD i (j - i).toNat))) := propext (iff_of_eq (ev_rng2_int i j P))
theorem a_ev_zip2_lst (xs ys : List D) (P : List D → Prop) {tg : Tg P} : AP1 (zip2 [.lst xs, .lst ys]) P tg = (P (zipD xs ys)) := propext (iff_of_eq (ev_zip2_lst xs ys P))
theorem a_ev_zip2_tup (xs ys : List D) (P : List D → Prop) {tg : Tg P} : AP1 (zip2 [.tup xs, .tup ys]) P tg = (P (zipD xs ys)) := propext (iff_of_eq (ev_zip2_tup xs ys P))
theorem a_ev_slotO_own (d : D) (P : D → Prop) {tg : Tg P} : AP1 (slotO (some (.own d))) P tg = (P d) := propext (iff_of_eq (ev_slotO_own d P))
theorem a_ev_gdCons (f : FG) (fs : FGs) (d : D) (ds : List D) (ρ : List Sl) (P : List Sl → Prop) {tg : Tg P} : AP1 (gdCons f fs (d :: ds) ρ) P tg = (AP1 (f d ρ) (fun ρ1 => AP1 (fs ds ρ1) P .mk) .mk) := propext (iff_of_eq (ev_gdCons f fs d ds ρ P))
theorem a_ev_gdNil (ρ : List Sl) (P : List Sl → Prop) {tg : Tg P} : AP1 (gdNil [] ρ) P tg = (P ρ) := propext (iff_of_eq (ev_gdNil ρ P))
theorem a_ev_gLen_lst (xs : List D) (P : D → Prop) {tg : Tg P} : AP1 (gLen [.lst xs]) P tg = (P (.int xs.length)) := propext (iff_of_eq (ev_gLen_lst xs P))
theorem a_ev_gLen_tup (xs : List D) (P : D → Prop) {tg : Tg P} : AP1 (gLen [.tup xs]) P tg = (P (.int xs.length)) := propext (iff_of_eq (ev_gLen_tup xs P))
theorem a_ev_gLen_rol (xs : List D) (P : D → Prop) {tg : Tg P} : AP1 (gLen [.rol xs]) P tg = (P (.int xs.length)) := propext (iff_of_eq (ev_gLen_rol xs P))
theorem a_ev_gEq_int (a b : Int) (P : D → Prop) {tg : Tg P} : AP1 (gEq (.int a) (.int b)) P tg = (P (.bl (decide (a = b)))) := propext (iff_of_eq (ev_gEq_int a b P))
theorem a_ev_gNe_int (a b : Int) (P : D → Prop) {tg : Tg P} : AP1 (gNe (.int a) (.int b)) P tg = (P (.bl (!decide (a = b)))) := propext (iff_of_eq (ev_gNe_int a b P))
theorem a_ev_gEq_str (a b : Str) (P : D → Prop) {tg : Tg P} : AP1 (gEq (.str a) (.str b)) P tg = (P (.bl (decide (a = b)))) := propext (iff_of_eq (ev_gEq_str a b P))
theorem a_ev_gNe_str (a b : Str) (P : D → Prop) {tg : Tg P} : AP1 (gNe (.str a) (.str b)) P tg = (P (.bl (!decide (a = b)))) := propext (iff_of_eq (ev_gNe_str a b P))
theorem a_ev_gIs_nonnon (P : D → Prop) {tg : Tg P} : AP1 (gIs .non .non) P tg = (P (.bl true)) := propext (iff_of_eq (ev_gIs_nonnon P))
theorem a_ev_seqD_lst (xs : List D) (P : List D → Prop) {tg : Tg P} : AP1 (seqD (.lst xs)) P tg = (P xs) := propext (iff_of_eq (ev_seqD_lst xs P))
theorem a_ev_seqD_tup (xs : List D) (P : List D → Prop) {tg : Tg P} : AP1 (seqD (.tup xs)) P tg = (P xs) := propext (iff_of_eq (ev_seqD_tup xs P))
theorem a_ev_seqD_rol (xs : List D) (P : List D → Prop) {tg : Tg P} : AP1 (seqD (.rol xs)) P tg = (P xs) := propext (iff_of_eq (ev_seqD_rol xs P))
theorem a_ev_gEq_bl (a b : Bool) (P : D → Prop) {tg : Tg P} : AP1 (gEq (.bl a) (.bl b)) P tg = (P (.bl (decide (a = b)))) := propext (iff_of_eq (ev_gEq_bl a b P))
theorem a_ev_gNe_bl (a b : Bool) (P : D → Prop) {tg : Tg P} : AP1 (gNe (.bl a) (.bl b)) P tg = (P (.bl (!decide (a = b)))) := propext (iff_of_eq (ev_gNe_bl a b P))
theorem a_ev_gAdd_tupI1 (g : List Int) (l : Int) (P : D → Prop) {tg : Tg P} : AP1 (gAdd (tupI g) (.tup [.int l])) P tg = ((g.length + 1 ≤ 100000 ∧ P (tupI (g ++ [l])))) := propext (iff_of_eq (ev_gAdd_tupI1 g l P))
theorem a_ev_gAdd_tupI2 (g : List Int) (l : Int) (P : D → Prop) {tg : Tg P} : AP1 (gAdd (.tup [.int l]) (tupI g)) P tg = ((1 + g.length ≤ 100000 ∧ P (tupI (l :: g)))) := propext (iff_of_eq (ev_gAdd_tupI2 g l P))
theorem a_ev_gLen_tupI (g : List Int) (P : D → Prop) {tg : Tg P} : AP1 (gLen [tupI g]) P tg = (P (.int g.length)) := propext (iff_of_eq (ev_gLen_tupI g P))
theorem a_ev_gLen_lstI (g : List Int) (P : D → Prop) {tg : Tg P} : AP1 (gLen [lstI g]) P tg = (P (.int g.length)) := propext (iff_of_eq (ev_gLen_lstI g P))
theorem a_ev_tupD_tupI (g : List Int) (P : List D → Prop) {tg : Tg P} : AP1 (tupD (tupI g)) P tg = (P (g.map .int)) := propext (iff_of_eq (ev_tupD_tupI g P))
theorem a_ev_lstD_lstI (g : List Int) (P : List D → Prop) {tg : Tg P} : AP1 (lstD (lstI g)) P tg = (P (g.map .int)) := propext (iff_of_eq (ev_lstD_lstI g P))
theorem a_ev_seqD_tupI (g : List Int) (P : List D → Prop) {tg : Tg P} : AP1 (seqD (tupI g)) P tg = (P (g.map .int)) := propext (iff_of_eq (ev_seqD_tupI g P))
theorem a_ev_seqD_lstI (g : List Int) (P : List D → Prop) {tg : Tg P} : AP1 (seqD (lstI g)) P tg = (P (g.map .int)) := propext (iff_of_eq (ev_seqD_lstI g P))
theorem a_ev_gIx_tupI (xs : List Int) (k : Int) (P : D → Prop) {tg : Tg P} : AP1 (gIx (tupI xs) (.int k)) P tg = (AP1 (optP (atN xs k)) (fun i => P (.int i)) .mk) := propext (iff_of_eq (ev_gIx_tupI xs k P))
theorem a_ev_gIx_lstI (xs : List Int) (k : Int) (P : D → Prop) {tg : Tg P} : AP1 (gIx (lstI xs) (.int k)) P tg = (AP1 (optP (atN xs k)) (fun i => P (.int i)) .mk) := propext (iff_of_eq (ev_gIx_lstI xs k P))
theorem a_ev_lstO_lstI (g : List Int) (P : List D → Prop) {tg : Tg P} : AP1 (lstO (lstI g)) P tg = (P (g.map .int)) := propext (iff_of_eq (ev_lstO_lstI g P))
theorem a_ev_gTuple_ints (xs : List Int) (P : D → Prop) {tg : Tg P} : AP1 (gTuple [.lst (xs.map .int)]) P tg = (P (tupI xs)) := propext (iff_of_eq (ev_gTuple_ints xs P))
theorem a_ev_gList_lst (xs : List D) (P : D → Prop) {tg : Tg P} : AP1 (gList [.lst xs]) P tg = (P (.lst xs)) := propext (iff_of_eq (ev_gList_lst xs P))
theorem a_ev_gList_tup (xs : List D) (P : D → Prop) {tg : Tg P} : AP1 (gList [.tup xs]) P tg = (P (.lst xs)) := propext (iff_of_eq (ev_gList_tup xs P))
theorem a_ev_gList_rol (xs : List D) (P : D → Prop) {tg : Tg P} : AP1 (gList [.rol xs]) P tg = (P (.lst xs)) := propext (iff_of_eq (ev_gList_rol xs P))
theorem a_ev_gList_tupI (xs : List Int) (P : D → Prop) {tg : Tg P} : AP1 (gList [tupI xs]) P tg = (P (lstI xs)) := propext (iff_of_eq (ev_gList_tupI xs P))
theorem a_ev_gSl_tupI (xs : List Int) (l h : Option Int) (P : D → Prop) {tg : Tg P} : AP1 (gSl (tupI xs) l h) P tg = (P (.tup (cutD (xs.map .int) l h))) := propext (iff_of_eq (ev_gSl_tupI xs l h P))
theorem a_ev_gLt_tupI (a b : List Int) (P : D → Prop) {tg : Tg P} : AP1 (gLt (tupI a) (tupI b)) P tg = (P (.bl (HT.lexLt a b))) := propext (iff_of_eq (ev_gLt_tupI a b P))
theorem a_ev_gSumL (bs : List Int) (P : D → Prop) {tg : Tg P} : AP1 (gSumL [.lst (bs.map .int)]) P tg = (P (.int bs.sum)) := propext (iff_of_eq (ev_gSumL bs P))
theorem a_ev_keysD_dT (ks : List (List Key)) (vs : List D) (P : List D → Prop) {tg : Tg P} : AP1 (keysD (.dT ks vs)) P tg = (P (ks.map fun k => .tup (k.map kD))) := propext (iff_of_eq (ev_keysD_dT ks vs P))
theorem a_ev_keysD_dK (ks : List Key) (vs : List D) (P : List D → Prop) {tg : Tg P} : AP1 (keysD (.dK ks vs)) P tg = (P (ks.map kD)) := propext (iff_of_eq (ev_keysD_dK ks vs P))
theorem w_gAdd {x : D} {y : D} {P : D → Prop} : gAdd x y P = AP1 (gAdd x y) P .mk := propext (iff_of_eq (rfl))
theorem w_gMul {x : D} {y : D} {P : D → Prop} : gMul x y P = AP1 (gMul x y) P .mk := propext (iff_of_eq (rfl))
theorem w_gEq {x : D} {y : D} {P : D → Prop} : gEq x y P = AP1 (gEq x y) P .mk := propext (iff_of_eq (rfl))
theorem w_gNe {x : D} {y : D} {P : D → Prop} : gNe x y P = AP1 (gNe x y) P .mk := propext (iff_of_eq (rfl))
theorem w_gLt {x : D} {y : D} {P : D → Prop} : gLt x y P = AP1 (gLt x y) P .mk := propext (iff_of_eq (rfl))
theorem w_gIs {x : D} {y : D} {P : D → Prop} : gIs x y P = AP1 (gIs x y) P .mk := propext (iff_of_eq (rfl))
theorem w_gIsNot {x : D} {y : D} {P : D → Prop} : gIsNot x y P = AP1 (gIsNot x y) P .mk := propext (iff_of_eq (rfl))
theorem w_gIx {x : D} {y : D} {P : D → Prop} : gIx x y P = AP1 (gIx x y) P .mk := propext (iff_of_eq (rfl))
theorem w_gSub {x : D} {y : D} {P : D → Prop} : gSub x y P = AP1 (gSub x y) P .mk := propext (iff_of_eq (rfl))
theorem w_gMod {x : D} {y : D} {P : D → Prop} : gMod x y P = AP1 (gMod x y) P .mk := propext (iff_of_eq (rfl))
theorem w_gDiv {x : D} {y : D} {P : D → Prop} : gDiv x y P = AP1 (gDiv x y) P .mk := propext (iff_of_eq (rfl))
theorem w_gPow {x : D} {y : D} {P : D → Prop} : gPow x y P = AP1 (gPow x y) P .mk := propext (iff_of_eq (rfl))
theorem w_gLe {x : D} {y : D} {P : D → Prop} : gLe x y P = AP1 (gLe x y) P .mk := propext (iff_of_eq (rfl))
theorem w_gGt {x : D} {y : D} {P : D → Prop} : gGt x y P = AP1 (gGt x y) P .mk := propext (iff_of_eq (rfl))
theorem w_gGe {x : D} {y : D} {P : D → Prop} : gGe x y P = AP1 (gGe x y) P .mk := propext (iff_of_eq (rfl))
theorem w_gInB {n : Bool} {x : D} {y : D} {P : D → Prop} : gInB n x y P = AP1 (gInB n x y) P .mk := propext (iff_of_eq (rfl))
theorem w_gI {C : Int → Int → Prop} {h : Int → Int → D} {x : D} {y : D} {P : D → Prop} : gI C h x y P = AP1 (gI C h x y) P .mk := propext (iff_of_eq (rfl))
theorem w_gC {h : Int → Int → Bool} {x : D} {y : D} {P : D → Prop} : gC h x y P = AP1 (gC h x y) P .mk := propext (iff_of_eq (rfl))
theorem w_gNeg {x : D} {P : D → Prop} : gNeg x P = AP1 (gNeg x) P .mk := propext (iff_of_eq (rfl))
theorem w_gSl {d : D} {lo : Option Int} {hi : Option Int} {P : D → Prop} : gSl d lo hi P = AP1 (gSl d lo hi) P .mk := propext (iff_of_eq (rfl))
theorem w_gLen {ds : List D} {P : D → Prop} : gLen ds P = AP1 (gLen ds) P .mk := propext (iff_of_eq (rfl))
theorem w_gAll {ds : List D} {P : D → Prop} : gAll ds P = AP1 (gAll ds) P .mk := propext (iff_of_eq (rfl))
theorem w_gAny {ds : List D} {P : D → Prop} : gAny ds P = AP1 (gAny ds) P .mk := propext (iff_of_eq (rfl))
theorem w_gSum {ds : List D} {P : D → Prop} : gSum ds P = AP1 (gSum ds) P .mk := propext (iff_of_eq (rfl))
theorem w_gTuple {ds : List D} {P : D → Prop} : gTuple ds P = AP1 (gTuple ds) P .mk := propext (iff_of_eq (rfl))
theorem w_gList {ds : List D} {P : D → Prop} : gList ds P = AP1 (gList ds) P .mk := propext (iff_of_eq (rfl))
theorem w_gInt {ds : List D} {P : D → Prop} : gInt ds P = AP1 (gInt ds) P .mk := propext (iff_of_eq (rfl))
theorem w_gAbs {ds : List D} {P : D → Prop} : gAbs ds P = AP1 (gAbs ds) P .mk := propext (iff_of_eq (rfl))
theorem w_gIsi {ds : List D} {P : D → Prop} : gIsi ds P = AP1 (gIsi ds) P .mk := propext (iff_of_eq (rfl))
theorem w_gSortT {ds : List D} {P : D → Prop} : gSortT ds P = AP1 (gSortT ds) P .mk := propext (iff_of_eq (rfl))
theorem w_gSortD {ds : List D} {P : D → Prop} : gSortD ds P = AP1 (gSortD ds) P .mk := propext (iff_of_eq (rfl))
theorem w_gSumL {ds : List D} {P : D → Prop} : gSumL ds P = AP1 (gSumL ds) P .mk := propext (iff_of_eq (rfl))
theorem w_gInt2 {h : Int → Int → Int} {ds : List D} {P : D → Prop} : gInt2 h ds P = AP1 (gInt2 h ds) P .mk := propext (iff_of_eq (rfl))
theorem w_asB {d : D} {P : Bool → Prop} : asB d P = AP1 (asB d) P .mk := propext (iff_of_eq (rfl))
theorem w_asI {d : D} {P : Int → Prop} : asI d P = AP1 (asI d) P .mk := propext (iff_of_eq (rfl))
theorem w_lstD {d : D} {P : List D → Prop} : lstD d P = AP1 (lstD d) P .mk := propext (iff_of_eq (rfl))
theorem w_tupD {d : D} {P : List D → Prop} : tupD d P = AP1 (tupD d) P .mk := propext (iff_of_eq (rfl))
theorem w_seqD {d : D} {P : List D → Prop} : seqD d P = AP1 (seqD d) P .mk := propext (iff_of_eq (rfl))
theorem w_lstO {d : D} {P : List D → Prop} : lstO d P = AP1 (lstO d) P .mk := propext (iff_of_eq (rfl))
theorem w_keysD {d : D} {P : List D → Prop} : keysD d P = AP1 (keysD d) P .mk := propext (iff_of_eq (rfl))
theorem w_dlook {d : D} {y : D} {P : Option D → Prop} : dlook d y P = AP1 (dlook d y) P .mk := propext (iff_of_eq (rfl))
theorem w_dput {c : D} {y : D} {x : D} {P : D → Prop} : dput c y x P = AP1 (dput c y x) P .mk := propext (iff_of_eq (rfl))
theorem w_ownD {ρ : List Sl} {i : Nat} {P : D → Prop} : ownD ρ i P = AP1 (ownD ρ i) P .mk := propext (iff_of_eq (rfl))
theorem w_rng1 {ds : List D} {P : List D → Prop} : rng1 ds P = AP1 (rng1 ds) P .mk := propext (iff_of_eq (rfl))
theorem w_rng2 {ds : List D} {P : List D → Prop} : rng2 ds P = AP1 (rng2 ds) P .mk := propext (iff_of_eq (rfl))
theorem w_zip2 {ds : List D} {P : List D → Prop} : zip2 ds P = AP1 (zip2 ds) P .mk := propext (iff_of_eq (rfl))
theorem w_slotO {o : Option Sl} {P : D → Prop} : slotO o P = AP1 (slotO o) P .mk := propext (iff_of_eq (rfl))
theorem w_gFld {cns : List Str} {f : Str} {d : D} {P : D → Prop} : gFld cns f d P = AP1 (gFld cns f d) P .mk := propext (iff_of_eq (rfl))
theorem w_gSetF {cns : List Str} {f : Str} {x : D} {d : D} {P : D → Prop} : gSetF cns f x d P = AP1 (gSetF cns f x d) P .mk := propext (iff_of_eq (rfl))
theorem w_recvT {m : Str} {tbl : List (Str × GD)} {d : D} {P : GD → Prop} : recvT m tbl d P = AP1 (recvT m tbl d) P .mk := propext (iff_of_eq (rfl))
theorem w_gBinO {tbl : List (Str × GD)} {x : D} {y : D} {P : D → Prop} : gBinO tbl x y P = AP1 (gBinO tbl x y) P .mk := propext (iff_of_eq (rfl))
theorem w_gMinDef {ds : List D} {es : List D} {P : D → Prop} : gMinDef ds es P = AP1 (gMinDef ds es) P .mk := propext (iff_of_eq (rfl))
theorem w_gLeT {x : D} {y : D} {P : D → Prop} : gLeT x y P = AP1 (gLeT x y) P .mk := propext (iff_of_eq (rfl))
theorem w_gInO {n : Bool} {tbl : List (Str × GD)} {x : D} {y : D} {P : D → Prop} : gInO n tbl x y P = AP1 (gInO n tbl x y) P .mk := propext (iff_of_eq (rfl))
theorem w_optP {α : Type} {o : Option α} {P : α → Prop} : optP o P = AP1 (optP o) P .mk := propext (iff_of_eq (rfl))
theorem w_forGo {g : FG} {B : FS} {ds : List D} {ρ : List Sl} {P : Fl → Prop} : forGo g B ds ρ P = AP1 (forGo g B ds ρ) P .mk := propext (iff_of_eq (rfl))
theorem w_lcGo {g : FG} {u : FT} {fe : FE} {vs : List Nat} {ds acc : List D} {ρ : List Sl} {P : List D → List Sl → Prop} : lcGo g u fe vs ds acc ρ P = AP2 (lcGo g u fe vs ds acc ρ) P .mk := propext (iff_of_eq (rfl))
theorem w_ownsL {ρ : List Sl} {is : List Nat} {P : List D → Prop} : ownsL ρ is P = AP1 (ownsL ρ is) P .mk := propext (iff_of_eq (rfl))
theorem w_gO {j : Nat} {ds0 : List D} {g : FG} {d : D} {ρ : List Sl} {P : List Sl → Prop} : gO j ds0 g d ρ P = AP1 (gO j ds0 g d ρ) P .mk := propext (iff_of_eq (rfl))
theorem w_lc2Go {g : FG} {u : FT} {i1 : FI} {g1 : FG} {u1 : FT} {fe : FE} {vs vs1 : List Nat} {ds acc : List D} {ρ : List Sl} {P : List D → List Sl → Prop} : lc2Go g u i1 g1 u1 fe vs vs1 ds acc ρ P = AP2 (lc2Go g u i1 g1 u1 fe vs vs1 ds acc ρ) P .mk := propext (iff_of_eq (rfl))
theorem c_dlook_dT {ks : List (List Key)} {vs : List D} {y : D} {P : Option D → Prop} {t : Tg P} : AP1 (dlook (.dT ks vs) y) P t = AP1 (optP (asTK y)) (fun k => P (look ks vs k)) .mk := propext (iff_of_eq ((ex_optP _ _)))
theorem c_ownsL_nil {ρ : List Sl} {P : List D → Prop} {t : Tg P} : AP1 (ownsL ρ []) P t = P [] := propext (iff_of_eq (rfl))
theorem c_ownsL_cons {ρ : List Sl} {i : Nat} {is : List Nat} {P : List D → Prop} {t : Tg P} : AP1 (ownsL ρ (i :: is)) P t = AP1 (ownD ρ i) (fun c => AP1 (ownsL ρ is) (fun cs => P (c :: cs)) .mk) .mk := propext (iff_of_eq (rfl))
theorem c_retM_nx {is : List Nat} {P : D → List D → Prop} {ρ : List Sl} : retM is P (.nx ρ) = AP1 (ownsL ρ is) (fun cs => P .non cs) .mk := propext (iff_of_eq (rfl))
theorem c_retM_rt {is : List Nat} {P : D → List D → Prop} {d : D} {ρ : List Sl} : retM is P (.rt d ρ) = AP1 (ownsL ρ is) (fun cs => P d cs) .mk := propext (iff_of_eq (rfl))
theorem c_retM_rf {is : List Nat} {P : D → List D → Prop} {d : D} {ρ : List Sl} : retM is P (.rf d ρ) = AP1 (ownsL ρ is) (fun cs => P d cs) .mk := propext (iff_of_eq (rfl))
theorem e_setOwns_nil {ρ : List Sl} {cs : List D} : setOwns ρ [] cs = ρ := rfl
theorem e_setOwns_cons {ρ : List Sl} {i : Nat} {is : List Nat} {c : D} {cs : List D} : setOwns ρ (i :: is) (c :: cs) = setOwns (ρ.set i (.own c)) is cs := rfl
theorem c_gO {j : Nat} {ds0 : List D} {g : FG} {d : D} {ρ : List Sl} {P : List Sl → Prop} {t : Tg P} : AP1 (gO j ds0 g d ρ) P t = (ρ[j]? = some (.own (.lst ds0)) ∧ AP1 (g d ρ) P .mk) := propext (iff_of_eq (rfl))
theorem e_slM {k : Nat} {cs ds : List D} : slM k cs ds = cs.map Sl.own ++ sl0 k ds := rfl
theorem c_dlook_dK {ks : List Key} {vs : List D} {y : D} {P : Option D → Prop} {t : Tg P} : AP1 (dlook (.dK ks vs) y) P t = AP1 (optP (asK y)) (fun k => P (look ks vs k)) .mk := propext (iff_of_eq ((ex_optP _ _)))
theorem c_dput_dT {ks : List (List Key)} {vs : List D} {y x : D} {P : D → Prop} {t : Tg P} : AP1 (dput (.dT ks vs) y x) P t = AP1 (optP (asTK y)) (fun k => ks.length < 100000 ∧ P (.dT (putKs ks k) (putVs ks vs k x))) .mk := propext (iff_of_eq ((ex_optP _ _)))
theorem c_dput_dK {ks : List Key} {vs : List D} {y x : D} {P : D → Prop} {t : Tg P} : AP1 (dput (.dK ks vs) y x) P t = AP1 (optP (asK y)) (fun k => ks.length < 100000 ∧ P (.dK (putKs ks k) (putVs ks vs k x))) .mk := propext (iff_of_eq ((ex_optP _ _)))
theorem c_asTK_tupI {xs : List Int} : asTK (tupI xs) = some (xs.map .inl) := asKs_ints xs
theorem c_optP_some {α : Type} {a : α} {P : α → Prop} {t : Tg P} : AP1 (optP (some a)) P t = P a := propext (iff_of_eq (rfl))
theorem c_slotQ_val {d : D} {P : Bool × D → Prop} {t : Tg P} : AP1 (slotQ (some (.val d))) P t = P (true, d) := propext (iff_of_eq (rfl))
theorem c_slotQ_own {d : D} {P : Bool × D → Prop} {t : Tg P} : AP1 (slotQ (some (.own d))) P t = P (false, d) := propext (iff_of_eq (rfl))
theorem c_ownD {ρ : List Sl} {i : Nat} {P : D → Prop} {t : Tg P} : AP1 (ownD ρ i) P t = AP1 (slotO ρ[i]?) P .mk := propext (iff_of_eq (rfl))
theorem c_gdTup {n : Nat} {fs : FGs} {ds : List D} {ρ : List Sl} {P : List Sl → Prop} {t : Tg P} : AP1 (gdTup n fs (.tup ds) ρ) P t = (ds.length = n ∧ AP1 (fs ds ρ) P .mk) := propext (iff_of_eq (rfl))
theorem c_BR_true {A B : Unit → Prop} {t : Tg A} {u : Tg B} : BR true A B t u = A () := propext (iff_of_eq (rfl))
theorem c_BR_false {A B : Unit → Prop} {t : Tg A} {u : Tg B} : BR false A B t u = B () := propext (iff_of_eq (rfl))
end DL

/-! DLM: plain facts of lists of ints (moments), shared by the laws. -/
namespace DL
open PySem L2
def imax (i j : Int) : Int := if j > i then j else i
def imin (i j : Int) : Int := if j < i then j else i
def befL (a b : List Int) : Bool := (List.zipWith (fun x y => decide (x ≤ y)) a b).all id
def joinL (a b : List Int) : List Int := List.zipWith imax a b
def meetL (a b : List Int) : List Int := List.zipWith imin a b
theorem zw_map {α : Type} (f : Int → Int → α) (h : α → D) : ∀ a b : List Int, List.zipWith (fun x y => h (f x y)) a b = (List.zipWith f a b).map h
  | [], _ => rfl
  | _ :: _, [] => rfl
  | x :: a, y :: b => by rw [List.zipWith_cons_cons, List.zipWith_cons_cons, List.map_cons, zw_map f h a b]

/-- not negative -/
def NN (L : List Int) : Prop := ∀ x ∈ L, 0 ≤ x
def okM (n : Nat) (p : List Int) : Prop := p.length = n ∧ NN p
theorem all_true {α : Type} (f : α → Bool) (xs : List α) (h : ∀ x ∈ xs, f x = true) : (xs.map f).all id = true := by
  rw [List.all_map]
  exact List.all_eq_true.mpr h
theorem range_zip {α : Type} (f : Int → Int → α) (a b : List Int) (h : a.length = b.length) : (List.range a.length).map (fun i => f (a.getD i 0) (b.getD i 0)) = List.zipWith f a b := by
  refine List.ext_getElem ?_ fun i h1 h2 => ?_
  · rw [List.length_map, List.length_range, List.length_zipWith, ← h, Nat.min_self]
  · rw [List.length_map, List.length_range] at h1
    rw [List.getElem_map, List.getElem_range, List.getElem_zipWith, List.getD_eq_getElem?_getD, List.getD_eq_getElem?_getD, List.getElem?_eq_getElem h1, List.getElem?_eq_getElem (by omega)]
    rfl
theorem joinL_len {n : Nat} {a b : List Int} (ha : a.length = n) (hb : b.length = n) : (joinL a b).length = n := by unfold joinL; rw [List.length_zipWith, ha, hb, Nat.min_self]
theorem meetL_len {n : Nat} {a b : List Int} (ha : a.length = n) (hb : b.length = n) : (meetL a b).length = n := by unfold meetL; rw [List.length_zipWith, ha, hb, Nat.min_self]
theorem zw_getD (f : Int → Int → Int) {n : Nat} {a b : List Int} (ha : a.length = n) (hb : b.length = n) {i : Nat} (hi : i < n) : (List.zipWith f a b).getD i 0 = f (a.getD i 0) (b.getD i 0) := by
  rw [List.getD_eq_getElem?_getD, List.getD_eq_getElem?_getD, List.getD_eq_getElem?_getD, List.getElem?_eq_getElem (l := List.zipWith f a b) (by rw [List.length_zipWith]; omega), List.getElem?_eq_getElem (l := a) (by omega), List.getElem?_eq_getElem (l := b) (by omega), List.getElem_zipWith]
  rfl
theorem NN_getD {a : List Int} (h : NN a) (i : Nat) : 0 ≤ a.getD i 0 := by
  rw [List.getD_eq_getElem?_getD]
  cases q : a[i]? with
  | none => exact Int.le_refl 0
  | some x => exact h x (List.mem_of_getElem? q)
theorem NN_of {a : List Int} (h : ∀ i, i < a.length → 0 ≤ a.getD i 0) : NN a := fun x hx => by
  obtain ⟨i, hi, rfl⟩ := List.mem_iff_getElem.mp hx
  have := h i hi
  rw [List.getD_eq_getElem?_getD, List.getElem?_eq_getElem hi] at this
  exact this
theorem joinL_ok {n : Nat} {a b : List Int} (ha : okM n a) (hb : okM n b) : okM n (joinL a b) := by
  refine ⟨joinL_len ha.1 hb.1, NN_of fun i hi => ?_⟩
  rw [joinL_len ha.1 hb.1] at hi
  unfold joinL
  rw [zw_getD _ ha.1 hb.1 hi]
  have := NN_getD ha.2 i
  have := NN_getD hb.2 i
  unfold imax
  split <;> omega
theorem meetL_ok {n : Nat} {a b : List Int} (ha : okM n a) (hb : okM n b) : okM n (meetL a b) := by
  refine ⟨meetL_len ha.1 hb.1, NN_of fun i hi => ?_⟩
  rw [meetL_len ha.1 hb.1] at hi
  unfold meetL
  rw [zw_getD _ ha.1 hb.1 hi]
  have := NN_getD ha.2 i
  have := NN_getD hb.2 i
  unfold imin
  split <;> omega
theorem ext_n {n : Nat} {a b : List Int} (ha : a.length = n) (hb : b.length = n) (h : ∀ i, a.getD i 0 = b.getD i 0) : a = b := by
  refine List.ext_getElem (by omega) fun i h1 h2 => ?_
  have := h i
  rw [List.getD_eq_getElem?_getD, List.getD_eq_getElem?_getD, List.getElem?_eq_getElem h1, List.getElem?_eq_getElem h2] at this
  exact this
theorem getD_out {a : List Int} {i : Nat} (h : a.length ≤ i) : a.getD i 0 = 0 := by
  rw [List.getD_eq_getElem?_getD, List.getElem?_eq_none h]
  rfl
theorem jg {n : Nat} {a b : List Int} (ha : a.length = n) (hb : b.length = n) (i : Nat) : (joinL a b).getD i 0 = imax (a.getD i 0) (b.getD i 0) := by
  by_cases h : i < n
  · exact zw_getD imax ha hb h
  · rw [getD_out (by rw [joinL_len ha hb]; omega), getD_out (by omega), getD_out (by omega)]
    rfl
theorem imax_le {a b c : Int} : imax a b ≤ c ↔ a ≤ c ∧ b ≤ c := by unfold imax; split <;> omega
theorem imax_cases (a b : Int) : (imax a b = a ∧ b ≤ a) ∨ (imax a b = b ∧ a ≤ b) := by unfold imax; split <;> omega
theorem imax_swap (s m a : Int) : imax (imax s m) a = imax (imax s a) m := by
  unfold imax
  repeat' (first | omega | split)
theorem imax_idem (s a : Int) : imax (imax s a) a = imax s a := by
  unfold imax
  repeat' (first | omega | split)
theorem imax_comm (s a : Int) : imax s a = imax a s := by
  unfold imax
  repeat' (first | omega | split)
theorem imax_self (s : Int) : imax s s = s := by
  unfold imax
  repeat' (first | omega | split)
theorem take_q {α : Type} {l : List α} {j : Nat} {x : α} (q : l[j]? = some x) : l.take (j + 1) = l.take j ++ [x] := by
  rw [List.take_succ, q]
  rfl
theorem mem_take_q {α : Type} {l : List α} {j : Nat} {x y : α} (q : l[j]? = some x) : y ∈ l.take (j + 1) ↔ y ∈ l.take j ∨ y = x := by
  rw [take_q q, List.mem_append, List.mem_singleton]
/-- a tuple that is below p and has p's number at each place, among the given ones -/
def below (a b : List Int) : Prop := ∀ i, a.getD i 0 ≤ b.getD i 0
theorem befL_iff {n : Nat} {a b : List Int} (ha : a.length = n) (hb : b.length = n) : befL a b = true ↔ below a b := by
  unfold befL
  rw [← range_zip (fun x y => decide (x ≤ y)) a b (by omega), List.all_map, List.all_eq_true]
  constructor
  · intro h i
    by_cases hi : i < n
    · exact of_decide_eq_true (h i (List.mem_range.mpr (by omega)))
    · rw [getD_out (by omega), getD_out (by omega)]
      exact Int.le_refl 0
  · intro h i _
    exact decide_eq_true (h i)
abbrev ky (p : List Int) : List Key := p.map .inl
theorem ky_inj {p q : List Int} (h : ky p = ky q) : p = q := by
  induction p generalizing q with
  | nil => cases q with
    | nil => rfl
    | cons _ _ => cases h
  | cons x p ih => cases q with
    | nil => cases h
    | cons y q =>
      have h1 : (Sum.inl x : Key) = .inl y := (List.cons.inj h).1
      have h2 := (List.cons.inj h).2
      rw [ih h2, Sum.inl.inj h1]
theorem mem_ky {p : List Int} {S : List (List Int)} : ky p ∈ S.map ky ↔ p ∈ S := by
  rw [List.mem_map]
  exact ⟨fun ⟨q, hq, e⟩ => ky_inj e ▸ hq, fun h => ⟨p, h, rfl⟩⟩
/-- the set with one more -/
def addS (S : List (List Int)) (p : List Int) : List (List Int) := if p ∈ S then S else S ++ [p]
theorem putKs_ky (S : List (List Int)) (p : List Int) : putKs (S.map ky) (ky p) = (addS S p).map ky := by
  unfold putKs addS
  by_cases h : p ∈ S
  · rw [if_pos (mem_ky.mpr h), if_pos h]
  · rw [if_neg (fun z => h (mem_ky.mp z)), if_neg h, List.map_append]
    rfl
theorem mem_addS {S : List (List Int)} {p q : List Int} : q ∈ addS S p ↔ q ∈ S ∨ q = p := by
  unfold addS
  split
  · exact ⟨.inl, fun h => h.elim id fun e => e ▸ by assumption⟩
  · rw [List.mem_append, List.mem_singleton]
theorem nodup_addS {S : List (List Int)} {p : List Int} (h : S.Nodup) : (addS S p).Nodup := by
  unfold addS
  split
  · exact h
  · rename_i hp
    rw [List.nodup_append]
    exact ⟨h, List.nodup_cons.mpr ⟨fun h => (nomatch h), List.nodup_nil⟩, fun a ha b hb e => hp (by rw [List.mem_singleton.mp hb] at e; exact e ▸ ha)⟩
theorem len_addS (S : List (List Int)) (p : List Int) : (addS S p).length ≤ S.length + 1 := by
  unfold addS
  split
  · omega
  · rw [List.length_append, List.length_singleton]; exact Nat.le_refl _
theorem keys_tupI (S : List (List Int)) : (S.map ky).map (fun k => D.tup (k.map kD)) = S.map tupI := by
  rw [List.map_map]
  refine List.map_congr_left fun p _ => ?_
  show D.tup ((p.map Sum.inl).map kD) = _
  rw [List.map_map]
  rfl
theorem any_true {α : Type} (f : α → Bool) (xs : List α) (x : α) (hx : x ∈ xs) (h : f x = true) : (xs.map f).any id = true := by
  rw [List.any_map]
  exact List.any_eq_true.mpr ⟨x, hx, h⟩
theorem all_t {α : Type} (xs : List α) : (xs.map fun _ => true).all id = true := all_true _ _ fun _ _ => rfl

/-! ### sorted pairs (moment, int) -/
def pc (c : List Int × Int) : D := .tup [tupI c.1, .int c.2]
theorem toPs_ints : ∀ xs : List Int, toPs (xs.map .int) = xs.map PyData.int
  | [] => rfl
  | x :: xs => by
    show PyData.int x :: toPs (xs.map .int) = _
    rw [toPs_ints xs]
    rfl
theorem toP_pc (c : List Int × Int) : toP (pc c) = .tuple [.tuple (c.1.map .int), .int c.2] := by
  show PyData.tuple [.tuple (toPs (c.1.map .int)), .int c.2] = _
  rw [toPs_ints]
theorem lexLt_lt : ∀ xs ys : List Int, HT.lexLt xs ys = decide (xs < ys)
  | [], [] => rfl
  | [], y :: ys => by
    rw [decide_eq_true (List.nil_lt_cons _ _)]
    rfl
  | x :: xs, [] => by
    rw [decide_eq_false (List.not_lt_nil _)]
    rfl
  | x :: xs, y :: ys => by
    rw [HT.lexLt_cons, lexLt_lt xs ys]
    by_cases e : x = y
    · subst e
      rw [if_pos rfl]
      refine decide_eq_decide.mpr ?_
      rw [List.cons_lt_cons_iff]
      exact ⟨fun h => .inr ⟨rfl, h⟩, fun h => h.elim (fun h => absurd h (Int.lt_irrefl _)) fun h => h.2⟩
    · rw [if_neg e]
      refine decide_eq_decide.mpr ?_
      rw [List.cons_lt_cons_iff]
      exact ⟨.inl, fun h => h.elim id fun h => absurd h.1 e⟩
open PySem.W in
theorem pc_le {x y : List Int × Int} (h : dataLe false (fun c => toP (pc c)) x y = true) (hne : x.1 ≠ y.1) : HT.lexLt x.1 y.1 = true := by
  have h : (!dataLt (toP (pc y)) (toP (pc x))) = true := h
  rw [toP_pc, toP_pc, dataLt_pair (by rw [alike]; exact alike_ints _ _) (by rw [alike])] at h
  have e : PyData.eqv (.tuple (y.1.map .int)) (.tuple (x.1.map .int)) = false := by
    cases q : PyData.eqv (.tuple (y.1.map .int)) (.tuple (x.1.map .int)) with
    | false => rfl
    | true =>
      have := (dat_tupI.eqv y.1 x.1).mp (by show PyData.eqv (.tuple (toPs (y.1.map .int))) (.tuple (toPs (x.1.map .int))) = true; rw [toPs_ints, toPs_ints]; exact q)
      exact absurd this.symm hne
  rw [e, if_neg Bool.false_ne_true, dataLt_tuple] at h
  have h2 : rowLt (y.1.map .int) (x.1.map .int) = false := by
    rw [Bool.not_eq_true'] at h
    exact h
  rw [dataLt_ints, ← lexLt_lt] at h2
  cases q : HT.lexLt x.1 y.1 with
  | true => rfl
  | false => exact absurd (lex_tot _ _ q h2) hne
open PySem.W in
theorem gSortD_pc (cs : List (List Int × Int)) (P : D → Prop) (nd : cs.Pairwise fun x y => x.1 ≠ y.1) (h : ∀ cs' : List (List Int × Int), cs'.Perm cs → cs'.Pairwise (fun x y => HT.lexLt x.1 y.1 = true) → P (.lst (cs'.map pc))) : gSortD [.lst (cs.map pc)] P := by
  refine ⟨_, .inl rfl, fun x hx => ?_, ?_, ?_, ?_⟩
  · obtain ⟨c, _, rfl⟩ := List.mem_map.mp hx
    have p1 := dat_tupI.plain c.1
    have p2 := dat_tupI.depth c.1
    constructor
    · show PyData.plainAll [toP (tupI c.1), .int c.2] = true
      simp only [PyData.plainAll, p1, PyData.plain, Bool.and_self]
    · show PyData.depth (.tuple [toP (tupI c.1), .int c.2]) ≤ 60
      simp only [PyData.depth, PyData.depthAll]
      omega
  · rw [List.map_map]
    refine AllAlike.of fun b b' => ?_
    show alike (toP (pc b)) (toP (pc b')) = true
    rw [toP_pc, toP_pc]
    simp only [alike, alikeAll, alike_ints, Bool.and_self]
  · rw [List.map_map]
    refine Sortable.tuples fun b => ⟨_, _, toP_pc b⟩
  · have e := List.map_mergeSort (r := dataLe false fun c => toP (pc c)) (s := dataLe false toP) (f := pc) (l := cs) (fun _ _ _ _ => rfl)
    rw [← e]
    refine h _ (List.mergeSort_perm _ _) ?_
    have p1 := sort_pairwise (sortLe_total (PyProof.Rows.listOrd PyProof.Rows.itemOrd) false fun c => keyToks (toP (pc c))) cs
    have p2 : (cs.mergeSort (dataLe false fun c => toP (pc c))).Pairwise fun x y => x.1 ≠ y.1 := (List.mergeSort_perm cs _).symm.pairwise nd (fun h e => h e.symm)
    exact List.Pairwise.imp (fun h => pc_le h.1 h.2) (p1.and p2)

/-! ### a comprehension with a test that changes nothing -/
theorem lc_filt {α : Type} {g : FG} {t : FT} {fe : FE} {vs : List Nat} {P : List D → List Sl → Prop} {ρ : List Sl} (f F : α → D) (p : α → Bool) : ∀ (xs : List α) (acc : List D), acc.length + xs.length ≤ 100000 →
    (∀ x ∈ xs, ∀ (k : D → List Sl → Prop) (k0 : List Sl → Prop), (p x = true → ∀ ρ3, wipeS ρ3 vs = ρ → k (F x) ρ3) → (p x = false → ∀ ρ2, wipeS ρ2 vs = ρ → k0 ρ2) → g (f x) ρ fun ρ1 => t ρ1 fun b ρ2 => if b = true then fe ρ2 k else k0 ρ2) →
    P (acc ++ (xs.filter p).map F) ρ → lcGo g t fe vs (xs.map f) acc ρ P
  | [], acc, _, _, h => by
    rw [List.filter_nil, List.map_nil, List.append_nil] at h
    exact h
  | x :: xs, acc, hl, hs, h => by
    rw [List.length_cons] at hl
    refine hs x List.mem_cons_self _ _ (fun e ρ3 e3 => ?_) (fun e ρ2 e2 => ?_)
    · refine ⟨by omega, ?_⟩
      rw [e3]
      refine lc_filt f F p xs (acc ++ [F x]) (by rw [List.length_append, List.length_singleton]; omega) (fun y hy => hs y (List.mem_cons_of_mem _ hy)) ?_
      rw [List.filter_cons_of_pos e] at h
      rw [List.append_assoc]
      exact h
    · rw [e2]
      refine lc_filt f F p xs acc (by omega) (fun y hy => hs y (List.mem_cons_of_mem _ hy)) ?_
      rw [List.filter_cons_of_neg (by rw [e]; exact Bool.false_ne_true)] at h
      exact h

/-! ### a dict over a list of moments -/
theorem look_map (F : List Int → D) (p : List Int) : ∀ B : List (List Int), p ∈ B → look (B.map ky) (B.map F) (ky p) = some (F p)
  | [], h => (nomatch h)
  | q :: B, h => by
    rw [List.map_cons, List.map_cons]
    unfold look
    by_cases e : ky q = ky p
    · rw [if_pos e, ky_inj e]
    · rw [if_neg e]
      refine look_map F p B ?_
      rcases List.mem_cons.mp h with h | h
      · exact absurd (by rw [h]) e
      · exact h
theorem put_new (F : List Int → D) {B : List (List Int)} {p : List Int} (x : D) (h : p ∉ B) : putKs (B.map ky) (ky p) = (B ++ [p]).map ky ∧ putVs (B.map ky) (B.map F) (ky p) x = B.map F ++ [x] := by
  have : ky p ∉ B.map ky := fun z => h (mem_ky.mp z)
  unfold putKs putVs
  rw [if_neg this, if_neg this, List.map_append]
  exact ⟨rfl, rfl⟩
end DL

/-! DLN: plain facts: sorted ints, dicts as association lists, bounds for products. -/
namespace DL
open PySem L2

/-! ### sorted of ints -/
def sortI (ks : List Int) : List Int := ks.mergeSort fun a b => decide (a ≤ b)
theorem sortI_perm (ks : List Int) : (sortI ks).Perm ks := List.mergeSort_perm _ _
theorem sortI_sorted (ks : List Int) : (sortI ks).Pairwise (· ≤ ·) := by
  have := List.pairwise_mergeSort (le := fun a b : Int => decide (a ≤ b)) (fun a b c h1 h2 => decide_eq_true (Int.le_trans (of_decide_eq_true h1) (of_decide_eq_true h2))) (fun a b => by
    rcases Int.le_total a b with h | h
    · rw [decide_eq_true h]; rfl
    · rw [decide_eq_true h]; exact Bool.or_true _) ks
  exact this.imp fun h => of_decide_eq_true h
theorem sortI_uniq {ks ms : List Int} (p : ms.Perm ks) (s : ms.Pairwise (· ≤ ·)) : ms = sortI ks :=
  List.Perm.eq_of_pairwise (le := (· ≤ ·)) (fun a b _ _ h1 h2 => Int.le_antisymm h1 h2) s (sortI_sorted ks) (p.trans (sortI_perm ks).symm)
open PySem.W in
theorem gSortD_ints (ks : List Int) (P : D → Prop) (h : P (.lst ((sortI ks).map .int))) : gSortD [.lst (ks.map .int)] P := by
  refine ⟨_, .inl rfl, fun x hx => ?_, ?_, ?_, ?_⟩
  · obtain ⟨c, _, rfl⟩ := List.mem_map.mp hx
    exact ⟨rfl, Nat.le_trans (dat_int.depth c) (by decide)⟩
  · rw [List.map_map]
    exact AllAlike.of fun b b' => rfl
  · rw [List.map_map]
    exact Sortable.others fun b => ⟨fun z => PyData.noConfusion z, fun _ z => PyData.noConfusion z⟩
  · have e := List.map_mergeSort (r := fun a b : Int => decide (a ≤ b)) (s := dataLe false toP) (f := D.int) (l := ks) (fun a _ b _ => by
      have := congrFun (congrFun (dataLe_int (fun b : Int => b)) a) b
      exact this.symm)
    rw [← e]
    exact h

/-! ### dicts as association lists -/
section
variable {α β κ : Type} [DecidableEq α] [DecidableEq κ]
def keysA (A : List (α × β)) : List α := A.map (·.1)
def getA (A : List (α × β)) (k : α) : Option β := (A.find? fun p => decide (p.1 = k)).map (·.2)
def setA (A : List (α × β)) (k : α) (v : β) : List (α × β) := if k ∈ A.map (·.1) then A.map (fun p => if p.1 = k then (p.1, v) else p) else A ++ [(k, v)]
variable (kf : α → κ) (vf : β → D)
theorem look_A (hk : ∀ a b, kf a = kf b → a = b) (k : α) : ∀ A : List (α × β), look (A.map fun p => kf p.1) (A.map fun p => vf p.2) (kf k) = (getA A k).map vf
  | [] => rfl
  | p :: A => by
    rw [List.map_cons, List.map_cons]
    unfold look getA
    rw [List.find?_cons]
    by_cases e : p.1 = k
    · rw [if_pos (by rw [e]), decide_eq_true e]; rfl
    · rw [if_neg (fun z => e (hk _ _ z)), decide_eq_false e]
      exact look_A hk k A
theorem mem_A (hk : ∀ a b, kf a = kf b → a = b) (k : α) (A : List (α × β)) : kf k ∈ A.map (fun p => kf p.1) ↔ k ∈ A.map (·.1) := by
  rw [List.mem_map, List.mem_map]
  exact ⟨fun ⟨p, hp, e⟩ => ⟨p, hp, hk _ _ e⟩, fun ⟨p, hp, e⟩ => ⟨p, hp, by rw [e]⟩⟩
theorem putK_A (hk : ∀ a b, kf a = kf b → a = b) (k : α) (v : β) (A : List (α × β)) : putKs (A.map fun p => kf p.1) (kf k) = (setA A k v).map fun p => kf p.1 := by
  unfold putKs setA
  by_cases h : k ∈ A.map (·.1)
  · rw [if_pos ((mem_A kf hk k A).mpr h), if_pos h, List.map_map]
    refine List.map_congr_left fun p _ => ?_
    show kf p.1 = kf (if p.1 = k then (p.1, v) else p).1
    split <;> rfl
  · rw [if_neg (fun z => h ((mem_A kf hk k A).mp z)), if_neg h, List.map_append]
    rfl
theorem repl_A (hk : ∀ a b, kf a = kf b → a = b) (k : α) (v : β) : ∀ A : List (α × β), (A.map (·.1)).Nodup → replV (A.map fun p => kf p.1) (A.map fun p => vf p.2) (kf k) (vf v) = (A.map fun p => if p.1 = k then (p.1, v) else p).map fun p => vf p.2
  | [], _ => rfl
  | p :: A, nd => by
    rw [List.map_cons] at nd
    obtain ⟨n1, n2⟩ := List.nodup_cons.mp nd
    rw [List.map_cons, List.map_cons, List.map_cons, List.map_cons]
    unfold replV
    rw [repl_A hk k v A n2]
    by_cases e : p.1 = k
    · rw [if_pos (by rw [e]), if_pos e]
    · rw [if_neg (fun z => e (hk _ _ z)), if_neg e]
theorem putV_A (hk : ∀ a b, kf a = kf b → a = b) (k : α) (v : β) (A : List (α × β)) (nd : (A.map (·.1)).Nodup) : putVs (A.map fun p => kf p.1) (A.map fun p => vf p.2) (kf k) (vf v) = (setA A k v).map fun p => vf p.2 := by
  unfold putVs setA
  by_cases h : k ∈ A.map (·.1)
  · rw [if_pos ((mem_A kf hk k A).mpr h), if_pos h]
    exact repl_A kf vf hk k v A nd
  · rw [if_neg (fun z => h ((mem_A kf hk k A).mp z)), if_neg h, List.map_append]
    rfl
end
section
variable {α β : Type} [DecidableEq α]
theorem keys_setA (A : List (α × β)) (k : α) (v : β) : (setA A k v).map (·.1) = if k ∈ A.map (·.1) then A.map (·.1) else A.map (·.1) ++ [k] := by
  unfold setA
  split
  · rw [List.map_map]
    refine List.map_congr_left fun p _ => ?_
    show (if p.1 = k then (p.1, v) else p).1 = p.1
    split <;> rfl
  · rw [List.map_append]; rfl
theorem nodup_setA {A : List (α × β)} {k : α} {v : β} (h : (A.map (·.1)).Nodup) : ((setA A k v).map (·.1)).Nodup := by
  rw [keys_setA]
  split
  · exact h
  · rename_i hk
    rw [List.nodup_append]
    exact ⟨h, List.nodup_cons.mpr ⟨fun h => (nomatch h), List.nodup_nil⟩, fun a ha b hb e => hk (by rw [List.mem_singleton.mp hb] at e; exact e ▸ ha)⟩
theorem len_setA (A : List (α × β)) (k : α) (v : β) : (setA A k v).length ≤ A.length + 1 := by
  unfold setA
  split
  · rw [List.length_map]; omega
  · rw [List.length_append]; exact Nat.le_refl _
theorem mem_keys_setA {A : List (α × β)} {k x : α} {v : β} : x ∈ (setA A k v).map (·.1) ↔ x ∈ A.map (·.1) ∨ x = k := by
  rw [keys_setA]
  split
  · rename_i h
    exact ⟨.inl, fun q => q.elim id fun e => e ▸ h⟩
  · rw [List.mem_append, List.mem_singleton]
theorem getA_none {A : List (α × β)} {k : α} (h : k ∉ A.map (·.1)) : getA A k = none := by
  unfold getA
  rw [List.find?_eq_none.mpr (fun p hp e => h (List.mem_map.mpr ⟨p, hp, of_decide_eq_true e⟩))]
  rfl
theorem getA_mem {A : List (α × β)} {k : α} {v : β} (nd : (A.map (·.1)).Nodup) (h : (k, v) ∈ A) : getA A k = some v := by
  induction A with
  | nil => cases h
  | cons p A ih =>
    rw [List.map_cons] at nd
    obtain ⟨n1, n2⟩ := List.nodup_cons.mp nd
    unfold getA
    rw [List.find?_cons]
    rcases List.mem_cons.mp h with h | h
    · subst h
      rw [decide_eq_true rfl]; rfl
    · have : p.1 ≠ k := fun e => n1 (List.mem_map.mpr ⟨_, h, e.symm⟩)
      rw [decide_eq_false this]
      exact ih n2 h
theorem getA_some {A : List (α × β)} {k : α} {v : β} (h : getA A k = some v) : (k, v) ∈ A := by
  unfold getA at h
  cases q : A.find? fun p => decide (p.1 = k) with
  | none => rw [q] at h; cases h
  | some p =>
    rw [q] at h
    have := List.find?_some q
    have e : p.1 = k := of_decide_eq_true this
    cases h
    rw [← e]
    exact List.mem_of_find?_eq_some q
theorem getA_key {A : List (α × β)} {k : α} (h : k ∈ A.map (·.1)) : ∃ v, getA A k = some v := by
  cases q : getA A k with
  | some v => exact ⟨v, rfl⟩
  | none =>
    unfold getA at q
    cases f : A.find? fun p => decide (p.1 = k) with
    | some p => rw [f] at q; cases q
    | none =>
      obtain ⟨p, hp, e⟩ := List.mem_map.mp h
      exact absurd (decide_eq_true e) (List.find?_eq_none.mp f p hp)
theorem getA_setA (A : List (α × β)) (k x : α) (v : β) : getA (setA A k v) x = if x = k then some v else getA A x := by
  unfold setA
  split
  · rename_i h
    induction A with
    | nil => cases h
    | cons p A ih =>
      rw [List.map_cons]
      unfold getA
      rw [List.find?_cons, List.find?_cons]
      by_cases e : p.1 = k
      · rw [if_pos e]
        by_cases ex : x = k
        · rw [if_pos ex, decide_eq_true (e.trans ex.symm)]; rfl
        · have : p.1 ≠ x := fun z => ex (z.symm.trans e)
          rw [if_neg ex, decide_eq_false this]
          show getA (A.map _) x = getA A x
          by_cases hA : k ∈ A.map (·.1)
          · have := ih hA
            rw [if_neg ex] at this
            exact this
          · have : A.map (fun p => if p.1 = k then (p.1, v) else p) = A := by
              refine (List.map_congr_left fun q hq => ?_).trans (List.map_id A)
              rw [if_neg (fun z => hA (List.mem_map.mpr ⟨q, hq, z⟩))]
              rfl
            rw [this]
      · rw [if_neg e]
        have hA : k ∈ A.map (·.1) := by
          rcases List.mem_cons.mp h with h | h
          · exact absurd h.symm e
          · exact h
        by_cases ex : p.1 = x
        · rw [decide_eq_true ex, if_neg (fun z => e (ex.trans z))]
        · rw [decide_eq_false ex]
          exact ih hA
  · rename_i h
    unfold getA
    rw [List.find?_append]
    by_cases ex : x = k
    · subst ex
      rw [if_pos rfl, List.find?_eq_none.mpr (fun p hp e => h (List.mem_map.mpr ⟨p, hp, of_decide_eq_true e⟩)), List.find?_cons, decide_eq_true rfl]
      rfl
    · rw [if_neg ex]
      cases q : A.find? fun p => decide (p.1 = x) with
      | some p => rfl
      | none =>
        rw [List.find?_cons, decide_eq_false (fun z => ex z.symm)]
        rfl
end
/-- what all values add up to, weighed by a function of the keys, when one is raised -/
theorem sum_setA {α : Type} [DecidableEq α] (φ : α → Int) {A : List (α × Int)} (k : α) (x : Int) (nd : (A.map (·.1)).Nodup) : ((setA A k ((getA A k).getD 0 + x)).map fun p => p.2 * φ p.1).sum = (A.map fun p => p.2 * φ p.1).sum + x * φ k := by
  unfold setA
  split
  · rename_i h
    induction A with
    | nil => cases h
    | cons p A ih =>
      rw [List.map_cons] at nd
      obtain ⟨n1, n2⟩ := List.nodup_cons.mp nd
      rw [List.map_cons, List.map_cons, List.map_cons]
      unfold getA
      rw [List.find?_cons, List.sum_cons, List.sum_cons]
      by_cases e : p.1 = k
      · subst e
        rw [decide_eq_true rfl, if_pos rfl]
        have : A.map (fun q => if q.1 = p.1 then (q.1, ((some p).map (·.2)).getD 0 + x) else q) = A := by
          refine (List.map_congr_left fun q hq => ?_).trans (List.map_id A)
          rw [if_neg (fun z => n1 (List.mem_map.mpr ⟨q, hq, z⟩))]
          rfl
        show ((some p).map (·.2)).getD 0 |> fun o => (o + x) * φ p.1 + ((A.map (fun q => if q.1 = p.1 then (q.1, ((some p).map (·.2)).getD 0 + x) else q)).map fun p => p.2 * φ p.1).sum = _
        rw [this]
        show (p.2 + x) * φ p.1 + _ = _
        rw [Int.add_mul]
        omega
      · rw [decide_eq_false e, if_neg e]
        have hA : k ∈ A.map (·.1) := by
          rcases List.mem_cons.mp h with h | h
          · exact absurd h.symm e
          · exact h
        have := ih n2 hA
        unfold getA at this
        simp only [] at this ⊢
        omega
  · rename_i h
    rw [getA_none h, List.map_append, List.sum_append]
    show _ + ((0 + x) * φ k + 0) = _
    rw [Int.zero_add, Int.add_zero]

theorem filt_sum {α : Type} (t : α → Bool) (f : α → Int) (l : List α) : ((l.filter t).map f).sum = (l.map fun x => if t x = true then f x else 0).sum := by
  induction l with
  | nil => rfl
  | cons x l ih =>
    rw [List.map_cons, List.sum_cons, ← ih]
    by_cases h : t x = true
    · rw [List.filter_cons_of_pos h, if_pos h, List.map_cons, List.sum_cons]
    · rw [List.filter_cons_of_neg h, if_neg h, Int.zero_add]
theorem perm_sum {α : Type} {a b : List α} (h : a.Perm b) (f : α → Int) : (a.map f).sum = (b.map f).sum := by
  induction h with
  | nil => rfl
  | cons x _ ih => rw [List.map_cons, List.map_cons, List.sum_cons, List.sum_cons, ih]
  | swap x y l => rw [List.map_cons, List.map_cons, List.map_cons, List.map_cons, List.sum_cons, List.sum_cons, List.sum_cons, List.sum_cons]; omega
  | trans _ _ i1 i2 => rw [i1, i2]
theorem mem_setA {α β : Type} [DecidableEq α] {A : List (α × β)} {k : α} {v : β} {p : α × β} (h : p ∈ setA A k v) : p ∈ A ∨ p = (k, v) := by
  unfold setA at h
  split at h
  · obtain ⟨q, hq, rfl⟩ := List.mem_map.mp h
    by_cases e : q.1 = k
    · rw [if_pos e, e]; exact .inr rfl
    · rw [if_neg e]; exact .inl hq
  · rcases List.mem_append.mp h with h | h
    · exact .inl h
    · exact .inr (List.mem_singleton.mp h)
theorem getD_map (o : Option Int) (z : Int) : (o.map D.int).getD (.int z) = .int (o.getD z) := by cases o <;> rfl

/-! ### counts by keys -/
section
variable {α : Type} [DecidableEq α]
def addA (A : List (α × Int)) (kx : α × Int) : List (α × Int) := setA A kx.1 ((getA A kx.1).getD 0 + kx.2)
def accA (A its : List (α × Int)) : List (α × Int) := its.foldl addA A
theorem accA_snoc (A its : List (α × Int)) (kx : α × Int) : accA A (its ++ [kx]) = addA (accA A its) kx := by unfold accA; rw [List.foldl_append]; rfl
theorem accA_app (A its jts : List (α × Int)) : accA A (its ++ jts) = accA (accA A its) jts := by unfold accA; rw [List.foldl_append]
theorem accA_nd : ∀ (its A : List (α × Int)), (A.map (·.1)).Nodup → ((accA A its).map (·.1)).Nodup
  | [], A, h => h
  | kx :: its, A, h => accA_nd its _ (nodup_setA h)
theorem accA_len : ∀ (its A : List (α × Int)), (accA A its).length ≤ A.length + its.length
  | [], A => Nat.le_refl _
  | kx :: its, A => by
    have h1 := accA_len its (addA A kx)
    have h2 := len_setA A kx.1 ((getA A kx.1).getD 0 + kx.2)
    show (accA (addA A kx) its).length ≤ _
    unfold addA at h1
    rw [List.length_cons]
    unfold addA
    omega
theorem accA_sum (φ : α → Int) : ∀ (its A : List (α × Int)), (A.map (·.1)).Nodup → ((accA A its).map fun p => p.2 * φ p.1).sum = (A.map fun p => p.2 * φ p.1).sum + (its.map fun p => p.2 * φ p.1).sum
  | [], A, h => (Int.add_zero _).symm
  | kx :: its, A, h => by
    show ((accA (addA A kx) its).map fun p => p.2 * φ p.1).sum = _
    rw [accA_sum φ its (addA A kx) (nodup_setA h)]
    unfold addA
    rw [sum_setA φ kx.1 kx.2 h, List.map_cons, List.sum_cons]
    omega
theorem accA_keys : ∀ (its A : List (α × Int)) (k : α), k ∈ (accA A its).map (·.1) ↔ k ∈ A.map (·.1) ∨ k ∈ its.map (·.1)
  | [], A, k => ⟨.inl, fun h => h.elim id fun h => (nomatch h)⟩
  | kx :: its, A, k => by
    show k ∈ (accA (addA A kx) its).map (·.1) ↔ _
    rw [accA_keys its, List.map_cons, List.mem_cons]
    unfold addA
    rw [mem_keys_setA]
    constructor
    · rintro ((h | h) | h)
      · exact .inl h
      · exact .inr (.inl h)
      · exact .inr (.inr h)
    · rintro (h | h | h)
      · exact .inl (.inl h)
      · exact .inl (.inr h)
      · exact .inr h
/-- a value adds up the numbers of its key -/
theorem accA_get : ∀ (its A : List (α × Int)) (k : α), (getA (accA A its) k).getD 0 = (getA A k).getD 0 + (its.map fun p => if p.1 = k then p.2 else 0).sum
  | [], A, k => (Int.add_zero _).symm
  | kx :: its, A, k => by
    show (getA (accA (addA A kx) its) k).getD 0 = _
    rw [accA_get its, List.map_cons, List.sum_cons]
    unfold addA
    rw [getA_setA]
    by_cases e : k = kx.1
    · subst e
      rw [if_pos rfl, if_pos rfl]
      show _ + kx.2 + _ = _
      omega
    · rw [if_neg e, if_neg (fun z => e z.symm)]
      omega
end
def sortA (A : List (Int × Int)) : List (Int × Int) := ((sortI (A.map (·.1))).filter fun k => !decide ((getA A k).getD 0 = 0)).map fun k => (k, (getA A k).getD 0)
theorem sortA_sum (φ : Int → Int) {A : List (Int × Int)} (nd : (A.map (·.1)).Nodup) : ((sortA A).map fun p => p.2 * φ p.1).sum = (A.map fun p => p.2 * φ p.1).sum := by
  unfold sortA
  rw [List.map_map, filt_sum]
  have e1 : (sortI (A.map (·.1))).map (fun x => if (!decide ((getA A x).getD 0 = 0)) = true then ((fun p : Int × Int => p.2 * φ p.1) ∘ fun k => (k, (getA A k).getD 0)) x else 0) = (sortI (A.map (·.1))).map fun k => (getA A k).getD 0 * φ k := by
    refine List.map_congr_left fun k _ => ?_
    by_cases h : (getA A k).getD 0 = 0
    · rw [decide_eq_true h, h, Int.zero_mul]; rfl
    · rw [decide_eq_false h]; rfl
  rw [e1, perm_sum (sortI_perm _), List.map_map]
  refine congrArg List.sum (List.map_congr_left fun p hp => ?_)
  show (getA A p.1).getD 0 * φ p.1 = _
  rw [getA_mem nd (show (p.1, p.2) ∈ A from hp)]
  rfl
theorem mem_sortA {A : List (Int × Int)} {p : Int × Int} (h : p ∈ sortA A) : p ∈ A := by
  unfold sortA at h
  obtain ⟨k, hk, rfl⟩ := List.mem_map.mp h
  have := (List.mem_filter.mp hk).1
  obtain ⟨v, hv⟩ := getA_key ((sortI_perm _).mem_iff.mp this)
  rw [hv]
  exact getA_some hv
theorem len_sortA (A : List (Int × Int)) : (sortA A).length ≤ A.length := by
  unfold sortA
  rw [List.length_map]
  refine Nat.le_trans (List.length_filter_le _ _) ?_
  rw [(sortI_perm _).length_eq, List.length_map]
  exact Nat.le_refl _

/-! ### bounds -/
def Bn (k : Nat) (x : Int) : Prop := x.natAbs ≤ k
theorem Bn.add {a b : Nat} {x y : Int} (h1 : Bn a x) (h2 : Bn b y) : Bn (a + b) (x + y) := Nat.le_trans (Int.natAbs_add_le x y) (Nat.add_le_add h1 h2)
theorem Bn.mul {a b : Nat} {x y : Int} (h1 : Bn a x) (h2 : Bn b y) : Bn (a * b) (x * y) := by
  unfold Bn
  rw [Int.natAbs_mul]
  exact Nat.mul_le_mul h1 h2
theorem Bn.mono {a b : Nat} {x : Int} (h : Bn a x) (hab : a ≤ b) : Bn b x := Nat.le_trans h hab
theorem Bn.neg {a : Nat} {x : Int} (h : Bn a x) : Bn a (-x) := by unfold Bn; rw [Int.natAbs_neg]; exact h
theorem Bn.zero (a : Nat) : Bn a 0 := Nat.zero_le a
theorem log2_le {k a : Nat} (h : a ≤ k) (hk : k < 2 ^ 4000) : a.log2 < 4000 := by
  by_cases h0 : a = 0
  · subst h0; decide
  · exact (Nat.log2_lt h0).mpr (Nat.lt_of_le_of_lt h hk)
theorem Bn.cmul {a b : Nat} {x y : Int} (h1 : Bn a x) (h2 : Bn b y) (ha : a < 2 ^ 4000) (hb : b < 2 ^ 4000) : CMul x y ∨ CMulW x y := .inr (by
  have := log2_le h1 ha
  have := log2_le h2 hb
  show x.natAbs.log2 + y.natAbs.log2 < 1000000
  omega)
theorem Bn.sum {k : Nat} : ∀ {xs : List Int}, (∀ x ∈ xs, Bn k x) → Bn (xs.length * k) xs.sum
  | [], _ => Bn.zero _
  | x :: xs, h => by
    rw [List.sum_cons, List.length_cons, Nat.succ_mul, Nat.add_comm]
    exact (h x List.mem_cons_self).add (Bn.sum fun y hy => h y (List.mem_cons_of_mem _ hy))
theorem accA_bd {α : Type} [DecidableEq α] (b : Nat) : ∀ (its A : List (α × Int)) (n : Nat), (∀ p ∈ A, Bn (n * b) p.2) → (∀ q ∈ its, Bn b q.2) → ∀ p ∈ accA A its, Bn ((n + its.length) * b) p.2
  | [], A, n, h, _, p, hp => h p hp
  | kx :: its, A, n, h, hi, p, hp => by
    have hb : n * b ≤ (n + 1) * b := Nat.mul_le_mul_right b (Nat.le_succ n)
    have := accA_bd b its (addA A kx) (n + 1) (fun q hq => by
      rcases mem_setA hq with hq | rfl
      · exact (h q hq).mono hb
      · have h0 : Bn (n * b) ((getA A kx.1).getD 0) := by
          cases e : getA A kx.1 with
          | none => exact Bn.zero _
          | some v => exact h _ (getA_some e)
        rw [Nat.succ_mul]
        exact h0.add (hi kx List.mem_cons_self)) (fun q hq => hi q (List.mem_cons_of_mem _ hq)) p hp
    rw [List.length_cons]
    exact this.mono (Nat.mul_le_mul_right b (by omega))
end DL

/-! DLO: plain facts of moments: order, minimal ones, folds. -/
namespace DL
open PySem L2

/-! ### the order of tuples -/
theorem lexT {a b : List Int} : HT.lexLt a b = true ↔ a < b := by rw [lexLt_lt]; exact decide_eq_true_iff
theorem lexF {a b : List Int} : HT.lexLt a b = false ↔ ¬ a < b := by rw [lexLt_lt]; exact decide_eq_false_iff_not
theorem lex_irr (a : List Int) : ¬ a < a := List.lt_irrefl a
theorem lex_trans {a b c : List Int} (h : a < b) (g : b < c) : a < c := List.lt_trans h g
theorem lex_asym {a b : List Int} (h : a < b) : ¬ b < a := fun g => lex_irr a (lex_trans h g)
theorem lex_conn {a b : List Int} (h : ¬ a < b) (g : ¬ b < a) : a = b := lex_tot a b (lexF.mpr h) (lexF.mpr g)
theorem below_refl (a : List Int) : below a a := fun _ => Int.le_refl _
theorem below_trans {a b c : List Int} (h : below a b) (g : below b c) : below a c := fun i => Int.le_trans (h i) (g i)
theorem below_anti {n : Nat} {a b : List Int} (ha : a.length = n) (hb : b.length = n) (h : below a b) (g : below b a) : a = b := ext_n ha hb fun i => Int.le_antisymm (h i) (g i)
theorem below_cons {x y : Int} {a b : List Int} (h : below (x :: a) (y :: b)) : x ≤ y ∧ below a b := ⟨h 0, fun i => h (i + 1)⟩
theorem below_lex : ∀ {a b : List Int}, a.length = b.length → below a b → a ≠ b → a < b
  | [], [], _, _, h => absurd rfl h
  | [], _ :: _, h, _, _ => by cases h
  | _ :: _, [], h, _, _ => by cases h
  | x :: a, y :: b, hl, h, hne => by
    obtain ⟨h1, h2⟩ := below_cons h
    rw [List.cons_lt_cons_iff]
    by_cases e : x = y
    · subst e
      exact .inr ⟨rfl, below_lex (Nat.succ.inj hl) h2 fun z => hne (by rw [z])⟩
    · exact .inl (by omega)

/-! ### joins and meets -/
theorem mg {n : Nat} {a b : List Int} (ha : a.length = n) (hb : b.length = n) (i : Nat) : (meetL a b).getD i 0 = imin (a.getD i 0) (b.getD i 0) := by
  by_cases h : i < n
  · exact zw_getD imin ha hb h
  · rw [getD_out (by rw [meetL_len ha hb]; omega), getD_out (by omega), getD_out (by omega)]
    rfl
theorem join_l {n : Nat} {a b : List Int} (ha : a.length = n) (hb : b.length = n) : below a (joinL a b) := fun i => by
  rw [jg ha hb]
  rcases imax_cases (a.getD i 0) (b.getD i 0) with ⟨e, _⟩ | ⟨e, h⟩ <;> omega
theorem join_r {n : Nat} {a b : List Int} (ha : a.length = n) (hb : b.length = n) : below b (joinL a b) := fun i => by
  rw [jg ha hb]
  rcases imax_cases (a.getD i 0) (b.getD i 0) with ⟨e, _⟩ | ⟨e, h⟩ <;> omega
theorem join_lub {n : Nat} {a b c : List Int} (ha : a.length = n) (hb : b.length = n) (h : below a c) (g : below b c) : below (joinL a b) c := fun i => by
  rw [jg ha hb]
  have := h i
  have := g i
  rcases imax_cases (a.getD i 0) (b.getD i 0) with ⟨e, _⟩ | ⟨e, _⟩ <;> omega
theorem imin_cases (a b : Int) : (imin a b = a ∧ a ≤ b) ∨ (imin a b = b ∧ b ≤ a) := by unfold imin; split <;> omega
theorem meet_l {n : Nat} {a b : List Int} (ha : a.length = n) (hb : b.length = n) : below (meetL a b) a := fun i => by
  rw [mg ha hb]
  rcases imin_cases (a.getD i 0) (b.getD i 0) with ⟨e, _⟩ | ⟨e, h⟩ <;> omega
theorem meet_r {n : Nat} {a b : List Int} (ha : a.length = n) (hb : b.length = n) : below (meetL a b) b := fun i => by
  rw [mg ha hb]
  rcases imin_cases (a.getD i 0) (b.getD i 0) with ⟨e, _⟩ | ⟨e, h⟩ <;> omega
theorem meet_glb {n : Nat} {a b c : List Int} (ha : a.length = n) (hb : b.length = n) (h : below c a) (g : below c b) : below c (meetL a b) := fun i => by
  rw [mg ha hb]
  have := h i
  have := g i
  rcases imin_cases (a.getD i 0) (b.getD i 0) with ⟨e, _⟩ | ⟨e, _⟩ <;> omega
theorem join_eq {n : Nat} {a b : List Int} (ha : a.length = n) (hb : b.length = n) (h : below b a) : joinL a b = a :=
  below_anti (joinL_len ha hb) ha (join_lub ha hb (below_refl a) h) (join_l ha hb)
theorem join_eq_r {n : Nat} {a b : List Int} (ha : a.length = n) (hb : b.length = n) (h : below a b) : joinL a b = b :=
  below_anti (joinL_len ha hb) hb (join_lub ha hb h (below_refl b)) (join_r ha hb)
theorem meet_self {n : Nat} {a : List Int} (ha : a.length = n) : meetL a a = a :=
  below_anti (meetL_len ha ha) ha (meet_l ha ha) (meet_glb ha ha (below_refl a) (below_refl a))
theorem join_meet {n : Nat} {m g l : List Int} (hm : m.length = n) (hg : g.length = n) (hl : l.length = n) : meetL (joinL m g) (joinL m l) = joinL m (meetL g l) := by
  refine ext_n (n := n) (meetL_len (joinL_len hm hg) (joinL_len hm hl)) (joinL_len hm (meetL_len hg hl)) fun i => ?_
  rw [mg (joinL_len hm hg) (joinL_len hm hl), jg hm hg, jg hm hl, jg hm (meetL_len hg hl), mg hg hl]
  unfold imin imax
  repeat' (first | omega | split)

/-! ### the minimal ones -/
def IsLeast (G M : List (List Int)) : Prop := M.Pairwise (· < ·) ∧ ∀ x, x ∈ M ↔ x ∈ G ∧ ∀ y ∈ G, below y x → y = x
theorem strict_nodup {M : List (List Int)} (h : M.Pairwise (· < ·)) : M.Nodup := List.nodup_iff_pairwise_ne.mpr (h.imp fun {a b} hab => fun (e : a = b) => by subst e; exact lex_irr a hab)
theorem strict_uniq {M M' : List (List Int)} (h : M.Pairwise (· < ·)) (h' : M'.Pairwise (· < ·)) (e : ∀ x, x ∈ M ↔ x ∈ M') : M = M' :=
  List.Perm.eq_of_pairwise (le := (· < ·)) (fun a b _ _ h1 h2 => (lex_asym h1 h2).elim) h h' ((List.perm_ext_iff_of_nodup (strict_nodup h) (strict_nodup h')).mpr e)
theorem IsLeast.uniq {G M M' : List (List Int)} (h : IsLeast G M) (h' : IsLeast G M') : M = M' := strict_uniq h.1 h'.1 fun x => (h.2 x).trans (h'.2 x).symm
theorem IsLeast.sub {G M : List (List Int)} (h : IsLeast G M) : ∀ x ∈ M, x ∈ G := fun x hx => ((h.2 x).mp hx).1
/-- each one has a minimal one below it -/
theorem least_has {n : Nat} : ∀ {G : List (List Int)}, (∀ g ∈ G, g.length = n) → ∀ x ∈ G, ∃ m ∈ G, below m x ∧ ∀ y ∈ G, below y m → y = m
  | [], _, x, hx => nomatch hx
  | g :: G, hn, x, hx => by
    have hg := hn g List.mem_cons_self
    have ih := least_has (G := G) (fun y hy => hn y (List.mem_cons_of_mem _ hy))
    -- one that is minimal in G, and then g may be below it
    have up : ∀ m ∈ G, below m x → (∀ y ∈ G, below y m → y = m) → ∃ m' ∈ g :: G, below m' x ∧ ∀ y ∈ g :: G, below y m' → y = m' := fun m hm h1 h2 => by
      have hml := hn m (List.mem_cons_of_mem _ hm)
      by_cases hb : below g m
      · refine ⟨g, List.mem_cons_self, below_trans hb h1, fun y hy hyb => ?_⟩
        rcases List.mem_cons.mp hy with rfl | hy
        · rfl
        · have := h2 y hy (below_trans hyb hb)
          subst this
          exact below_anti hml hg hyb hb
      · refine ⟨m, List.mem_cons_of_mem _ hm, h1, fun y hy hyb => ?_⟩
        rcases List.mem_cons.mp hy with rfl | hy
        · exact absurd hyb hb
        · exact h2 y hy hyb
    rcases List.mem_cons.mp hx with rfl | hx
    · by_cases q : ∃ y ∈ G, below y x
      · obtain ⟨y, hy, hyx⟩ := q
        obtain ⟨m, hm, h1, h2⟩ := ih y hy
        exact up m hm (below_trans h1 hyx) h2
      · refine ⟨x, List.mem_cons_self, below_refl x, fun y hy hyb => ?_⟩
        rcases List.mem_cons.mp hy with rfl | hy
        · rfl
        · exact absurd ⟨y, hy, hyb⟩ q
    · obtain ⟨m, hm, h1, h2⟩ := ih x hx
      exact up m hm h1 h2
theorem IsLeast.has {n : Nat} {G M : List (List Int)} (h : IsLeast G M) (hn : ∀ g ∈ G, g.length = n) {x : List Int} (hx : x ∈ G) : ∃ m ∈ M, below m x := by
  obtain ⟨m, hm, h1, h2⟩ := least_has hn x hx
  exact ⟨m, (h.2 m).mpr ⟨hm, h2⟩, h1⟩
/-- the minimal ones of the minimal ones -/
theorem IsLeast.again {n : Nat} {G M M' : List (List Int)} (h : IsLeast G M) (hn : ∀ g ∈ G, g.length = n) (h' : IsLeast M M') : M' = M := by
  refine strict_uniq h'.1 h.1 fun x => ?_
  rw [h'.2]
  refine ⟨fun q => q.1, fun hx => ⟨hx, fun y hy hyb => ?_⟩⟩
  exact ((h.2 x).mp hx).2 y (h.sub y hy) hyb
theorem IsLeast.nil {M : List (List Int)} : IsLeast [] M → M = [] := fun h => by
  cases M with
  | nil => rfl
  | cons x M => exact absurd (h.sub x List.mem_cons_self) (fun z => nomatch z)
theorem IsLeast.ne {n : Nat} {G M : List (List Int)} (h : IsLeast G M) (hn : ∀ g ∈ G, g.length = n) (hG : G ≠ []) : M ≠ [] := fun e => by
  cases G with
  | nil => exact hG rfl
  | cons x G =>
    obtain ⟨m, hm, _⟩ := h.has hn List.mem_cons_self
    rw [e] at hm
    cases hm
/-- open: a minimal one is below -/
def opn (M : List (List Int)) (x : List Int) : Bool := M.any fun m => befL m x
theorem opn_iff {n : Nat} {M : List (List Int)} {x : List Int} (hM : ∀ m ∈ M, m.length = n) (hx : x.length = n) : opn M x = true ↔ ∃ m ∈ M, below m x := by
  unfold opn
  rw [List.any_eq_true]
  exact ⟨fun ⟨m, hm, h⟩ => ⟨m, hm, (befL_iff (hM m hm) hx).mp h⟩, fun ⟨m, hm, h⟩ => ⟨m, hm, (befL_iff (hM m hm) hx).mpr h⟩⟩
theorem IsLeast.opn {n : Nat} {G M : List (List Int)} (h : IsLeast G M) (hG : ∀ m ∈ G, m.length = n) {x : List Int} (hx : x.length = n) : opn M x = true ↔ ∃ g ∈ G, below g x := by
  rw [opn_iff (fun m hm => hG m (h.sub m hm)) hx]
  exact ⟨fun ⟨m, hm, q⟩ => ⟨m, h.sub m hm, q⟩, fun ⟨g, hg, q⟩ => let ⟨m, hm, r⟩ := h.has hG hg; ⟨m, hm, below_trans r q⟩⟩

/-! ### the two ways to find them -/
/-- the sorted ones, one by one: kept if no kept one is below -/
def scanP (M : List (List Int)) (x : List Int) : List (List Int) := if (M.any fun m => befL m x) = true then M else M ++ [x]
theorem scanP_ok {n : Nat} {G L : List (List Int)} (hp : L.Perm G) (hs : L.Pairwise fun x y => HT.lexLt y x = false) (hn : ∀ g ∈ G, g.length = n) : ∀ j, j ≤ L.length →
    let M := (L.take j).foldl scanP []
    (∀ m ∈ M, m ∈ L.take j) ∧ M.Pairwise (· < ·) ∧ (∀ x ∈ L.take j, ∃ m ∈ M, below m x) ∧ (∀ m ∈ M, ∀ y ∈ G, below y m → y = m) ∧ M.length ≤ j
  | 0, _ => ⟨fun m hm => (nomatch hm), .nil, fun x hx => (nomatch hx), fun m hm => (nomatch hm), Nat.le_refl 0⟩
  | j + 1, hj => by
    have q : L[j]? = some L[j] := List.getElem?_eq_getElem hj
    obtain ⟨i1, i2, i3, i4, i5⟩ := scanP_ok hp hs hn j (by omega)
    rw [take_q q, List.foldl_append, List.foldl_cons, List.foldl_nil]
    show let M := scanP ((L.take j).foldl scanP []) L[j]; _
    have hxG : L[j] ∈ G := hp.mem_iff.mp (List.getElem_mem hj)
    have hxl := hn _ hxG
    have hML : ∀ m ∈ (L.take j).foldl scanP [], m ∈ G := fun m hm => hp.mem_iff.mp (List.mem_of_mem_take (i1 m hm))
    revert i1 i2 i3 i4 i5 hML
    generalize (L.take j).foldl scanP [] = M
    intro i1 i2 i3 i4 i5 hML
    have hop := opn_iff (M := M) (x := L[j]) (fun m hm => hn m (hML m hm)) hxl
    unfold opn at hop
    unfold scanP
    by_cases c : (M.any fun m => befL m L[j]) = true
    · rw [if_pos c]
      refine ⟨fun m hm => List.mem_append.mpr (.inl (i1 m hm)), i2, fun x hx => ?_, i4, by omega⟩
      rcases List.mem_append.mp hx with hx | hx
      · exact i3 x hx
      · rw [List.mem_singleton.mp hx]; exact hop.mp c
    · rw [if_neg c]
      have hno : ∀ m ∈ M, ¬ below m L[j] := fun m hm hb => c (hop.mpr ⟨m, hm, hb⟩)
      refine ⟨fun m hm => ?_, ?_, fun x hx => ?_, fun m hm y hy hyb => ?_, by rw [List.length_append]; show M.length + 1 ≤ j + 1; omega⟩
      · rcases List.mem_append.mp hm with hm | hm
        · exact List.mem_append.mpr (.inl (i1 m hm))
        · exact List.mem_append.mpr (.inr hm)
      · rw [List.pairwise_append]
        refine ⟨i2, List.pairwise_singleton _ _, fun m hm x hx => ?_⟩
        rw [List.mem_singleton.mp hx]
        obtain ⟨i, hi, e⟩ := List.mem_iff_getElem.mp (i1 m hm)
        rw [List.length_take] at hi
        rw [List.getElem_take] at e
        have := lexF.mp ((List.pairwise_iff_getElem.mp hs) i j (by omega) hj (by omega))
        rw [e] at this
        by_cases z : m < L[j]
        · exact z
        · have e2 := lex_conn z this
          exact absurd (by rw [← e2]; exact below_refl m) (hno m hm)
      · rcases List.mem_append.mp hx with hx | hx
        · obtain ⟨m, hm, hb⟩ := i3 x hx
          exact ⟨m, List.mem_append.mpr (.inl hm), hb⟩
        · exact ⟨x, List.mem_append.mpr (.inr hx), below_refl x⟩
      · rcases List.mem_append.mp hm with hm | hm
        · exact i4 m hm y hy hyb
        · rw [List.mem_singleton.mp hm] at hyb ⊢
          by_cases e : y = L[j]
          · exact e
          · have lt := below_lex (by rw [hn y hy, hxl]) hyb e
            obtain ⟨i, hi, ei⟩ := List.mem_iff_getElem.mp (hp.mem_iff.mpr hy)
            rcases Nat.lt_trichotomy i j with c1 | c1 | c1
            · have hin : y ∈ L.take j := by
                rw [← ei]
                exact List.mem_iff_getElem.mpr ⟨i, by rw [List.length_take]; omega, by rw [List.getElem_take]⟩
              obtain ⟨m, hm, hb⟩ := i3 y hin
              exact absurd (below_trans hb hyb) (hno m hm)
            · subst c1; exact absurd ei.symm e
            · have := lexF.mp ((List.pairwise_iff_getElem.mp hs) j i hj hi c1)
              rw [ei] at this
              exact absurd lt this
theorem scanP_least {n : Nat} {G L : List (List Int)} (hp : L.Perm G) (hs : L.Pairwise fun x y => HT.lexLt y x = false) (hn : ∀ g ∈ G, g.length = n) : IsLeast G (L.foldl scanP []) := by
  obtain ⟨i1, i2, i3, i4, _⟩ := scanP_ok hp hs hn L.length (Nat.le_refl _)
  rw [List.take_length] at i1 i2 i3 i4
  refine ⟨i2, fun x => ⟨fun hx => ⟨hp.mem_iff.mp (i1 x hx), i4 x hx⟩, fun ⟨hx, hm⟩ => ?_⟩⟩
  obtain ⟨m, hm', hb⟩ := i3 x (hp.mem_iff.mpr hx)
  have := hm m (hp.mem_iff.mp (i1 m hm')) hb
  subst this
  exact hm'
/-- the law's way: kept if it is new and minimal -/
def scanL (G M : List (List Int)) (x : List Int) : List (List Int) := if (!decide (x ∈ M) && !(G.any fun y => !decide (y = x) && befL y x)) = true then M ++ [x] else M
theorem scanL_ok {n : Nat} {G L : List (List Int)} (hp : L.Perm G) (hs : L.Pairwise fun x y => HT.lexLt y x = false) (hn : ∀ g ∈ G, g.length = n) : ∀ j, j ≤ L.length →
    let M := (L.take j).foldl (scanL G) []
    (∀ m ∈ M, m ∈ L.take j) ∧ M.Pairwise (· < ·) ∧ (∀ x ∈ L.take j, (∀ y ∈ G, below y x → y = x) → x ∈ M) ∧ (∀ m ∈ M, ∀ y ∈ G, below y m → y = m) ∧ M.length ≤ j
  | 0, _ => ⟨fun m hm => (nomatch hm), .nil, fun x hx => (nomatch hx), fun m hm => (nomatch hm), Nat.le_refl 0⟩
  | j + 1, hj => by
    have q : L[j]? = some L[j] := List.getElem?_eq_getElem hj
    obtain ⟨i1, i2, i3, i4, i5⟩ := scanL_ok hp hs hn j (by omega)
    rw [take_q q, List.foldl_append, List.foldl_cons, List.foldl_nil]
    show let M := scanL G ((L.take j).foldl (scanL G) []) L[j]; _
    have hxG : L[j] ∈ G := hp.mem_iff.mp (List.getElem_mem hj)
    have hxl := hn _ hxG
    revert i1 i2 i3 i4 i5
    generalize (L.take j).foldl (scanL G) [] = M
    intro i1 i2 i3 i4 i5
    have hmin : (G.any fun y => !decide (y = L[j]) && befL y L[j]) = false ↔ ∀ y ∈ G, below y L[j] → y = L[j] := by
      rw [List.any_eq_false]
      constructor
      · intro h y hy hb
        have := h y hy
        rw [(befL_iff (hn y hy) hxl).mpr hb, Bool.and_true] at this
        by_cases e : y = L[j]
        · exact e
        · rw [decide_eq_false e] at this; exact absurd rfl this
      · intro h y hy hb
        rw [Bool.and_eq_true] at hb
        have := h y hy ((befL_iff (hn y hy) hxl).mp hb.2)
        rw [decide_eq_true this] at hb
        exact Bool.noConfusion hb.1
    unfold scanL
    by_cases c : (!decide (L[j] ∈ M) && !(G.any fun y => !decide (y = L[j]) && befL y L[j])) = true
    · rw [if_pos c]
      rw [Bool.and_eq_true, Bool.not_eq_true', Bool.not_eq_true'] at c
      have c1 := of_decide_eq_false c.1
      have c2 := hmin.mp c.2
      refine ⟨fun m hm => ?_, ?_, fun x hx hxm => ?_, fun m hm => ?_, by rw [List.length_append]; show M.length + 1 ≤ j + 1; omega⟩
      · rcases List.mem_append.mp hm with hm | hm
        · exact List.mem_append.mpr (.inl (i1 m hm))
        · exact List.mem_append.mpr (.inr hm)
      · rw [List.pairwise_append]
        refine ⟨i2, List.pairwise_singleton _ _, fun m hm x hx => ?_⟩
        rw [List.mem_singleton.mp hx]
        obtain ⟨i, hi, e⟩ := List.mem_iff_getElem.mp (i1 m hm)
        rw [List.length_take] at hi
        rw [List.getElem_take] at e
        have := lexF.mp ((List.pairwise_iff_getElem.mp hs) i j (by omega) hj (by omega))
        rw [e] at this
        by_cases z : m < L[j]
        · exact z
        · exact absurd (by rw [← lex_conn z this]; exact hm) c1
      · rcases List.mem_append.mp hx with hx | hx
        · exact List.mem_append.mpr (.inl (i3 x hx hxm))
        · exact List.mem_append.mpr (.inr hx)
      · rcases List.mem_append.mp hm with hm | hm
        · exact i4 m hm
        · rw [List.mem_singleton.mp hm]; exact c2
    · rw [if_neg c]
      refine ⟨fun m hm => List.mem_append.mpr (.inl (i1 m hm)), i2, fun x hx hxm => ?_, i4, by omega⟩
      rcases List.mem_append.mp hx with hx | hx
      · exact i3 x hx hxm
      · rw [List.mem_singleton.mp hx] at hxm ⊢
        by_cases e : L[j] ∈ M
        · exact e
        · exact absurd (by rw [decide_eq_false e, hmin.mpr hxm]; rfl) c
theorem scanL_least {n : Nat} {G L : List (List Int)} (hp : L.Perm G) (hs : L.Pairwise fun x y => HT.lexLt y x = false) (hn : ∀ g ∈ G, g.length = n) : IsLeast G (L.foldl (scanL G) []) := by
  obtain ⟨i1, i2, i3, i4, _⟩ := scanL_ok hp hs hn L.length (Nat.le_refl _)
  rw [List.take_length] at i1 i2 i3 i4
  exact ⟨i2, fun x => ⟨fun hx => ⟨hp.mem_iff.mp (i1 x hx), i4 x hx⟩, fun ⟨hx, hm⟩ => i3 x (hp.mem_iff.mpr hx) hm⟩⟩

/-! ### folds -/
/-- the meet of a list that is not empty -/
def glb : List (List Int) → List Int
  | [] => []
  | l :: ls => ls.foldl meetL l
def foldM (n : Nat) (M : List (List Int)) (m : List Int) : List Int := if M = [] then List.replicate n 0 else joinL m (glb M)
theorem foldl_meet_len {n : Nat} : ∀ {ls : List (List Int)} {l : List Int}, l.length = n → (∀ x ∈ ls, x.length = n) → (ls.foldl meetL l).length = n
  | [], l, h, _ => h
  | x :: ls, l, h, hs => foldl_meet_len (ls := ls) (l := meetL l x) (meetL_len h (hs x List.mem_cons_self)) fun y hy => hs y (List.mem_cons_of_mem _ hy)
theorem glb_len {n : Nat} {M : List (List Int)} (h : ∀ x ∈ M, x.length = n) (hne : M ≠ []) : (glb M).length = n := by
  cases M with
  | nil => exact absurd rfl hne
  | cons l ls => exact foldl_meet_len (h l List.mem_cons_self) fun y hy => h y (List.mem_cons_of_mem _ hy)
theorem foldl_meet_below {n : Nat} : ∀ {ls : List (List Int)} {l : List Int}, l.length = n → (∀ x ∈ ls, x.length = n) → below (ls.foldl meetL l) l ∧ ∀ x ∈ ls, below (ls.foldl meetL l) x
  | [], l, h, _ => ⟨below_refl l, fun x hx => (nomatch hx)⟩
  | x :: ls, l, h, hs => by
    have hx := hs x List.mem_cons_self
    obtain ⟨i1, i2⟩ := foldl_meet_below (ls := ls) (meetL_len h hx) fun y hy => hs y (List.mem_cons_of_mem _ hy)
    refine ⟨below_trans i1 (meet_l h hx), fun y hy => ?_⟩
    rcases List.mem_cons.mp hy with rfl | hy
    · exact below_trans i1 (meet_r h hx)
    · exact i2 y hy
theorem glb_below {n : Nat} {M : List (List Int)} (h : ∀ x ∈ M, x.length = n) {x : List Int} (hx : x ∈ M) : below (glb M) x := by
  cases M with
  | nil => cases hx
  | cons l ls =>
    obtain ⟨i1, i2⟩ := foldl_meet_below (h l List.mem_cons_self) fun y hy => h y (List.mem_cons_of_mem _ hy)
    rcases List.mem_cons.mp hx with rfl | hx
    · exact i1
    · exact i2 x hx
theorem foldl_meet_glb {n : Nat} {c : List Int} : ∀ {ls : List (List Int)} {l : List Int}, l.length = n → (∀ x ∈ ls, x.length = n) → below c l → (∀ x ∈ ls, below c x) → below c (ls.foldl meetL l)
  | [], l, _, _, h, _ => h
  | x :: ls, l, hl, hn, h, hs => foldl_meet_glb (ls := ls) (l := meetL l x) (meetL_len hl (hn x List.mem_cons_self)) (fun y hy => hn y (List.mem_cons_of_mem _ hy)) (meet_glb hl (hn x List.mem_cons_self) h (hs x List.mem_cons_self)) fun y hy => hs y (List.mem_cons_of_mem _ hy)
theorem glb_glb {n : Nat} {M : List (List Int)} {c : List Int} (h : ∀ x ∈ M, x.length = n) (hne : M ≠ []) (hc : ∀ x ∈ M, below c x) : below c (glb M) := by
  cases M with
  | nil => exact absurd rfl hne
  | cons l ls => exact foldl_meet_glb (h l List.mem_cons_self) (fun y hy => h y (List.mem_cons_of_mem _ hy)) (hc l List.mem_cons_self) fun y hy => hc y (List.mem_cons_of_mem _ hy)
theorem foldl_meet_nn {n : Nat} : ∀ {ls : List (List Int)} {l : List Int}, okM n l → (∀ x ∈ ls, okM n x) → okM n (ls.foldl meetL l)
  | [], l, h, _ => h
  | x :: ls, l, h, hs => foldl_meet_nn (ls := ls) (l := meetL l x) (meetL_ok h (hs x List.mem_cons_self)) fun y hy => hs y (List.mem_cons_of_mem _ hy)
theorem glb_ok {n : Nat} {M : List (List Int)} (h : ∀ x ∈ M, okM n x) (hne : M ≠ []) : okM n (glb M) := by
  cases M with
  | nil => exact absurd rfl hne
  | cons l ls => exact foldl_meet_nn (h l List.mem_cons_self) fun y hy => h y (List.mem_cons_of_mem _ hy)
/-- the folds' loops -/
theorem fold_loop {n : Nat} {m : List Int} (hm : m.length = n) : ∀ {ls : List (List Int)} {g : List Int}, g.length = n → (∀ x ∈ ls, x.length = n) → ls.foldl (fun r l => meetL r (joinL m l)) (joinL m g) = joinL m (ls.foldl meetL g)
  | [], g, _, _ => rfl
  | x :: ls, g, hg, hs => by
    have hx := hs x List.mem_cons_self
    rw [List.foldl_cons, List.foldl_cons, join_meet hm hg hx]
    exact fold_loop hm (meetL_len hg hx) fun y hy => hs y (List.mem_cons_of_mem _ hy)
theorem okM_zero (n : Nat) : okM n (List.replicate n 0) := ⟨List.length_replicate, fun x hx => by rw [List.eq_of_mem_replicate hx]; exact Int.le_refl 0⟩
theorem foldM_ok {n : Nat} {M : List (List Int)} {m : List Int} (hM : ∀ x ∈ M, okM n x) (hm : okM n m) : okM n (foldM n M m) := by
  unfold foldM
  split
  · exact okM_zero n
  · rename_i h
    exact joinL_ok hm (glb_ok hM h)
section
variable {n : Nat} {M : List (List Int)} (hM : ∀ x ∈ M, x.length = n) {m : List Int} (hm : m.length = n)
include hM hm
theorem foldM_idem (hz : M ≠ []) : foldM n M (foldM n M m) = foldM n M m := by
  unfold foldM
  rw [if_neg hz, if_neg hz]
  have hg := glb_len hM hz
  exact join_eq (joinL_len hm hg) hg (join_r hm hg)
theorem foldM_open {l : List Int} (hl : l ∈ M) (h : below l m) : foldM n M m = m := by
  have hz : M ≠ [] := fun e => by rw [e] at hl; cases hl
  unfold foldM
  rw [if_neg hz]
  have hg := glb_len hM hz
  exact join_eq hm hg (below_trans (glb_below hM hl) h)
theorem foldM_up (hz : M ≠ []) : below m (foldM n M m) := by
  unfold foldM
  rw [if_neg hz]
  exact join_l hm (glb_len hM hz)
theorem foldM_same {l o : List Int} (hl : l ∈ M) (h : below l o) : below (foldM n M m) o ↔ below m o := by
  have hz : M ≠ [] := fun e => by rw [e] at hl; cases hl
  have hg := glb_len hM hz
  refine ⟨fun q => below_trans (foldM_up hM hm hz) q, fun q => ?_⟩
  unfold foldM
  rw [if_neg hz]
  exact join_lub hm hg q (below_trans (glb_below hM hl) h)
/-- folding by an earlier front and then by a later one -/
theorem foldM_later {M' : List (List Int)} (hM' : ∀ x ∈ M', x.length = n) (hl : ∀ x ∈ M', ∃ l ∈ M, below l x) : foldM n M' (foldM n M m) = foldM n M' m := by
  unfold foldM
  by_cases hz' : M' = []
  · rw [if_pos hz', if_pos hz']
  · rw [if_neg hz', if_neg hz']
    have hz : M ≠ [] := fun e => by
      cases M' with
      | nil => exact hz' rfl
      | cons x M' =>
        obtain ⟨l, hl, _⟩ := hl x List.mem_cons_self
        rw [e] at hl
        cases hl
    rw [if_neg hz]
    have hg := glb_len hM hz
    have hg' := glb_len hM' hz'
    have hb : below (glb M) (glb M') := glb_glb hM' hz' fun x hx => by
      obtain ⟨l, hl, h⟩ := hl x hx
      exact below_trans (glb_below hM hl) h
    refine below_anti (joinL_len (joinL_len hm hg) hg') (joinL_len hm hg') ?_ ?_
    · exact join_lub (joinL_len hm hg) hg' (join_lub hm hg (join_l hm hg') (below_trans hb (join_r hm hg'))) (join_r hm hg')
    · exact join_lub hm hg' (below_trans (join_l hm hg) (join_l (joinL_len hm hg) hg')) (join_r (joinL_len hm hg) hg')
end
theorem foldM_idem' {n : Nat} {M : List (List Int)} (hM : ∀ x ∈ M, x.length = n) {m : List Int} (hm : m.length = n) : foldM n M (foldM n M m) = foldM n M m := by
  by_cases hz : M = []
  · unfold foldM
    rw [if_pos hz, if_pos hz]
  · exact foldM_idem hM hm hz

/-! ### evaluation -/
theorem gIn_tupI (neg : Bool) (x : List Int) (M : List (List Int)) (P : D → Prop) : gInB neg (tupI x) (.lst (M.map tupI)) P = P (.bl (neg != decide (x ∈ M))) := by
  have e : ((toPs (M.map tupI)).any fun z => PyData.eqv z (toP (tupI x))) = decide (x ∈ M) := by
    induction M with
    | nil => rfl
    | cons y M ih =>
      show (PyData.eqv (toP (tupI y)) (toP (tupI x)) || (toPs (M.map tupI)).any fun z => PyData.eqv z (toP (tupI x))) = _
      rw [ih]
      by_cases q : y = x
      · rw [(dat_tupI.eqv y x).mpr q, Bool.true_or]
        exact (decide_eq_true (List.mem_cons.mpr (.inl q.symm))).symm
      · have : PyData.eqv (toP (tupI y)) (toP (tupI x)) = false := by
          cases z : PyData.eqv (toP (tupI y)) (toP (tupI x)) with
          | false => rfl
          | true => exact absurd ((dat_tupI.eqv y x).mp z) q
        rw [this, Bool.false_or]
        refine decide_eq_decide.mpr ⟨fun h => List.mem_cons_of_mem _ h, fun h => ?_⟩
        rcases List.mem_cons.mp h with h | h
        · exact absurd h.symm q
        · exact h
  refine propext ⟨fun ⟨xs, e1, _, _, _, h⟩ => ?_, fun h => ⟨_, rfl, dat_tupI.plain x, (dat_all dat_tupI M).1, Nat.le_trans (dat_tupI.depth x) (by decide), ?_⟩⟩
  · cases e1
    rw [e] at h
    exact h
  · rw [e]
    exact h
theorem v_in_tupI {neg : Bool} {x : List Int} {M : List (List Int)} {P : D → Prop} {t : Tg P} : AP1 (gInB neg (tupI x) (.lst (M.map tupI))) P t = P (.bl (neg != decide (x ∈ M))) := propext (iff_of_eq (gIn_tupI neg x M P))
theorem v_eq_tupI {a b : List Int} {P : D → Prop} {t : Tg P} : AP1 (gEq (tupI a) (tupI b)) P t = P (.bl (decide (a = b))) := propext (iff_of_eq (gEq_tupI a b P))
theorem v_ne_tupI {a b : List Int} {P : D → Prop} {t : Tg P} : AP1 (gNe (tupI a) (tupI b)) P t = P (.bl (!decide (a = b))) := propext (iff_of_eq (gNe_tupI a b P))
theorem v_eq_tupsI {a b : List (List Int)} {P : D → Prop} {t : Tg P} : AP1 (gEq (.lst (a.map tupI)) (.lst (b.map tupI))) P t = P (.bl (decide (a = b))) := propext (iff_of_eq (gEq_tupsI a b P))
theorem v_ne_tupsI {a b : List (List Int)} {P : D → Prop} {t : Tg P} : AP1 (gNe (.lst (a.map tupI)) (.lst (b.map tupI))) P t = P (.bl (!decide (a = b))) := propext (iff_of_eq (gNe_tupsI a b P))
theorem v_eq_tupsI0 {a : List (List Int)} {P : D → Prop} {t : Tg P} : AP1 (gEq (.lst (a.map tupI)) (.lst [])) P t = P (.bl (decide (a = []))) := propext (iff_of_eq (gEq_tupsI a [] P))
theorem v_ne_tupsI0 {a : List (List Int)} {P : D → Prop} {t : Tg P} : AP1 (gNe (.lst (a.map tupI)) (.lst [])) P t = P (.bl (!decide (a = []))) := propext (iff_of_eq (gNe_tupsI a [] P))
theorem v_truD_lst {xs : List D} : truD (.lst xs) = some !xs.isEmpty := rfl
theorem v_truD_tup {xs : List D} : truD (.tup xs) = some !xs.isEmpty := rfl
def blO : D → Option Bool
  | .bl b => some b
  | _ => none
theorem v_blO {b : Bool} : blO (.bl b) = some b := rfl
theorem ex_blO (r : D) (P : Bool → Prop) : (∃ b, r = .bl b ∧ P b) = optP (blO r) P := by
  cases r with
  | bl b => exact propext ⟨fun ⟨_, e, h⟩ => by cases e; exact h, fun h => ⟨b, rfl, h⟩⟩
  | _ => exact propext ⟨fun ⟨_, e, _⟩ => (nomatch e), fun h => (show False from h).elim⟩
theorem recv_one {m cn : Str} {g : GD} {ns : List Str} {vs : List D} {k : GD → Prop} (h : m ∉ ns) : recvT m [(cn, g)] (.obj cn ns vs) k = k g :=
  propext ⟨fun ⟨_, g', e, q⟩ => by cases List.mem_singleton.mp e; exact q, fun q => ⟨h, g, List.mem_cons_self, q⟩⟩
theorem own_one {cn : Str} {g : GD} {ns : List Str} {vs : List D} {k : GD → Prop} : ownT [(cn, g)] (.obj cn ns vs) k = k g :=
  propext ⟨fun ⟨g', e, q⟩ => by cases List.mem_singleton.mp e; exact q, fun q => ⟨g, List.mem_cons_self, q⟩⟩
theorem in_one {neg : Bool} {cn : Str} {g : GD} {ns : List Str} {vs : List D} {x : D} {P : D → Prop} : gInO neg [(cn, g)] x (.obj cn ns vs) P = g [.obj cn ns vs, x] fun r => optP (blO r) fun c => P (.bl (neg != c)) := by
  unfold gInO
  rw [own_one]
  exact congrArg _ (funext fun r => ex_blO r _)
theorem zeros_flat (n : Nat) : (List.replicate (n : Int).toNat [D.int 0]).flatten = (List.replicate n (0 : Int)).map D.int := by
  rw [Int.toNat_natCast, List.flatten_replicate_singleton, List.map_replicate]
theorem cutL_tail {α : Type} (x : α) (xs : List α) : cutL (x :: xs) (some 1) none = xs := by
  have e : HT.sIx (x :: xs).length 0 (some 1) = min 1 (x :: xs).length := HT.sIx_nat _ 0 1
  unfold cutL
  rw [HT.sIx_none, e, List.length_cons, Nat.min_eq_left (by omega)]
  show xs.take (xs.length + 1 - 1) = xs
  rw [Nat.add_sub_cancel]
  exact List.take_length
end DL

/-! DLP: grids, partings, the least of a list. -/
namespace DL
open PySem L2

/-! ### the least of tuples -/
open PySem.W PyProof.Rows in
theorem toks_ints : ∀ a b : List Int, PyProof.Rows.lexLt itemOrd (keyToksAll (a.map PyData.int)) (keyToksAll (b.map PyData.int)) = HT.lexLt a b
  | [], [] => rfl
  | [], _ :: _ => rfl
  | _ :: _, [] => rfl
  | x :: a, y :: b => by
    have ih := toks_ints a b
    rw [HT.lexLt_cons, List.map_cons, List.map_cons, toks_all_cons, toks_all_cons, lex_self]
    show PyProof.Rows.lexLt itemOrd (Sum.inl x :: keyToksAll (a.map PyData.int)) (Sum.inl y :: keyToksAll (b.map PyData.int)) = _
    by_cases h : x = y
    · subst h
      rw [lex_self, ih]
      simp
    · rw [lex_diff (by simpa using h)]
      rw [if_neg h]
      rfl
theorem toP_tupI (a : List Int) : toP (tupI a) = .tuple (a.map PyData.int) := by
  rw [← toPs_ints]
  rfl
theorem lt_tupI (a b : List Int) : PySem.W.dataLt (toP (tupI a)) (toP (tupI b)) = HT.lexLt a b := by
  rw [toP_tupI, toP_tupI, PySem.W.dataLt_tuple]
  exact toks_ints a b
theorem tupI_inj {a b : List Int} (h : toP (tupI a) = toP (tupI b)) : a = b := by
  have e := (dat_tupI.eqv b b).mpr rfl
  rw [← h] at e
  exact (dat_tupI.eqv a b).mp (by rw [h] at e; rw [h]; exact e)
theorem alike_ints : ∀ a b : List Int, PySem.W.alikeAll (a.map PyData.int) (b.map PyData.int) = true
  | [], _ => by rw [List.map_nil]; cases (List.map PyData.int _) <;> rfl
  | _ :: _, [] => rfl
  | x :: a, y :: b => by
    show (PySem.W.alike (.int x) (.int y) && PySem.W.alikeAll (a.map PyData.int) (b.map PyData.int)) = true
    rw [alike_ints a b]
    rfl
theorem alike_tups (L : List (List Int)) : PySem.W.AlikeAll ((L.map tupI).map toP) := by
  refine ⟨fun x hx y hy => ?_, fun x hx => ?_⟩
  · obtain ⟨x', hx', rfl⟩ := List.mem_map.mp hx
    obtain ⟨a, _, rfl⟩ := List.mem_map.mp hx'
    obtain ⟨y', hy', rfl⟩ := List.mem_map.mp hy
    obtain ⟨b, _, rfl⟩ := List.mem_map.mp hy'
    rw [toP_tupI, toP_tupI]
    exact alike_ints a b
  · obtain ⟨x', hx', rfl⟩ := List.mem_map.mp hx
    obtain ⟨a, _, rfl⟩ := List.mem_map.mp hx'
    rw [toP_tupI]
    exact fun h => PyData.noConfusion h
def minI (l : List Int) (ls : List (List Int)) : List Int := ls.foldl (fun a y => if HT.lexLt y a = true then y else a) l
theorem minI_cons (l y : List Int) (ls : List (List Int)) : minI l (y :: ls) = minI (if HT.lexLt y l = true then y else l) ls := rfl
theorem minI_ok : ∀ (ls : List (List Int)) (l : List Int), minI l ls ∈ l :: ls ∧ ∀ x ∈ l :: ls, ¬ x < minI l ls
  | [], l => ⟨List.mem_cons_self, fun x hx => by rw [List.mem_singleton.mp hx]; exact lex_irr l⟩
  | y :: ls, l => by
    rw [minI_cons]
    by_cases h : HT.lexLt y l = true
    · rw [if_pos h]
      obtain ⟨i1, i2⟩ := minI_ok ls y
      refine ⟨List.mem_cons_of_mem _ i1, fun x hx => ?_⟩
      rcases List.mem_cons.mp hx with rfl | hx
      · exact fun z => i2 y List.mem_cons_self (lex_trans (lexT.mp h) z)
      · exact i2 x hx
    · rw [if_neg h]
      obtain ⟨i1, i2⟩ := minI_ok ls l
      refine ⟨?_, fun x hx => ?_⟩
      · rcases List.mem_cons.mp i1 with e | e
        · rw [e]; exact List.mem_cons_self
        · exact List.mem_cons_of_mem _ (List.mem_cons_of_mem _ e)
      · rcases List.mem_cons.mp hx with rfl | hx
        · exact i2 x List.mem_cons_self
        · rcases List.mem_cons.mp hx with rfl | hx
          · intro z
            by_cases h2 : l < x
            · exact i2 l List.mem_cons_self (lex_trans h2 z)
            · have := lex_conn (fun q => h (lexT.mpr q)) h2
              subst this
              exact i2 x List.mem_cons_self z
          · exact i2 x (List.mem_cons_of_mem _ hx)
theorem minD_tups : ∀ (ls : List (List Int)) (l : List Int), PySem.W.minD (toP (tupI l)) ((ls.map tupI).map toP) = toP (tupI (minI l ls))
  | [], _ => rfl
  | y :: ls, l => by
    have ih := minD_tups ls
    show PySem.W.minD (if PySem.W.dataLt (toP (tupI y)) (toP (tupI l)) = true then toP (tupI y) else toP (tupI l)) ((ls.map tupI).map toP) = _
    rw [lt_tupI, minI_cons]
    split
    · exact ih y
    · exact ih l
/-- min(L, default=e) -/
theorem min_tups (L : List (List Int)) (e : D) (P : D → Prop) (h0 : L = [] → P e) (h1 : ∀ m ∈ L, (∀ x ∈ L, ¬ x < m) → P (tupI m)) : gMinDef [.lst (L.map tupI)] [e] P := by
  refine ⟨L.map tupI, e, .inl rfl, rfl, fun x hx => ?_, alike_tups L, fun h => h0 (List.map_eq_nil_iff.mp h), fun y ys ey x hx ex => ?_⟩
  · obtain ⟨a, _, rfl⟩ := List.mem_map.mp hx
    exact ⟨dat_tupI.plain a, Nat.le_trans (dat_tupI.depth a) (by decide)⟩
  · obtain ⟨m, hm, rfl⟩ := List.mem_map.mp hx
    cases L with
    | nil => cases hm
    | cons l ls =>
      rw [List.map_cons, List.map_cons] at ey
      cases ey
      rw [minD_tups] at ex
      have := tupI_inj ex
      subst this
      obtain ⟨i1, i2⟩ := minI_ok ls l
      exact h1 _ i1 i2
theorem v_leT {a b : List Int} {P : D → Prop} {t : Tg P} : AP1 (gLeT (tupI a) (tupI b)) P t = P (.bl (!HT.lexLt b a)) := by
  show intsD (a.map D.int) (fun is => intsD (b.map D.int) fun js => P (.bl (!HT.lexLt js is))) = _
  rw [intsD_eq, intsD_eq]

/-! ### the way by which two moments part -/
def sep (a b x : List Int) : Bool := befL a x != befL b x
def foundOf (a b l : List Int) : List (List Int) := (if befL b (joinL a l) = true then [] else [joinL a l]) ++ (if befL a (joinL b l) = true then [] else [joinL b l])
def foundL (M : List (List Int)) (a b : List Int) : List (List Int) := M.flatMap (foundOf a b)
def partOf (l : List Int) (p : List Int × List Int) : List (List Int) := if befL p.2 (joinL p.1 l) = true then [] else [joinL p.1 l]
theorem partOf_two (a b l : List Int) : [(a, b), (b, a)].flatMap (partOf l) = foundOf a b l := by
  rw [List.flatMap_cons, List.flatMap_cons, List.flatMap_nil, List.append_nil]
  rfl
theorem foundL_take {M : List (List Int)} {a b l : List Int} {j : Nat} (q : M[j]? = some l) : foundL (M.take (j + 1)) a b = foundL (M.take j) a b ++ foundOf a b l := by
  unfold foundL
  rw [take_q q, List.flatMap_append, List.flatMap_singleton]
theorem partOf_len (l : List Int) (p : List Int × List Int) : (partOf l p).length ≤ 1 := by
  unfold partOf
  split
  · exact Nat.zero_le _
  · exact Nat.le_refl _
theorem flat_len {α β : Type} (f : α → List β) (c : Nat) (h : ∀ x, (f x).length ≤ c) : ∀ xs : List α, (xs.flatMap f).length ≤ xs.length * c
  | [] => by rw [List.flatMap_nil]; exact Nat.zero_le _
  | x :: xs => by
    have := flat_len f c h xs
    have := h x
    rw [List.flatMap_cons, List.length_append, List.length_cons, Nat.succ_mul]
    omega
theorem foundOf_len (a b l : List Int) : (foundOf a b l).length ≤ 2 := by
  rw [← partOf_two]
  exact flat_len _ 1 (partOf_len l) _
section
variable {n : Nat} {M : List (List Int)} {a b : List Int} (hM : ∀ x ∈ M, x.length = n) (ha : a.length = n) (hb : b.length = n)
include ha hb
theorem mem_foundOf {l x : List Int} (hl : l.length = n) : x ∈ foundOf a b l ↔ (x = joinL a l ∧ ¬ below b x) ∨ (x = joinL b l ∧ ¬ below a x) := by
  have e1 := befL_iff hb (joinL_len ha hl)
  have e2 := befL_iff ha (joinL_len hb hl)
  unfold foundOf
  rw [List.mem_append]
  constructor
  · rintro (h | h)
    · split at h
      · cases h
      · rename_i q
        rw [List.mem_singleton] at h
        subst h
        exact .inl ⟨rfl, fun z => q (e1.mpr z)⟩
    · split at h
      · cases h
      · rename_i q
        rw [List.mem_singleton] at h
        subst h
        exact .inr ⟨rfl, fun z => q (e2.mpr z)⟩
  · rintro (⟨rfl, q⟩ | ⟨rfl, q⟩)
    · exact .inl (by rw [if_neg fun z => q (e1.mp z)]; exact List.mem_singleton.mpr rfl)
    · exact .inr (by rw [if_neg fun z => q (e2.mp z)]; exact List.mem_singleton.mpr rfl)
include hM
theorem mem_foundL {x : List Int} : x ∈ foundL M a b ↔ ∃ l ∈ M, (x = joinL a l ∧ ¬ below b x) ∨ (x = joinL b l ∧ ¬ below a x) := by
  unfold foundL
  rw [List.mem_flatMap]
  exact ⟨fun ⟨l, hl, h⟩ => ⟨l, hl, (mem_foundOf ha hb (hM l hl)).mp h⟩, fun ⟨l, hl, h⟩ => ⟨l, hl, (mem_foundOf ha hb (hM l hl)).mpr h⟩⟩
theorem found_len {x : List Int} (h : x ∈ foundL M a b) : x.length = n := by
  obtain ⟨l, hl, ⟨rfl, _⟩ | ⟨rfl, _⟩⟩ := (mem_foundL hM ha hb).mp h
  · exact joinL_len ha (hM l hl)
  · exact joinL_len hb (hM l hl)
theorem found_opn {x : List Int} (h : x ∈ foundL M a b) : opn M x = true := by
  rw [opn_iff hM (found_len hM ha hb h)]
  obtain ⟨l, hl, ⟨rfl, _⟩ | ⟨rfl, _⟩⟩ := (mem_foundL hM ha hb).mp h
  · exact ⟨l, hl, join_r ha (hM l hl)⟩
  · exact ⟨l, hl, join_r hb (hM l hl)⟩
theorem sep_iff {x : List Int} (hx : x.length = n) : sep a b x = true ↔ (below a x ∧ ¬ below b x) ∨ (below b x ∧ ¬ below a x) := by
  have e1 := befL_iff ha hx
  have e2 := befL_iff hb hx
  unfold sep
  cases p : befL a x <;> cases q : befL b x <;> simp_all
theorem found_sep {x : List Int} (h : x ∈ foundL M a b) : sep a b x = true := by
  rw [sep_iff hM ha hb (found_len hM ha hb h)]
  obtain ⟨l, hl, ⟨rfl, q⟩ | ⟨rfl, q⟩⟩ := (mem_foundL hM ha hb).mp h
  · exact .inl ⟨join_l ha (hM l hl), q⟩
  · exact .inr ⟨join_l hb (hM l hl), q⟩
theorem found_of {x : List Int} (hx : x.length = n) (ho : opn M x = true) (hs : sep a b x = true) : ∃ y ∈ foundL M a b, below y x := by
  obtain ⟨l, hl, hlx⟩ := (opn_iff hM hx).mp ho
  rcases (sep_iff hM ha hb hx).mp hs with ⟨p, q⟩ | ⟨p, q⟩
  · have hj := join_lub ha (hM l hl) p hlx
    exact ⟨joinL a l, (mem_foundL hM ha hb).mpr ⟨l, hl, .inl ⟨rfl, fun z => q (below_trans z hj)⟩⟩, hj⟩
  · have hj := join_lub hb (hM l hl) p hlx
    exact ⟨joinL b l, (mem_foundL hM ha hb).mpr ⟨l, hl, .inr ⟨rfl, fun z => q (below_trans z hj)⟩⟩, hj⟩
end
theorem below_join_glb {n : Nat} {M : List (List Int)} {a c : List Int} (hM : ∀ x ∈ M, x.length = n) (ha : a.length = n) (hz : M ≠ []) (h : ∀ l ∈ M, below c (joinL a l)) : below c (joinL a (glb M)) := by
  cases M with
  | nil => exact absurd rfl hz
  | cons g ls =>
    have hg := hM g List.mem_cons_self
    have hls : ∀ x ∈ ls, x.length = n := fun x hx => hM x (List.mem_cons_of_mem _ hx)
    show below c (joinL a (ls.foldl meetL g))
    rw [← fold_loop ha hg hls]
    have e : ls.foldl (fun r l => meetL r (joinL a l)) (joinL a g) = (ls.map (joinL a)).foldl meetL (joinL a g) := by rw [List.foldl_map]
    rw [e]
    refine foldl_meet_glb (joinL_len ha hg) (fun x hx => ?_) (h g List.mem_cons_self) fun x hx => ?_
    · obtain ⟨l, hl, rfl⟩ := List.mem_map.mp hx
      exact joinL_len ha (hls l hl)
    · obtain ⟨l, hl, rfl⟩ := List.mem_map.mp hx
      exact h l (List.mem_cons_of_mem _ hl)
section
variable {n : Nat} {M : List (List Int)} {a b : List Int} (hM : ∀ x ∈ M, x.length = n) (ha : a.length = n) (hb : b.length = n)
include hM ha hb
/-- the folds are equal exactly if nothing parts the two -/
theorem fold_eq_iff : foldM n M a = foldM n M b ↔ foundL M a b = [] := by
  by_cases hz : M = []
  · subst hz
    unfold foldM foundL
    rw [if_pos rfl, if_pos rfl]
    exact ⟨fun _ => rfl, fun _ => rfl⟩
  · have hg := glb_len hM hz
    have e : ∀ m, foldM n M m = joinL m (glb M) := fun m => by unfold foldM; rw [if_neg hz]
    rw [e, e]
    constructor
    · intro h
      cases z : foundL M a b with
      | nil => rfl
      | cons x xs =>
        exfalso
        have hx : x ∈ foundL M a b := by rw [z]; exact List.mem_cons_self
        obtain ⟨l, hl, ⟨rfl, q⟩ | ⟨rfl, q⟩⟩ := (mem_foundL hM ha hb).mp hx
        · refine q (below_trans (join_l hb hg) ?_)
          rw [← h]
          exact join_lub ha hg (join_l ha (hM l hl)) (below_trans (glb_below hM hl) (join_r ha (hM l hl)))
        · refine q (below_trans (join_l ha hg) ?_)
          rw [h]
          exact join_lub hb hg (join_l hb (hM l hl)) (below_trans (glb_below hM hl) (join_r hb (hM l hl)))
    · intro h
      have no : ∀ x, x ∉ foundL M a b := fun x hx => by rw [h] at hx; cases hx
      have h1 : below b (joinL a (glb M)) := below_join_glb hM ha hz fun l hl => by
        by_cases q : below b (joinL a l)
        · exact q
        · exact absurd ((mem_foundL hM ha hb).mpr ⟨l, hl, .inl ⟨rfl, q⟩⟩) (no _)
      have h2 : below a (joinL b (glb M)) := below_join_glb hM hb hz fun l hl => by
        by_cases q : below a (joinL b l)
        · exact q
        · exact absurd ((mem_foundL hM ha hb).mpr ⟨l, hl, .inr ⟨rfl, q⟩⟩) (no _)
      exact below_anti (joinL_len ha hg) (joinL_len hb hg) (join_lub ha hg h2 (join_r hb hg)) (join_lub hb hg h1 (join_r ha hg))
theorem found_swap {x : List Int} : x ∈ foundL M a b ↔ x ∈ foundL M b a := by
  rw [mem_foundL hM ha hb, mem_foundL hM hb ha]
  exact ⟨fun ⟨l, hl, h⟩ => ⟨l, hl, h.symm⟩, fun ⟨l, hl, h⟩ => ⟨l, hl, h.symm⟩⟩
end
/-- the first of an ascending list that is closed under joins -/
theorem first_found {n : Nat} {G M : List (List Int)} {a b : List Int} (hG : G.Pairwise (· < ·)) (hGn : ∀ x ∈ G, x.length = n) (hJ : ∀ x ∈ G, ∀ y ∈ G, joinL x y ∈ G) (hM : ∀ x ∈ M, x ∈ G) (ha : a ∈ G) (hb : b ∈ G) :
    (foundL M a b = [] → (G.filter (opn M)).find? (sep a b) = none) ∧ ∀ m ∈ foundL M a b, (∀ x ∈ foundL M a b, ¬ x < m) → (G.filter (opn M)).find? (sep a b) = some m := by
  have hMn : ∀ x ∈ M, x.length = n := fun x hx => hGn x (hM x hx)
  have han := hGn a ha
  have hbn := hGn b hb
  refine ⟨fun h => ?_, fun m hm hl => ?_⟩
  · rw [List.find?_eq_none]
    intro x hx hs
    obtain ⟨hxG, hxo⟩ := List.mem_filter.mp hx
    obtain ⟨y, hy, _⟩ := found_of hMn han hbn (hGn x hxG) hxo hs
    rw [h] at hy
    cases hy
  · have hmG : m ∈ G := by
      obtain ⟨l, hll, ⟨rfl, _⟩ | ⟨rfl, _⟩⟩ := (mem_foundL hMn han hbn).mp hm
      · exact hJ a ha l (hM l hll)
      · exact hJ b hb l (hM l hll)
    have hmF : m ∈ G.filter (opn M) := List.mem_filter.mpr ⟨hmG, found_opn hMn han hbn hm⟩
    have hms := found_sep hMn han hbn hm
    have hF : (G.filter (opn M)).Pairwise (· < ·) := hG.sublist List.filter_sublist
    cases z : (G.filter (opn M)).find? (sep a b) with
    | none => exact absurd hms ((List.find?_eq_none.mp z) m hmF)
    | some x =>
      obtain ⟨hxs, as, bs, e, has⟩ := List.find?_eq_some_iff_append.mp z
      have hxF : x ∈ G.filter (opn M) := List.mem_of_find?_eq_some z
      obtain ⟨hxG, hxo⟩ := List.mem_filter.mp hxF
      rw [e] at hmF hF
      rcases List.mem_append.mp hmF with hm2 | hm2
      · have := has m hm2
        rw [hms] at this
        cases this
      · rcases List.mem_cons.mp hm2 with rfl | hm2
        · rfl
        · exfalso
          have lt : x < m := (List.pairwise_cons.mp (List.pairwise_append.mp hF).2.1).1 m hm2
          obtain ⟨y, hy, hyx⟩ := found_of hMn han hbn (hGn x hxG) hxo hxs
          refine hl y hy ?_
          by_cases q : y = x
          · rw [q]; exact lt
          · exact lex_trans (below_lex (by rw [found_len hMn han hbn hy, hGn x hxG]) hyx q) lt

/-! ### one axis more -/
theorem lex_snoc {a b : List Int} (x y : Int) (hl : a.length = b.length) (h : a < b) : a ++ [x] < b ++ [y] := by
  induction a generalizing b with
  | nil => cases b with
    | nil => exact absurd h (lex_irr [])
    | cons _ _ => cases hl
  | cons u a ih => cases b with
    | nil => cases hl
    | cons v b =>
      rw [List.cons_lt_cons_iff] at h
      rw [List.cons_append, List.cons_append, List.cons_lt_cons_iff]
      rcases h with h | ⟨e, h⟩
      · exact .inl h
      · exact .inr ⟨e, ih (Nat.succ.inj hl) h⟩
theorem lex_last (a : List Int) {x y : Int} (h : x < y) : a ++ [x] < a ++ [y] := by
  induction a with
  | nil => rw [List.nil_append, List.nil_append, List.cons_lt_cons_iff]; exact .inl h
  | cons u a ih => rw [List.cons_append, List.cons_append, List.cons_lt_cons_iff]; exact .inr ⟨rfl, ih⟩
structure GridOk (j : Nat) (G : List (List Int)) : Prop where
  ok : ∀ p ∈ G, okM j p
  asc : G.Pairwise (· < ·)
  join : ∀ p ∈ G, ∀ q ∈ G, joinL p q ∈ G
def longer (G : List (List Int)) (L : List Int) : List (List Int) := G.flatMap fun g => L.map fun l => g ++ [l]
theorem mem_longer {G : List (List Int)} {L : List Int} {p : List Int} : p ∈ longer G L ↔ ∃ g ∈ G, ∃ l ∈ L, p = g ++ [l] := by
  unfold longer
  rw [List.mem_flatMap]
  exact ⟨fun ⟨g, hg, h⟩ => let ⟨l, hl, e⟩ := List.mem_map.mp h; ⟨g, hg, l, hl, e.symm⟩, fun ⟨g, hg, l, hl, e⟩ => ⟨g, hg, List.mem_map.mpr ⟨l, hl, e.symm⟩⟩⟩
theorem join_snoc {n : Nat} {a b : List Int} (x y : Int) (ha : a.length = n) (hb : b.length = n) : joinL (a ++ [x]) (b ++ [y]) = joinL a b ++ [imax x y] := by
  unfold joinL
  rw [List.zipWith_append (by rw [ha, hb])]
  rfl
theorem GridOk.longer {j : Nat} {G : List (List Int)} {L : List Int} (h : GridOk j G) (hL : NN L) (hs : L.Pairwise (· < ·)) : GridOk (j + 1) (longer G L) where
  ok := fun p hp => by
    obtain ⟨g, hg, l, hl, rfl⟩ := mem_longer.mp hp
    obtain ⟨g1, g2⟩ := h.ok g hg
    refine ⟨by rw [List.length_append, List.length_singleton, g1], fun u hu => ?_⟩
    rcases List.mem_append.mp hu with hu | hu
    · exact g2 u hu
    · rw [List.mem_singleton.mp hu]; exact hL l hl
  asc := by
    unfold DL.longer
    rw [List.pairwise_flatMap]
    refine ⟨fun g hg => List.pairwise_map.mpr (hs.imp fun {x y} hxy => lex_last g hxy), ?_⟩
    refine List.Pairwise.imp_of_mem (R := (· < ·)) (fun {a b} ha hb hab => ?_) h.asc
    intro x hx y hy
    obtain ⟨l, _, rfl⟩ := List.mem_map.mp hx
    obtain ⟨l', _, rfl⟩ := List.mem_map.mp hy
    exact lex_snoc l l' (by rw [(h.ok a ha).1, (h.ok b hb).1]) hab
  join := fun p hp q hq => by
    obtain ⟨g, hg, l, hl, rfl⟩ := mem_longer.mp hp
    obtain ⟨g', hg', l', hl', rfl⟩ := mem_longer.mp hq
    rw [join_snoc l l' (h.ok g hg).1 (h.ok g' hg').1]
    refine mem_longer.mpr ⟨_, h.join g hg g' hg', imax l l', ?_, rfl⟩
    rcases imax_cases l l' with ⟨e, _⟩ | ⟨e, _⟩ <;> rw [e] <;> assumption
theorem gridOk_zero : GridOk 0 [[]] := ⟨fun p hp => by
  rw [List.mem_singleton.mp hp]
  exact ⟨rfl, fun x hx => (nomatch hx)⟩, List.pairwise_singleton _ _, fun p hp q hq => by
  rw [List.mem_singleton.mp hp, List.mem_singleton.mp hq]
  exact List.mem_singleton.mpr rfl⟩
theorem longer_take {G : List (List Int)} {L : List Int} {i : Nat} {g : List Int} (q : G[i]? = some g) : longer (G.take (i + 1)) L = longer (G.take i) L ++ L.map fun l => g ++ [l] := by
  unfold longer
  rw [take_q q, List.flatMap_append, List.flatMap_singleton]
theorem longer_len (G : List (List Int)) (L : List Int) : (longer G L).length = G.length * L.length := by
  unfold longer
  induction G with
  | nil => rw [List.flatMap_nil, List.length_nil, Nat.zero_mul]
  | cons g G ih => rw [List.flatMap_cons, List.length_append, List.length_map, ih, List.length_cons, Nat.succ_mul, Nat.add_comm]
theorem v_eq_bls {a b : List Bool} {P : D → Prop} {t : Tg P} : AP1 (gEq (.lst (a.map D.bl)) (.lst (b.map D.bl))) P t = P (.bl (decide (a = b))) := propext (iff_of_eq (gEq_dat (dat_lst dat_bl) (by decide) a b P))
theorem v_ne_bls {a b : List Bool} {P : D → Prop} {t : Tg P} : AP1 (gNe (.lst (a.map D.bl)) (.lst (b.map D.bl))) P t = P (.bl (!decide (a = b))) := propext (iff_of_eq (gNe_dat (dat_lst dat_bl) (by decide) a b P))
theorem v_eq_bls0 {a : List Bool} {P : D → Prop} {t : Tg P} : AP1 (gEq (.lst (a.map D.bl)) (.lst [])) P t = P (.bl (decide (a = []))) := propext (iff_of_eq (gEq_dat (dat_lst dat_bl) (by decide) a [] P))
theorem v_eq_nil {P : D → Prop} {t : Tg P} : AP1 (gEq (.lst []) (.lst [])) P t = P (.bl true) := propext (iff_of_eq (gEq_tupsI [] [] P))
theorem v_eq_oneT {m : List Int} {P : D → Prop} {t : Tg P} : AP1 (gEq (.lst [tupI m]) (.lst [])) P t = P (.bl false) := propext (iff_of_eq (gEq_tupsI [m] [] P))
theorem nodup_len {α : Type} [DecidableEq α] : ∀ (M G : List α), M.Nodup → (∀ x ∈ M, x ∈ G) → M.length ≤ G.length
  | [], _, _, _ => Nat.zero_le _
  | x :: M, G, hn, hs => by
    have hx := hs x List.mem_cons_self
    have hn' := List.nodup_cons.mp hn
    have ih := nodup_len M (G.erase x) hn'.2 fun y hy => (List.mem_erase_of_ne (fun (e : y = x) => hn'.1 (by rw [← e]; exact hy))).mpr (hs y (List.mem_cons_of_mem _ hy))
    rw [List.length_erase_of_mem hx] at ih
    have := List.length_pos_of_mem hx
    rw [List.length_cons]
    omega
theorem IsLeast.len {G M : List (List Int)} (h : IsLeast G M) : M.length ≤ G.length := nodup_len M G (strict_nodup h.1) h.sub

/-! ### fronts put together -/
def joinsOf (M M' : List (List Int)) : List (List Int) := M.flatMap fun a => M'.map (joinL a)
theorem mem_joinsOf {M M' : List (List Int)} {x : List Int} : x ∈ joinsOf M M' ↔ ∃ a ∈ M, ∃ b ∈ M', x = joinL a b := by
  unfold joinsOf
  rw [List.mem_flatMap]
  exact ⟨fun ⟨a, ha, h⟩ => let ⟨b, hb, e⟩ := List.mem_map.mp h; ⟨a, ha, b, hb, e.symm⟩, fun ⟨a, ha, b, hb, e⟩ => ⟨a, ha, List.mem_map.mpr ⟨b, hb, e.symm⟩⟩⟩
theorem joinsOf_ok {n : Nat} {M M' : List (List Int)} (h : ∀ x ∈ M, okM n x) (h' : ∀ x ∈ M', okM n x) : ∀ x ∈ joinsOf M M', okM n x := fun x hx => by
  obtain ⟨a, ha, b, hb, rfl⟩ := mem_joinsOf.mp hx
  exact joinL_ok (h a ha) (h' b hb)
theorem joinsOf_len (M M' : List (List Int)) : (joinsOf M M').length = M.length * M'.length := by
  unfold joinsOf
  induction M with
  | nil => rw [List.flatMap_nil, List.length_nil, Nat.zero_mul]
  | cons g G ih => rw [List.flatMap_cons, List.length_append, List.length_map, ih, List.length_cons, Nat.succ_mul, Nat.add_comm]
theorem joinsOf_take {M M' : List (List Int)} {a : List Int} {j : Nat} (q : M[j]? = some a) : joinsOf (M.take (j + 1)) M' = joinsOf (M.take j) M' ++ M'.map (joinL a) := by
  unfold joinsOf
  rw [take_q q, List.flatMap_append, List.flatMap_singleton]
theorem joinsOf_nil (M : List (List Int)) : joinsOf M [] = [] := by
  unfold joinsOf
  induction M with
  | nil => rfl
  | cons g G ih => rw [List.flatMap_cons, ih]; rfl
theorem glb_least {n : Nat} {G M : List (List Int)} (h : IsLeast G M) (hG : ∀ x ∈ G, x.length = n) (hz : G ≠ []) : glb M = glb G := by
  have hM : ∀ x ∈ M, x.length = n := fun x hx => hG x (h.sub x hx)
  have hMz := h.ne hG hz
  refine below_anti (glb_len hM hMz) (glb_len hG hz) (glb_glb hG hz fun g hg => ?_) (glb_glb hM hMz fun m hm => glb_below hG (h.sub m hm))
  obtain ⟨m, hm, hb⟩ := h.has hG hg
  exact below_trans (glb_below hM hm) hb
theorem join_comm {n : Nat} {a b : List Int} (ha : a.length = n) (hb : b.length = n) : joinL a b = joinL b a :=
  below_anti (joinL_len ha hb) (joinL_len hb ha) (join_lub ha hb (join_r hb ha) (join_l hb ha)) (join_lub hb ha (join_r ha hb) (join_l ha hb))
theorem foldM_ne {n : Nat} {M : List (List Int)} {m : List Int} (h : M ≠ []) : foldM n M m = joinL m (glb M) := by
  unfold foldM
  rw [if_neg h]
theorem foldM_nil {n : Nat} {m : List Int} : foldM n [] m = List.replicate n 0 := by
  unfold foldM
  rw [if_pos rfl]
section
variable {n : Nat} {A B M : List (List Int)} (hA : ∀ x ∈ A, x.length = n) (hB : ∀ x ∈ B, x.length = n)
include hA hB
theorem glb_joins (za : A ≠ []) (zb : B ≠ []) : glb (joinsOf A B) = joinL (glb A) (glb B) := by
  have ga := glb_len hA za
  have gb := glb_len hB zb
  have hJ : ∀ x ∈ joinsOf A B, x.length = n := fun x hx => by
    obtain ⟨a, ha, b, hb, rfl⟩ := mem_joinsOf.mp hx
    exact joinL_len (hA a ha) (hB b hb)
  have zj : joinsOf A B ≠ [] := by
    cases A with
    | nil => exact absurd rfl za
    | cons a A => cases B with
      | nil => exact absurd rfl zb
      | cons b B =>
        intro e
        have : joinL a b ∈ joinsOf (a :: A) (b :: B) := mem_joinsOf.mpr ⟨a, List.mem_cons_self, b, List.mem_cons_self, rfl⟩
        rw [e] at this
        cases this
  refine below_anti (glb_len hJ zj) (joinL_len ga gb) ?_ (glb_glb hJ zj fun x hx => ?_)
  · rw [join_comm ga gb]
    refine below_join_glb hA gb za fun a ha => ?_
    rw [join_comm gb (hA a ha)]
    exact below_join_glb hB (hA a ha) zb fun b hb => glb_below hJ (mem_joinsOf.mpr ⟨a, ha, b, hb, rfl⟩)
  · obtain ⟨a, ha, b, hb, rfl⟩ := mem_joinsOf.mp hx
    exact join_lub ga gb (below_trans (glb_below hA ha) (join_l (hA a ha) (hB b hb))) (below_trans (glb_below hB hb) (join_r (hA a ha) (hB b hb)))
theorem glb_append (za : A ≠ []) (zb : B ≠ []) : glb (A ++ B) = meetL (glb A) (glb B) := by
  have ga := glb_len hA za
  have gb := glb_len hB zb
  have hJ : ∀ x ∈ A ++ B, x.length = n := fun x hx => (List.mem_append.mp hx).elim (hA x) (hB x)
  have zj : A ++ B ≠ [] := fun e => za (List.append_eq_nil_iff.mp e).1
  refine below_anti (glb_len hJ zj) (meetL_len ga gb) (meet_glb ga gb (glb_glb hA za fun x hx => glb_below hJ (List.mem_append.mpr (.inl hx))) (glb_glb hB zb fun x hx => glb_below hJ (List.mem_append.mpr (.inr hx)))) (glb_glb hJ zj fun x hx => ?_)
  rcases List.mem_append.mp hx with hx | hx
  · exact below_trans (meet_l ga gb) (glb_below hA hx)
  · exact below_trans (meet_r ga gb) (glb_below hB hx)
theorem fold_joins (h : IsLeast (joinsOf A B) M) (za : A ≠ []) (zb : B ≠ []) {m : List Int} (hm : m.length = n) : foldM n M m = joinL (foldM n A m) (foldM n B m) := by
  have ga := glb_len hA za
  have gb := glb_len hB zb
  have hJ : ∀ x ∈ joinsOf A B, x.length = n := fun x hx => by
    obtain ⟨a, ha, b, hb, rfl⟩ := mem_joinsOf.mp hx
    exact joinL_len (hA a ha) (hB b hb)
  have zj : joinsOf A B ≠ [] := fun e => by
    have := glb_joins hA hB za zb
    rw [e] at this
    have l1 := joinL_len ga gb
    rw [← this] at l1
    cases A with
    | nil => exact za rfl
    | cons a A => cases B with
      | nil => exact zb rfl
      | cons b B =>
        have : joinL a b ∈ joinsOf (a :: A) (b :: B) := mem_joinsOf.mpr ⟨a, List.mem_cons_self, b, List.mem_cons_self, rfl⟩
        rw [e] at this
        cases this
  have zm := h.ne hJ zj
  rw [foldM_ne za, foldM_ne zb, foldM_ne zm, glb_least h hJ zj, glb_joins hA hB za zb]
  have la := joinL_len hm ga
  have lb := joinL_len hm gb
  have lab := joinL_len ga gb
  exact below_anti (joinL_len hm lab) (joinL_len la lb) (join_lub hm lab (below_trans (join_l hm ga) (join_l la lb)) (join_lub ga gb (below_trans (join_r hm ga) (join_l la lb)) (below_trans (join_r hm gb) (join_r la lb))))
    (join_lub la lb (join_lub hm ga (join_l hm lab) (below_trans (join_l ga gb) (join_r hm lab))) (join_lub hm gb (join_l hm lab) (below_trans (join_r ga gb) (join_r hm lab))))
theorem fold_append (h : IsLeast (A ++ B) M) (za : A ≠ []) (zb : B ≠ []) {m : List Int} (hm : m.length = n) : foldM n M m = meetL (foldM n A m) (foldM n B m) := by
  have hJ : ∀ x ∈ A ++ B, x.length = n := fun x hx => (List.mem_append.mp hx).elim (hA x) (hB x)
  have zj : A ++ B ≠ [] := fun e => za (List.append_eq_nil_iff.mp e).1
  have zm := h.ne hJ zj
  rw [foldM_ne za, foldM_ne zb, foldM_ne zm, glb_least h hJ zj, glb_append hA hB za zb]
  exact (join_meet hm (glb_len hA za) (glb_len hB zb)).symm
end
/-- the minimal ones of minimal ones -/
theorem IsLeast.self {G M : List (List Int)} (h : IsLeast G M) : IsLeast M M := ⟨h.1, fun x => ⟨fun hx => ⟨hx, fun y hy hb => ((h.2 x).mp hx).2 y (h.sub y hy) hb⟩, fun hx => hx.1⟩⟩
/-! ### comprehensions of two clauses -/
theorem lc2_inv {g : FG} {t : FT} {i1 : FI} {g1 : FG} {t1 : FT} {fe : FE} {vs vs1 : List Nat} {P : List D → List Sl → Prop} (I : Nat → List D → List Sl → Prop) : ∀ (ds : List D) (i : Nat) (acc : List D) (ρ : List Sl), I i acc ρ →
    (∀ (j : Nat) (d : D) (acc : List D) (ρ : List Sl), ds[j]? = some d → I (i + j) acc ρ → ∀ k : List D → List Sl → Prop, (∀ acc' ρ', I (i + j + 1) acc' ρ' → k acc' ρ') →
      g d ρ fun ρ1 => t ρ1 fun b ρ2 => if b = true then i1 ρ2 fun es ρ3 => lcGo g1 t1 fe vs1 es acc (wipeS ρ3 vs1) fun acc' ρ4 => k acc' (wipeS ρ4 vs) else k acc (wipeS ρ2 vs)) →
    (∀ acc ρ, I (i + ds.length) acc ρ → P acc ρ) → lc2Go g t i1 g1 t1 fe vs vs1 ds acc ρ P
  | [], i, acc, ρ, h0, _, hd => hd acc ρ h0
  | d :: ds, i, acc, ρ, h0, hs, hd => by
    refine hs 0 d acc ρ rfl h0 (fun acc' ρ' => lc2Go g t i1 g1 t1 fe vs vs1 ds acc' ρ' P) fun acc' ρ' hI => ?_
    refine lc2_inv I ds (i + 1) acc' ρ' hI (fun j d acc ρ hj hI k hk => ?_) fun acc ρ hI => ?_
    · refine hs (j + 1) d acc ρ hj (by rw [show i + (j + 1) = i + 1 + j by omega]; exact hI) k fun acc' ρ' h => hk acc' ρ' (by rw [show i + 1 + j + 1 = i + (j + 1) + 1 by omega]; exact h)
    · exact hd acc ρ (by rw [List.length_cons, show i + (ds.length + 1) = i + 1 + ds.length by omega]; exact hI)
theorem lc2_invT {α : Type} {g : FG} {t : FT} {i1 : FI} {g1 : FG} {t1 : FT} {fe : FE} {vs vs1 : List Nat} {P : List D → List Sl → Prop} (f : α → D) (I : Nat → List D → List Sl → Prop) (xs : List α) (ρ : List Sl) (h0 : I 0 [] ρ)
    (hs : ∀ (j : Nat) (x : α) (acc : List D) (ρ : List Sl), xs[j]? = some x → I j acc ρ → ∀ k : List D → List Sl → Prop, (∀ acc' ρ', I (j + 1) acc' ρ' → k acc' ρ') →
      g (f x) ρ fun ρ1 => t ρ1 fun b ρ2 => if b = true then i1 ρ2 fun es ρ3 => lcGo g1 t1 fe vs1 es acc (wipeS ρ3 vs1) fun acc' ρ4 => k acc' (wipeS ρ4 vs) else k acc (wipeS ρ2 vs))
    (hd : ∀ acc ρ, I xs.length acc ρ → P acc ρ) : lc2Go g t i1 g1 t1 fe vs vs1 (xs.map f) [] ρ P := by
  refine lc2_inv I _ 0 [] ρ h0 (fun j d acc ρ hj hI k h1 => ?_) (fun acc ρ hI => hd acc ρ ?_)
  · rw [List.getElem?_map] at hj
    cases q : xs[j]? with
    | none => rw [q] at hj; cases hj
    | some x =>
      rw [q] at hj
      cases hj
      rw [Nat.zero_add] at hI h1
      exact hs j x acc ρ q hI k h1
  · rw [List.length_map, Nat.zero_add] at hI
    exact hI
end DL

/-! DLQ: typed data with an order (Enc), typed keys (NKey): ==, <, sorted, min, look-ups on typed contents. -/
namespace DL
open PySem L2

/-! ### orders -/
structure SO {α : Type} (lt : α → α → Bool) : Prop where
  irr : ∀ a, lt a a = false
  trans : ∀ a b c, lt a b = true → lt b c = true → lt a c = true
  conn : ∀ a b, lt a b = false → lt b a = false → a = b
def pairB {α β : Type} [DecidableEq α] (l1 : α → α → Bool) (l2 : β → β → Bool) (x y : α × β) : Bool := if x.1 = y.1 then l2 x.2 y.2 else l1 x.1 y.1
def lexB {α : Type} [DecidableEq α] (lt : α → α → Bool) : List α → List α → Bool
  | [], [] => false
  | [], _ :: _ => true
  | _ :: _, [] => false
  | x :: xs, y :: ys => if x = y then lexB lt xs ys else lt x y
section
variable {α : Type} {lt : α → α → Bool}
theorem SO.asymm (h : SO lt) {a b : α} (p : lt a b = true) : lt b a = false := by
  cases q : lt b a with
  | false => rfl
  | true => have := h.trans _ _ _ p q; rw [h.irr] at this; cases this
theorem SO.tri (h : SO lt) (a b : α) : lt a b = true ∨ a = b ∨ lt b a = true := by
  cases p : lt a b with
  | true => exact .inl rfl
  | false =>
    cases q : lt b a with
    | true => exact .inr (.inr rfl)
    | false => exact .inr (.inl (h.conn a b p q))
/-- a ≤ b: not b < a -/
def leB (lt : α → α → Bool) (a b : α) : Bool := !lt b a
theorem SO.le_trans (h : SO lt) {a b c : α} (p : leB lt a b = true) (q : leB lt b c = true) : leB lt a c = true := by
  unfold leB at *
  cases z : lt c a with
  | false => rfl
  | true =>
    rcases h.tri a b with y | y | y
    · have := h.trans _ _ _ z y
      rw [this] at q; cases q
    · subst y; rw [z] at q; cases q
    · rw [y] at p; cases p
theorem SO.le_total (h : SO lt) (a b : α) : leB lt a b = true ∨ leB lt b a = true := by
  unfold leB
  rcases h.tri a b with y | y | y
  · exact .inl (by rw [h.asymm y]; rfl)
  · subst y; exact .inl (by rw [h.irr]; rfl)
  · exact .inr (by rw [h.asymm y]; rfl)
theorem SO.le_antisymm (h : SO lt) {a b : α} (p : leB lt a b = true) (q : leB lt b a = true) : a = b := by
  unfold leB at *
  exact h.conn a b (by simpa using q) (by simpa using p)
theorem SO.le_refl (h : SO lt) (a : α) : leB lt a a = true := by unfold leB; rw [h.irr]; rfl
theorem SO.lt_le (h : SO lt) {a b c : α} (p : lt a b = true) (q : leB lt b c = true) : lt a c = true := by
  rcases h.tri a c with y | y | y
  · exact y
  · subst y; unfold leB at q; rw [p] at q; cases q
  · have := h.trans _ _ _ y p
    unfold leB at q; rw [this] at q; cases q
def sortB (lt : α → α → Bool) (xs : List α) : List α := xs.mergeSort (leB lt)
theorem sortB_perm (xs : List α) : (sortB lt xs).Perm xs := List.mergeSort_perm _ _
theorem sortB_sorted (h : SO lt) (xs : List α) : (sortB lt xs).Pairwise fun a b => leB lt a b = true :=
  List.pairwise_mergeSort (le := leB lt) (fun a b c h1 h2 => h.le_trans h1 h2) (fun a b => Bool.or_eq_true_iff.mpr (h.le_total a b)) xs
/-- two sorted lists with the same items are one list -/
theorem SO.sorted_unique (h : SO lt) : ∀ {xs ys : List α}, xs.Perm ys → xs.Pairwise (fun a b => leB lt a b = true) → ys.Pairwise (fun a b => leB lt a b = true) → xs = ys := fun {xs ys} p hx hy =>
  List.Perm.eq_of_pairwise (le := fun a b => leB lt a b = true) (fun a b _ _ h1 h2 => h.le_antisymm h1 h2) hx hy p
theorem SO.sort_perm (h : SO lt) {xs ys : List α} (p : xs.Perm ys) : sortB lt xs = sortB lt ys :=
  h.sorted_unique ((sortB_perm xs).trans (p.trans (sortB_perm ys).symm)) (sortB_sorted h xs) (sortB_sorted h ys)
theorem SO.sort_self (h : SO lt) {xs : List α} (hx : xs.Pairwise fun a b => leB lt a b = true) : sortB lt xs = xs := h.sorted_unique (sortB_perm xs) (sortB_sorted h xs) hx
end

/-! ### data with an order -/
structure Enc {α : Type} (f : α → D) (lt : α → α → Bool) (n : Nat) : Prop where
  dat : Dat f n
  al : ∀ a b, PySem.W.alike (toP (f a)) (toP (f b)) = true
  lt : ∀ a b, PySem.W.dataLt (toP (f a)) (toP (f b)) = lt a b
  nn : ∀ a, toP (f a) ≠ .none
open PySem.W PyProof.Rows in
theorem toks_ne {x y : PyData} (h : alike x y = true) (e : PyData.eqv x y = false) : keyToks x ≠ keyToks y := fun q => by
  have := (toks_eqv x y h).2 e [] [.inl 0]
  rw [q, List.append_nil] at this
  have e1 : PyProof.Rows.lexLt itemOrd (keyToks y) (keyToks y ++ [.inl 0]) = true := by
    have := lex_pre (keyToks y) [] [.inl 0]
    rw [List.append_nil] at this
    rw [this]; rfl
  rw [e1, lex_irrefl] at this
  cases this
section
variable {α β : Type} {f : α → D} {lt : α → α → Bool} {n : Nat}
open PySem.W PyProof.Rows in
theorem Enc.so (h : Enc f lt n) : SO lt where
  irr := fun a => by rw [← h.lt]; exact lex_irrefl _
  trans := fun a b c p q => by rw [← h.lt] at *; exact PyProof.Rows.lex_trans _ _ _ p q
  conn := fun a b p q => by
    rw [← h.lt] at p q
    have e := lex_total _ _ p q
    cases z : PyData.eqv (toP (f a)) (toP (f b)) with
    | true => exact (h.dat.eqv a b).mp z
    | false => exact absurd e (toks_ne (h.al a b) z)
theorem enc_int : Enc D.int (fun a b => decide (a < b)) 1 := ⟨dat_int, fun _ _ => rfl, fun a b => PySem.W.dataLt_int a b, fun _ => PyData.noConfusion⟩
theorem enc_str : Enc D.str (fun a b => decide (a.cps.toList < b.cps.toList)) 1 := ⟨dat_str, fun _ _ => rfl, fun a b => PySem.W.dataLt_str a b, fun _ => PyData.noConfusion⟩
theorem dat_pair {g : β → D} {m : Nat} (h : Dat f n) (h' : Dat g m) : Dat (fun p : α × β => D.tup [f p.1, g p.2]) (max n m + 1) := by
  refine ⟨fun p => ?_, fun p => ?_, fun p q => ?_⟩
  · show PyData.plain (.tuple [toP (f p.1), toP (g p.2)]) = true
    simp [PyData.plain, PyData.plainAll, h.plain, h'.plain]
  · show PyData.depth (.tuple [toP (f p.1), toP (g p.2)]) ≤ _
    have := h.depth p.1
    have := h'.depth p.2
    simp only [PyData.depth, PyData.depthAll]
    omega
  · show PyData.eqv (.tuple [toP (f p.1), toP (g p.2)]) (.tuple [toP (f q.1), toP (g q.2)]) = true ↔ _
    rw [PyData.eqv, PyData.eqvAll, PyData.eqvAll, Bool.and_eq_true, Bool.and_eq_true, h.eqv, h'.eqv]
    obtain ⟨a, b⟩ := p
    obtain ⟨c, d⟩ := q
    simp [PyData.eqvAll]
open PySem.W in
theorem enc_pair [DecidableEq α] {g : β → D} {lt' : β → β → Bool} {m : Nat} (h : Enc f lt n) (h' : Enc g lt' m) : Enc (fun p : α × β => D.tup [f p.1, g p.2]) (pairB lt lt') (max n m + 1) := by
  refine ⟨dat_pair h.dat h'.dat, fun p q => ?_, fun p q => ?_, fun _ => PyData.noConfusion⟩
  · show alikeAll [toP (f p.1), toP (g p.2)] [toP (f q.1), toP (g q.2)] = true
    rw [alikeAll, alikeAll, h.al, h'.al]; rfl
  · show dataLt (.tuple [toP (f p.1), toP (g p.2)]) (.tuple [toP (f q.1), toP (g q.2)]) = _
    rw [dataLt_pair (h.al _ _) (h'.al _ _), h.lt, h'.lt]
    unfold pairB
    by_cases e : p.1 = q.1
    · rw [if_pos ((h.dat.eqv _ _).mpr e), if_pos e]
      by_cases e' : p.2 = q.2
      · rw [if_pos ((h'.dat.eqv _ _).mpr e'), e', h'.so.irr]
      · rw [if_neg (fun z => e' ((h'.dat.eqv _ _).mp z))]
    · rw [if_neg (fun z => e ((h.dat.eqv _ _).mp z)), if_neg e]
open PySem.W PyProof.Rows in
theorem toks_list [DecidableEq α] (h : Enc f lt n) : ∀ xs ys : List α, PyProof.Rows.lexLt itemOrd (keyToksAll (toPs (xs.map f))) (keyToksAll (toPs (ys.map f))) = lexB lt xs ys
  | [], [] => rfl
  | [], _ :: _ => rfl
  | _ :: _, [] => rfl
  | x :: xs, y :: ys => by
    show PyProof.Rows.lexLt itemOrd (keyToksAll (toP (f x) :: toPs (xs.map f))) (keyToksAll (toP (f y) :: toPs (ys.map f))) = if x = y then lexB lt xs ys else lt x y
    rw [dataLt_cons (h.al x y), toks_list h xs ys, h.lt]
    by_cases e : x = y
    · rw [if_pos ((h.dat.eqv _ _).mpr e), if_pos e]
    · rw [if_neg (fun z => e ((h.dat.eqv _ _).mp z)), if_neg e]
open PySem.W in
theorem alike_list (h : Enc f lt n) : ∀ xs ys : List α, alikeAll (toPs (xs.map f)) (toPs (ys.map f)) = true
  | [], _ => by show alikeAll [] _ = true; rw [alikeAll]
  | _ :: _, [] => by show alikeAll (_ :: _) [] = true; rw [alikeAll]
  | x :: xs, y :: ys => by
    show alikeAll (toP (f x) :: toPs (xs.map f)) (toP (f y) :: toPs (ys.map f)) = true
    rw [alikeAll, h.al, alike_list h xs ys]; rfl
theorem enc_tup [DecidableEq α] (h : Enc f lt n) : Enc (fun xs : List α => D.tup (xs.map f)) (lexB lt) (n + 1) := by
  refine ⟨dat_tup h.dat, fun xs ys => ?_, fun xs ys => ?_, fun _ => PyData.noConfusion⟩
  · show PySem.W.alike (.tuple (toPs (xs.map f))) (.tuple (toPs (ys.map f))) = true
    rw [PySem.W.alike]; exact alike_list h xs ys
  · show PySem.W.dataLt (.tuple (toPs (xs.map f))) (.tuple (toPs (ys.map f))) = _
    rw [PySem.W.dataLt_tuple]; exact toks_list h xs ys

theorem gLtD_enc (h : Enc f lt n) (hn : n ≤ 60) (a b : α) (P : D → Prop) : gLtD (f a) (f b) P = P (.bl (lt a b)) := by
  unfold gLtD
  rw [h.lt]
  exact propext ⟨fun h => h.2.2.2, fun q => ⟨⟨h.dat.plain a, h.dat.plain b, .inl (Nat.le_trans (h.dat.depth a) hn)⟩, h.al a b, h.nn a, q⟩⟩
theorem map_sort {γ : Type} (r : α → α → Bool) (s : γ → γ → Bool) (g : α → γ) (hr : ∀ a b, s (g a) (g b) = r a b) (xs : List α) : (xs.map g).mergeSort s = (xs.mergeSort r).map g :=
  (List.map_mergeSort (r := r) (s := s) (f := g) (l := xs) (fun a _ b _ => (hr a b).symm)).symm
open PySem.W in
theorem gSortD_enc (h : Enc f lt n) (hn : n ≤ 60) (hs : ∀ xs : List α, Sortable ((xs.map f).map toP)) (d : D) (xs : List α) (hd : d = .lst (xs.map f) ∨ d = .tup (xs.map f)) (P : D → Prop) : gSortD [d] P = P (.lst ((sortB lt xs).map f)) := by
  have e : (xs.map f).mergeSort (dataLe false toP) = (sortB lt xs).map f := map_sort (leB lt) _ f (fun a b => by
    show (!dataLt (toP (f b)) (toP (f a))) = _
    rw [h.lt]; rfl) xs
  refine propext ⟨fun ⟨ys, e1, h1, h2, h3, h4⟩ => ?_, fun q => ⟨xs.map f, hd.elim .inl (fun z => .inr (.inr z)), fun x hx => ?_, ?_, hs xs, by rw [e]; exact q⟩⟩
  · have : ys = xs.map f := by
      rcases hd with rfl | rfl <;> rcases e1 with e1 | e1 | e1 <;> cases e1 <;> rfl
    subst this
    rw [e] at h4
    exact h4
  · obtain ⟨a, _, rfl⟩ := List.mem_map.mp hx
    exact ⟨h.dat.plain a, Nat.le_trans (h.dat.depth a) hn⟩
  · intro x hx y hy
    obtain ⟨x', hx', rfl⟩ := List.mem_map.mp hx
    obtain ⟨a, _, rfl⟩ := List.mem_map.mp hx'
    obtain ⟨y', hy', rfl⟩ := List.mem_map.mp hy
    obtain ⟨b, _, rfl⟩ := List.mem_map.mp hy'
    exact h.al a b
/-- the first of the least -/
def minB (lt : α → α → Bool) (x : α) (xs : List α) : α := xs.foldl (fun a y => if lt y a = true then y else a) x
theorem minB_ok (h : SO lt) : ∀ (xs : List α) (x : α), minB lt x xs ∈ x :: xs ∧ ∀ y ∈ x :: xs, leB lt (minB lt x xs) y = true
  | [], x => ⟨List.mem_cons_self, fun y hy => by rw [List.mem_singleton.mp hy]; exact h.le_refl x⟩
  | z :: xs, x => by
    show minB lt (if lt z x = true then z else x) xs ∈ _ ∧ ∀ y ∈ _, leB lt (minB lt (if lt z x = true then z else x) xs) y = true
    have key : ∀ w, w ∈ [x, z] → leB lt w x = true → leB lt w z = true → minB lt w xs ∈ x :: z :: xs ∧ ∀ y ∈ x :: z :: xs, leB lt (minB lt w xs) y = true := fun w hw h1 h2 => by
      obtain ⟨i1, i2⟩ := minB_ok h xs w
      refine ⟨?_, fun y hy => ?_⟩
      · rcases List.mem_cons.mp i1 with e | e
        · rw [e]
          rcases List.mem_cons.mp hw with e | e
          · rw [e]; exact List.mem_cons_self
          · rw [List.mem_singleton.mp e]; exact List.mem_cons_of_mem _ List.mem_cons_self
        · exact List.mem_cons_of_mem _ (List.mem_cons_of_mem _ e)
      · rcases List.mem_cons.mp hy with e | hy
        · rw [e]; exact h.le_trans (i2 w List.mem_cons_self) h1
        · rcases List.mem_cons.mp hy with e | hy
          · rw [e]; exact h.le_trans (i2 w List.mem_cons_self) h2
          · exact i2 y (List.mem_cons_of_mem _ hy)
    by_cases q : lt z x = true
    · rw [if_pos q]
      exact key z (by simp) (by unfold leB; rw [h.asymm q]; rfl) (h.le_refl z)
    · rw [if_neg q]
      exact key x (by simp) (h.le_refl x) (by unfold leB; cases y : lt z x with | true => exact absurd y q | false => rfl)
theorem minD_enc (h : Enc f lt n) : ∀ (xs : List α) (x : α), PySem.W.minD (toP (f x)) ((xs.map f).map toP) = toP (f (minB lt x xs))
  | [], _ => rfl
  | y :: xs, x => by
    have ih := minD_enc h xs
    show PySem.W.minD (if PySem.W.dataLt (toP (f y)) (toP (f x)) = true then toP (f y) else toP (f x)) ((xs.map f).map toP) = toP (f (minB lt (if lt y x = true then y else x) xs))
    rw [h.lt]
    split
    · exact ih y
    · exact ih x
theorem toP_inj (h : Dat f n) {a b : α} (e : toP (f a) = toP (f b)) : a = b := by
  have q := (h.eqv b b).mpr rfl
  rw [← e] at q
  exact (h.eqv a b).mp (by rw [e] at q; rw [e]; exact q)
theorem enc_all (h : Enc f lt n) (hn : n ≤ 60) (xs : List α) : (∀ x ∈ xs.map f, (toP x).plain = true ∧ (toP x).depth ≤ 60) ∧ PySem.W.AlikeAll ((xs.map f).map toP) := by
  refine ⟨fun x hx => ?_, fun x hx y hy => ?_, fun x hx => ?_⟩
  · obtain ⟨a, _, rfl⟩ := List.mem_map.mp hx
    exact ⟨h.dat.plain a, Nat.le_trans (h.dat.depth a) hn⟩
  · obtain ⟨x', hx', rfl⟩ := List.mem_map.mp hx
    obtain ⟨a, _, rfl⟩ := List.mem_map.mp hx'
    obtain ⟨y', hy', rfl⟩ := List.mem_map.mp hy
    obtain ⟨b, _, rfl⟩ := List.mem_map.mp hy'
    exact h.al a b
  · obtain ⟨x', hx', rfl⟩ := List.mem_map.mp hx
    obtain ⟨a, _, rfl⟩ := List.mem_map.mp hx'
    exact h.nn a
/-- min(xs): a member, less than none -/
theorem gMinL_enc (h : Enc f lt n) (hn : n ≤ 60) (xs : List α) (hne : xs ≠ []) (P : D → Prop) (k : ∀ m ∈ xs, (∀ y ∈ xs, leB lt m y = true) → P (f m)) : gMinL [.lst (xs.map f)] P := by
  obtain ⟨h1, h2⟩ := enc_all h hn xs
  refine ⟨xs.map f, .inl rfl, h1, h2, fun e => hne (List.map_eq_nil_iff.mp e), fun y ys ey x hx ex => ?_⟩
  obtain ⟨m, hm, rfl⟩ := List.mem_map.mp hx
  cases xs with
  | nil => exact absurd rfl hne
  | cons l ls =>
    rw [List.map_cons, List.map_cons] at ey
    cases ey
    rw [minD_enc h] at ex
    have := toP_inj h.dat ex
    subst this
    obtain ⟨i1, i2⟩ := minB_ok h.so ls l
    exact k _ i1 i2
end
theorem gMaxL_ints (xs : List Int) (hne : xs ≠ []) (P : D → Prop) (k : ∀ m ∈ xs, (∀ y ∈ xs, y ≤ m) → P (.int m)) : gMaxL [.lst (xs.map .int)] P := by
  obtain ⟨h1, h2⟩ := enc_all enc_int (by decide) xs
  refine ⟨xs.map .int, .inl rfl, h1, h2, fun e => hne (List.map_eq_nil_iff.mp e), fun y ys ey x hx ex => ?_⟩
  obtain ⟨m, hm, rfl⟩ := List.mem_map.mp hx
  cases xs with
  | nil => exact absurd rfl hne
  | cons l ls =>
    rw [List.map_cons, List.map_cons] at ey
    cases ey
    have e2 : (ls.map D.int).map toP = ls.map PyData.int := by rw [List.map_map]; rfl
    have e3 : toP (.int m) = .int (ls.foldl max l) := by
      rw [ex, e2]
      exact PySem.W.maxD_ints l ls
    have e4 : m = ls.foldl max l := PyData.int.inj e3
    refine k m hm fun y hy => ?_
    rw [e4]
    have mono : ∀ (ls : List Int) (a : Int), a ≤ ls.foldl max a ∧ ∀ y ∈ ls, y ≤ ls.foldl max a := fun ls => by
      induction ls with
      | nil => exact fun a => ⟨Int.le_refl a, fun _ h => nomatch h⟩
      | cons c ls ih =>
        intro a
        obtain ⟨i1, i2⟩ := ih (max a c)
        refine ⟨Int.le_trans (Int.le_max_left a c) i1, fun y hy => ?_⟩
        rcases List.mem_cons.mp hy with rfl | hy
        · exact Int.le_trans (Int.le_max_right a y) i1
        · exact i2 y hy
    rcases List.mem_cons.mp hy with rfl | hy
    · exact (mono ls y).1
    · exact (mono ls l).2 y hy

/-! ### typed keys -/
structure NKey {α : Type} (f : α → D) (n : Nat) : Prop where
  ok : ∀ a, ∃ k, nk (f a) = some k ∧ k.depth ≤ n
  inj : ∀ a b, nk (f a) = nk (f b) → a = b
section
variable {α β : Type} {f : α → D} {n : Nat}
theorem nkey_int : NKey D.int 0 := ⟨fun a => ⟨_, rfl, Nat.le_refl 0⟩, fun a b e => by
  have : some (NestedKey.num a) = some (NestedKey.num b) := e
  cases this; rfl⟩
theorem nkey_str : NKey D.str 0 := ⟨fun a => ⟨_, rfl, Nat.le_refl 0⟩, fun a b e => by
  have : some (NestedKey.text a) = some (NestedKey.text b) := e
  cases this; rfl⟩
theorem nks_list (h : NKey f n) : ∀ xs : List α, ∃ ks, nks (xs.map f) = some ks ∧ NestedKey.depthAll ks ≤ n
  | [] => ⟨[], rfl, Nat.zero_le _⟩
  | x :: xs => by
    obtain ⟨k, h1, h2⟩ := h.ok x
    obtain ⟨ks, h3, h4⟩ := nks_list h xs
    refine ⟨k :: ks, ?_, ?_⟩
    · show ((nk (f x)).bind fun k => (nks (xs.map f)).map fun ks => k :: ks) = _
      rw [h1, h3]; rfl
    · simp only [NestedKey.depthAll]; omega
theorem nks_inj (h : NKey f n) : ∀ xs ys : List α, nks (xs.map f) = nks (ys.map f) → xs = ys
  | [], [], _ => rfl
  | [], y :: ys, e => by
    obtain ⟨ks, h1, _⟩ := nks_list h (y :: ys)
    rw [h1] at e
    obtain ⟨k, h2, _⟩ := h.ok y
    obtain ⟨ks', h3, _⟩ := nks_list h ys
    have : nks ((y :: ys).map f) = some (k :: ks') := by
      show ((nk (f y)).bind fun k => (nks (ys.map f)).map fun ks => k :: ks) = _
      rw [h2, h3]; rfl
    rw [this] at h1
    cases h1
    cases e
  | x :: xs, [], e => by
    obtain ⟨k, h2, _⟩ := h.ok x
    obtain ⟨ks', h3, _⟩ := nks_list h xs
    have : nks ((x :: xs).map f) = some (k :: ks') := by
      show ((nk (f x)).bind fun k => (nks (xs.map f)).map fun ks => k :: ks) = _
      rw [h2, h3]; rfl
    rw [this] at e
    cases e
  | x :: xs, y :: ys, e => by
    obtain ⟨k, h2, _⟩ := h.ok x
    obtain ⟨ks, h3, _⟩ := nks_list h xs
    obtain ⟨k', h4, _⟩ := h.ok y
    obtain ⟨ks', h5, _⟩ := nks_list h ys
    have e1 : nks ((x :: xs).map f) = some (k :: ks) := by
      show ((nk (f x)).bind fun k => (nks (xs.map f)).map fun ks => k :: ks) = _
      rw [h2, h3]; rfl
    have e2 : nks ((y :: ys).map f) = some (k' :: ks') := by
      show ((nk (f y)).bind fun k => (nks (ys.map f)).map fun ks => k :: ks) = _
      rw [h4, h5]; rfl
    rw [e1, e2] at e
    cases e
    rw [h.inj x y (h2.trans h4.symm), nks_inj h xs ys (h3.trans h5.symm)]
theorem nkey_tup (h : NKey f n) : NKey (fun xs : List α => D.tup (xs.map f)) (n + 1) := by
  refine ⟨fun xs => ?_, fun xs ys e => ?_⟩
  · obtain ⟨ks, h1, h2⟩ := nks_list h xs
    refine ⟨.tup ks, ?_, by simp only [NestedKey.depth]; omega⟩
    show (nks (xs.map f)).map NestedKey.tup = _
    rw [h1]; rfl
  · have e' : (nks (xs.map f)).map NestedKey.tup = (nks (ys.map f)).map NestedKey.tup := e
    obtain ⟨ks, h1, _⟩ := nks_list h xs
    obtain ⟨ks', h2, _⟩ := nks_list h ys
    rw [h1, h2] at e'
    cases e'
    exact nks_inj h xs ys (h1.trans h2.symm)
theorem nkey_pair {g : β → D} {m : Nat} (h : NKey f n) (h' : NKey g m) : NKey (fun p : α × β => D.tup [f p.1, g p.2]) (max n m + 1) := by
  have red : ∀ (p : α × β) k k', nk (f p.1) = some k → nk (g p.2) = some k' → nk (D.tup [f p.1, g p.2]) = some (.tup [k, k']) := fun p k k' h1 h2 => by
    show (nks [f p.1, g p.2]).map NestedKey.tup = _
    simp [nks, h1, h2]
  refine ⟨fun p => ?_, fun p q e => ?_⟩
  · obtain ⟨k, h1, h2⟩ := h.ok p.1
    obtain ⟨k', h3, h4⟩ := h'.ok p.2
    exact ⟨_, red p k k' h1 h3, by simp only [NestedKey.depth, NestedKey.depthAll]; omega⟩
  · obtain ⟨k, h1, _⟩ := h.ok p.1
    obtain ⟨k', h3, _⟩ := h'.ok p.2
    obtain ⟨c, h5, _⟩ := h.ok q.1
    obtain ⟨c', h6, _⟩ := h'.ok q.2
    have e' : nk (D.tup [f p.1, g p.2]) = nk (D.tup [f q.1, g q.2]) := e
    rw [red p k k' h1 h3, red q c c' h5 h6] at e'
    cases e'
    exact Prod.ext (h.inj _ _ (h1.trans h5.symm)) (h'.inj _ _ (h3.trans h6.symm))
theorem nkT_of {d : D} {ds : List D} (e : d = .tup ds) : nkT d = nk d := by subst e; rfl
theorem lookK_map [DecidableEq α] (h : NKey f n) (a : α) : ∀ (as : List α) (vs : List D), look ((as.map f).map nk) vs (nk (f a)) = look as vs a
  | [], vs => by cases vs <;> rfl
  | b :: as, [] => rfl
  | b :: as, v :: vs => by
    show (if nk (f b) = nk (f a) then some v else look ((as.map f).map nk) vs (nk (f a))) = (if b = a then some v else look as vs a)
    rw [lookK_map h a as vs]
    by_cases e : b = a
    · rw [if_pos e, if_pos (by rw [e])]
    · rw [if_neg e, if_neg (fun z => e (h.inj b a z))]
theorem mem_nk (h : NKey f n) (a : α) (as : List α) : nk (f a) ∈ (as.map f).map nk ↔ a ∈ as := by
  rw [List.map_map, List.mem_map]
  exact ⟨fun ⟨b, hb, e⟩ => h.inj b a e ▸ hb, fun hb => ⟨a, hb, rfl⟩⟩
theorem repl_map [DecidableEq α] (h : NKey f n) (a : α) (x : D) : ∀ (as : List α) (vs : List D), replV ((as.map f).map nk) vs (nk (f a)) x = replV as vs a x
  | [], vs => by cases vs <;> rfl
  | b :: as, [] => rfl
  | b :: as, v :: vs => by
    show (if nk (f b) = nk (f a) then x else v) :: replV ((as.map f).map nk) vs (nk (f a)) x = (if b = a then x else v) :: replV as vs a x
    rw [repl_map h a x as vs]
    by_cases e : b = a
    · rw [if_pos e, if_pos (by rw [e])]
    · rw [if_neg e, if_neg (fun z => e (h.inj b a z))]
theorem dlook_N [DecidableEq α] (h : NKey f n) (hn : n ≤ 8) (ht : ∀ a, nkT (f a) = nk (f a)) (as : List α) (vs : List D) (a : α) (P : Option D → Prop) : dlook (.dN (as.map f) vs) (f a) P = P (look as vs a) := by
  obtain ⟨k, h1, h2⟩ := h.ok a
  refine propext ⟨fun ⟨k', e, _, q⟩ => ?_, fun q => ⟨k, by rw [ht, h1], Nat.le_trans h2 hn, by rw [← h1, lookK_map h]; exact q⟩⟩
  rw [ht, h1] at e
  cases e
  rw [← h1, lookK_map h] at q
  exact q
theorem dput_N [DecidableEq α] (h : NKey f n) (hn : n ≤ 8) (ht : ∀ a, nkT (f a) = nk (f a)) (as : List α) (vs : List D) (a : α) (x : D) (P : D → Prop) (hl : as.length < 100000) (hP : P (.dN ((putKs as a).map f) (putVs as vs a x))) : dput (.dN (as.map f) vs) (f a) x P := by
  obtain ⟨k, h1, h2⟩ := h.ok a
  refine ⟨k, by rw [ht, h1], Nat.le_trans h2 hn, by rw [List.length_map]; exact hl, ?_⟩
  have e1 : putD (as.map f) (f a) = (putKs as a).map f := by
    unfold putD putKs
    by_cases c : a ∈ as
    · rw [if_pos ((mem_nk h a as).mpr c), if_pos c]
    · rw [if_neg (fun z => c ((mem_nk h a as).mp z)), if_neg c, List.map_append]; rfl
  have e2 : putVs ((as.map f).map nk) vs (some k) x = putVs as vs a x := by
    rw [← h1]
    unfold putVs
    by_cases c : a ∈ as
    · rw [if_pos ((mem_nk h a as).mpr c), if_pos c, repl_map h]
    · rw [if_neg (fun z => c ((mem_nk h a as).mp z)), if_neg c]
  rw [e1, e2]
  exact hP
end
/-! ### in -/
theorem gIn_dat {α : Type} [DecidableEq α] {f : α → D} {n : Nat} (h : Dat f n) (hn : n ≤ 60) (neg : Bool) (x : α) (y : D) (M : List α) (hy : y = .lst (M.map f) ∨ y = .tup (M.map f)) (P : D → Prop) : gInB neg (f x) y P = P (.bl (neg != decide (x ∈ M))) := by
  have e : ((toPs (M.map f)).any fun z => PyData.eqv z (toP (f x))) = decide (x ∈ M) := by
    clear hy
    induction M with
    | nil => rw [decide_eq_false (fun h => nomatch h)]; rfl
    | cons y M ih =>
      show (PyData.eqv (toP (f y)) (toP (f x)) || (toPs (M.map f)).any fun z => PyData.eqv z (toP (f x))) = _
      rw [ih]
      by_cases q : y = x
      · rw [(h.eqv y x).mpr q, Bool.true_or]
        exact (decide_eq_true (List.mem_cons.mpr (.inl q.symm))).symm
      · have : PyData.eqv (toP (f y)) (toP (f x)) = false := by
          cases z : PyData.eqv (toP (f y)) (toP (f x)) with
          | false => rfl
          | true => exact absurd ((h.eqv y x).mp z) q
        rw [this, Bool.false_or]
        refine decide_eq_decide.mpr ⟨fun h => List.mem_cons_of_mem _ h, fun h => ?_⟩
        rcases List.mem_cons.mp h with h | h
        · exact absurd h.symm q
        · exact h
  have es : seqP y = some (M.map f) := by rcases hy with rfl | rfl <;> rfl
  refine propext ⟨fun ⟨xs, e1, _, _, _, h⟩ => ?_, fun q => ⟨_, es, h.plain x, (dat_all h M).1, Nat.le_trans (h.depth x) hn, ?_⟩⟩
  · rw [es] at e1
    cases e1
    rw [e] at h
    exact h
  · rw [e]
    exact q
theorem gIn_int (neg : Bool) (x : Int) (M : List Int) (P : D → Prop) : gInB neg (.int x) (.lst (M.map .int)) P = P (.bl (neg != decide (x ∈ M))) := gIn_dat dat_int (by decide) neg x _ M (.inl rfl) P
theorem v_in_int {neg : Bool} {x : Int} {M : List Int} {P : D → Prop} {t : Tg P} : AP1 (gInB neg (.int x) (.lst (M.map .int))) P t = P (.bl (neg != decide (x ∈ M))) := propext (iff_of_eq (gIn_int neg x M P))
end DL

/-! K36B: each def of the law law_k36_whole_least_forms by contents (printed by gen.py). -/
namespace LK36
open PySem L2 DL
def b_renamed : FS := (fRet (fCall gTuple (fCons (fLc (fTupI (fVar 0)) (gdName 2) fYes (fDGet2 (fVar 1) (fVar 2) (fVar 2)) [2]) fNil)))
def g_renamed : GD := fun ds P => b_renamed (sl0 1 ds) (retP P)
def b_freed : FS := (fRet (fCall gTuple (fCons (fLc (fTupI (fVar 0)) (gdTup 2 (gdCons (gdName 1) (gdCons (gdName 2) gdNil))) fYes (fIf (fTst (fOp gEq (fVar 1) (fC (.str "var")))) (fTup (fCons (fC (.str "free")) (fCons (fVar 2) fNil))) (fTup (fCons (fVar 1) (fCons (fVar 2) fNil)))) [1, 2]) fNil)))
def g_freed : GD := fun ds P => b_freed (sl0 2 ds) (retP P)
def b_numbering : FS := (fSeq (fSetF 2 (fC (.dN [] [])))
    (fSeq (fFor (fTupI (fVar 0)) (gdName 3) (fIfS (fPureT (fAnd (fTst (fOp gEq (fOp gIx (fVar 3) (fC (.int 0))) (fC (.str "free")))) (fTst (fDIn true (fVar 3) (fVar 2))))) (fDPut 2 (fTup (fCons (fC (.str "var")) (fCons (fPure (fOp gAdd (fVar 1) (fCall gLen (fCons (fVar 2) fNil)))) fNil))) (fVar 3)) fNext))
    (fRet (fVar 2))))
def g_numbering : GD := fun ds P => b_numbering (sl0 2 ds) (retP P)
def b_law_box : FS := (fSeq (fIfS (fTst (fOp gEq (fCall gLen (fCons (fVar 0) fNil)) (fC (.int 0)))) (fRetF (fLst (fCons (fC (.int 0)) (fCons (fC (.int 0)) (fCons (fC (.int 0)) fNil))))) fNext)
    (fSeqJ (fIfS (fAnd (fTst (fOp gLt (fVar 1) (fCall gLen (fCons (fVar 0) fNil)))) (fTst (fOp gGe (fOp gIx (fVar 0) (fVar 1)) (fOp gPow (fC (.int 10)) (fC (.int 18)))))) (fRetF (fLst (fCons (fCall gInt (fCons (fOp gIx (fVar 0) (fVar 1)) fNil)) (fCons (fC (.int 0)) (fCons (fC (.int 0)) fNil))))) fNext)
    (fSeq (fSet 2 (fCall gSumL (fCons (fSl (fVar 0) fPN (fPS (fC (.int 63)))) fNil)))
    (fSeqJ (fIfS (fTst (fOp gLt (fVar 1) (fCall gLen (fCons (fVar 0) fNil)))) (fSet 2 (fOp gIx (fVar 0) (fVar 1))) fNext)
    (fRetF (fLst (fCons (fOp gAdd (fOp gMod (fCall gInt (fCons (fVar 2) fNil)) (fC (.int 999999937))) (fC (.int 1))) (fCons (fOp gAdd (fOp gMul (fC (.int 97)) (fVar 1)) (fC (.int 1))) (fCons (fC (.int 1)) fNil)))))))))
def g_law_box : GD := fun ds P => b_law_box (sl0 1 ds) (retF P)
def b_law_take : FS := (fSeq (fIfS (fPureT (fTst (fOp gEq (fOp gIx (fVar 0) (fC (.int 2))) (fC (.int 0))))) (fSeq (fSet 3 (fPure (fOp gMod (fCall gInt (fCons (fOp gIx (fVar 0) (fC (.int 0))) fNil)) (fVar 1))))
    (fSeq (fSetO 0 (fPure (fOp gDiv (fCall gInt (fCons (fOp gIx (fVar 0) (fC (.int 0))) fNil)) (fVar 1))) (fC (.int 0)))
    (fRet (fVar 3)))) fNext)
    (fSeq (fSetO 0 (fPure (fOp gAdd (fOp gIx (fVar 0) (fC (.int 1))) (fC (.int 1)))) (fC (.int 1)))
    (fSeq (fSet 2 (fPure (fOp gMod (fCall gInt (fCons (fOp gMul (fOp gIx (fVar 0) (fC (.int 0))) (fOp gAdd (fOp gMul (fOp gIx (fVar 0) (fC (.int 1))) (fC (.int 69621))) (fC (.int 48271)))) fNil)) (fC (.int 2147483647)))))
    (fSeq (fSet 2 (fPure (fOp gMod (fCall gInt (fCons (fOp gAdd (fOp gMul (fVar 2) (fVar 2)) (fOp gMul (fOp gIx (fVar 0) (fC (.int 1))) (fC (.int 40503)))) fNil)) (fC (.int 2147483629)))))
    (fRet (fOp gMod (fOp gDiv (fCall gInt (fCons (fVar 2) fNil)) (fC (.int 11))) (fVar 1)))))))
def g_law_take : GI := fun c ds P => b_law_take (slI 2 c ds) (retI P)
def b_law_ordered : FS := (fSeq (fSetF 1 (fLst fNil))
    (fSeq (fFor (fSeqI (fVar 0)) (gdName 2) (fFor (fTupI (fOp gIx (fVar 2) (fC (.int 1)))) (gdName 3) (fIfS (fPureT (fAnd (fTst (fOp gEq (fOp gIx (fVar 3) (fC (.int 0))) (fC (.str "var")))) (fTst (fOp (gInB true) (fOp gIx (fVar 3) (fC (.int 1))) (fVar 1))))) (fApp 1 (fOp gIx (fVar 3) (fC (.int 1)))) fNext)))
    (fRet (fVar 1))))
def g_law_ordered : GD := fun ds P => b_law_ordered (sl0 3 ds) (retP P)
def b_law_placed : FS := (fSeq (fIfS (fTst (fOp gEq (fOp gIx (fVar 0) (fC (.int 0))) (fC (.str "var")))) (fRet (fTup (fCons (fC (.str "var")) (fCons (fIndex (fVar 1) (fOp gIx (fVar 0) (fC (.int 1)))) fNil)))) fNext)
    (fRet (fVar 0)))
def g_law_placed : GD := fun ds P => b_law_placed (sl0 0 ds) (retP P)
def b_law_turned : FS := (fSeq (fSetF 2 (fLst fNil))
    (fSeq (fFor (fTupI (fVar 0)) (gdName 3) (fIfS (fTst (fOp gEq (fOp gIx (fVar 3) (fC (.int 0))) (fC (.str "var")))) (fApp 2 (fTup (fCons (fC (.str "var")) (fCons (fOp gIx (fVar 1) (fOp gIx (fVar 3) (fC (.int 1)))) fNil)))) (fApp 2 (fVar 3))))
    (fRet (fCall gTuple (fCons (fVar 2) fNil)))))
def g_law_turned : GD := fun ds P => b_law_turned (sl0 2 ds) (retP P)
def b_law_orders : FS := (fSeq (fSet 1 (fLst (fCons (fLst fNil) fNil)))
    (fSeq (fFor (fRng1 (fCons (fVar 0) fNil)) (gdName 2) (fSeq (fSetF 3 (fLst fNil))
    (fSeq (fFor (fLstI (fVar 1)) (gdName 4) (fFor (fRng1 (fCons (fOp gAdd (fVar 2) (fC (.int 1))) fNil)) (gdName 5) (fApp 3 (fOp gAdd (fOp gAdd (fSl (fVar 4) fPN (fPS (fVar 5))) (fLst (fCons (fVar 2) fNil))) (fSl (fVar 4) (fPS (fVar 5)) fPN)))))
    (fSet 1 (fVar 3)))))
    (fRet (fVar 1))))
def g_law_orders : GD := fun ds P => b_law_orders (sl0 5 ds) (retP P)
def b_law_alike_kind : FS := (fSeq (fIfS (fTst (fOp gNe (fCall gIsi (fCons (fVar 0) (fCons (fC (.ty "tuple")) fNil))) (fCall gIsi (fCons (fVar 1) (fCons (fC (.ty "tuple")) fNil))))) (fRet (fC (.bl false))) fNext)
    (fRet (fOp gEq (fCall gIsi (fCons (fVar 0) (fCons (fC (.ty "list")) fNil))) (fCall gIsi (fCons (fVar 1) (fCons (fC (.ty "list")) fNil))))))
def g_law_alike_kind : GD := fun ds P => b_law_alike_kind (sl0 0 ds) (retP P)
def b_renamed_atoms : FS := (fRet (fCall gTuple (fCons (fLc (fTupI (fVar 0)) (gdTup 2 (gdCons (gdName 2) (gdCons (gdName 3) gdNil))) fYes (fTup (fCons (fVar 2) (fCons (fCallP 2 g_renamed (fCons (fVar 3) (fCons (fVar 1) fNil))) fNil))) [2, 3]) fNil)))
def g_renamed_atoms : GD := fun ds P => b_renamed_atoms (sl0 2 ds) (retP P)
def b_freed_atoms : FS := (fRet (fCall gTuple (fCons (fLc (fTupI (fVar 0)) (gdTup 2 (gdCons (gdName 1) (gdCons (gdName 2) gdNil))) fYes (fTup (fCons (fVar 1) (fCons (fCallP 1 g_freed (fCons (fVar 2) fNil)) fNil))) [1, 2]) fNil)))
def g_freed_atoms : GD := fun ds P => b_freed_atoms (sl0 2 ds) (retP P)
def b_law_spread : FS := (fSeq (fSet 2 (fCallI 0 1 g_law_take (fCons (fC (.int 7)) fNil)))
    (fSeq (fSet 3 (fOp gAdd (fC (.int 1)) (fCallI 0 1 g_law_take (fCons (fC (.int 6)) fNil))))
    (fRet (fLc (fRng1 (fCons (fC (.int 3)) fNil)) (gdName 4) fYes (fOp gIx (fVar 1) (fOp gMod (fCall gInt (fCons (fOp gAdd (fVar 2) (fOp gMul (fVar 4) (fVar 3))) fNil)) (fC (.int 7)))) [4]))))
def g_law_spread : GI := fun c ds P => b_law_spread (slI 3 c ds) (retI P)
def b_law_many : FS := (fRet (fCall gLen (fCons (fCallP 1 g_law_ordered (fCons (fVar 0) fNil)) fNil)))
def g_law_many : GD := fun ds P => b_law_many (sl0 0 ds) (retP P)
def b_law_numbered : FS := (fSeq (fSet 2 (fCallP 1 g_law_ordered (fCons (fVar 1) fNil)))
    (fSeq (fSetF 3 (fLst fNil))
    (fSeq (fFor (fLstI (fVar 1)) (gdName 4) (fApp 3 (fTup (fCons (fOp gIx (fVar 4) (fC (.int 0))) (fCons (fCall gTuple (fCons (fLc (fTupI (fOp gIx (fVar 4) (fC (.int 1)))) (gdName 5) fYes (fCallP 2 g_law_placed (fCons (fVar 5) (fCons (fVar 2) fNil))) [5]) fNil)) fNil)))))
    (fRet (fTup (fCons (fCall gTuple (fCons (fLc (fLstI (fVar 0)) (gdName 5) fYes (fCallP 2 g_law_placed (fCons (fVar 5) (fCons (fVar 2) fNil))) [5]) fNil)) (fCons (fCall gTuple (fCons (fVar 3) fNil)) fNil)))))))
def g_law_numbered : GD := fun ds P => b_law_numbered (sl0 4 ds) (retP P)
def b_law_renamed : FS := (fSeq (fSet 2 (fLc (fTupI (fOp gIx (fVar 0) (fC (.int 1)))) (gdName 3) fYes (fTup (fCons (fOp gIx (fVar 3) (fC (.int 0))) (fCons (fCallP 2 g_law_turned (fCons (fOp gIx (fVar 3) (fC (.int 1))) (fCons (fVar 1) fNil))) fNil))) [3]))
    (fRet (fTup (fCons (fCallP 2 g_law_turned (fCons (fOp gIx (fVar 0) (fC (.int 0))) (fCons (fVar 1) fNil))) (fCons (fCall gTuple (fCons (fCall gSortD (fCons (fVar 2) fNil)) fNil)) fNil)))))
def g_law_renamed : GD := fun ds P => b_law_renamed (sl0 2 ds) (retP P)
def b_law_shuffled : FS := (fSeq (fSet 2 (fLst fNil))
    (fSeq (fFor (fRng1 (fCons (fVar 1) fNil)) (gdName 3) (fSeq (fSet 4 (fCallI 0 1 g_law_take (fCons (fOp gAdd (fVar 3) (fC (.int 1))) fNil)))
    (fSet 2 (fOp gAdd (fOp gAdd (fSl (fVar 2) fPN (fPS (fVar 4))) (fLst (fCons (fVar 3) fNil))) (fSl (fVar 2) (fPS (fVar 4)) fPN)))))
    (fRet (fVar 2))))
def g_law_shuffled : GI := fun c ds P => b_law_shuffled (slI 3 c ds) (retI P)
def b_least_next : FS := (fSeq (fSet 2 (fC .non))
    (fSeq (fSetF 3 (fC (.dN [] [])))
    (fSeq (fFor (fDicI 0) (gdName 4) (fFor (fEnum (fCons (fVar 4) fNil)) (gdTup 2 (gdCons (gdName 5) (gdCons (gdTup 2 (gdCons (gdName 8) (gdCons (gdName 9) gdNil))) gdNil))) (fSeq (fSet 6 (fCallP 2 g_numbering (fCons (fVar 9) (fCons (fVar 1) fNil))))
    (fSeq (fSet 7 (fTup (fCons (fVar 8) (fCons (fCallP 2 g_renamed (fCons (fVar 9) (fCons (fVar 6) fNil))) fNil))))
    (fSeqJ (fIfS (fOr (fTst (fOp gIs (fVar 2) (fC .non))) (fTst (fOp gLtD (fVar 7) (fVar 2)))) (fSeq (fSet 2 (fVar 7))
    (fSetF 3 (fC (.dN [] [])))) fNext)
    (fIfS (fTst (fOp gEq (fVar 7) (fVar 2))) (fSeq (fSet 10 (fOp gAdd (fSl (fVar 4) fPN (fPS (fVar 5))) (fSl (fVar 4) (fPS (fOp gAdd (fVar 5) (fC (.int 1)))) fPN)))
    (fDPut 3 (fC (.bl true)) (fCallP 2 g_renamed_atoms (fCons (fVar 10) (fCons (fVar 6) fNil))))) fNext))))))
    (fRet (fTup (fCons (fVar 2) (fCons (fVar 3) fNil)))))))
def g_least_next : GD := fun ds P => b_least_next (sl0 9 ds) (retP P)
def b_law_world : FS := (fSeq (fSet 3 (fCallI 0 1 g_law_spread (fCons (fLst (fCons (fC (.str "road")) (fCons (fC (.str "b")) (fCons (fC (.str "ab")) (fCons (fC (.str "owner'")) (fCons (fC (.str "zz")) (fCons (fC (.str "aaaaaaaa")) (fCons (fC (.str "c")) fNil)))))))) fNil)))
    (fSeq (fSet 4 (fCallI 0 1 g_law_spread (fCons (fLst (fCons (fC (.int 0)) (fCons (fC (.int 1)) (fCons (fUn gNeg (fC (.int 2))) (fCons (fC (.int 3)) (fCons (fC (.int 2)) (fCons (fOp gAdd (fOp gPow (fC (.int 10)) (fC (.int 29))) (fC (.int 7))) (fCons (fUn gNeg (fC (.int 1))) fNil)))))))) fNil)))
    (fSeq (fSetF 5 (fC (.dK [] [])))
    (fSeq (fFor (fLstI (fVar 3)) (gdName 6) (fDPut 5 (fOp gIx (fLst (fCons (fC (.int 1)) (fCons (fC (.int 2)) (fCons (fC (.int 3)) (fCons (fC (.int 0)) (fCons (fC (.int 2)) (fCons (fC (.int 1)) (fCons (fC (.int 2)) fNil)))))))) (fCallI 0 1 g_law_take (fCons (fC (.int 7)) fNil))) (fVar 6)))
    (fRet (fLst (fCons (fVar 3) (fCons (fVar 5) (fCons (fVar 4) (fCons (fVar 1) (fCons (fVar 2) fNil)))))))))))
def g_law_world : GI := fun c ds P => b_law_world (slI 4 c ds) (retI P)
def b_law_query : FS := (fSeq (fSetF 3 (fLst fNil))
    (fSeq (fFor (fRng1 (fCons (fOp gAdd (fC (.int 1)) (fCallI 0 1 g_law_take (fCons (fVar 2) fNil))) fNil)) (gdName 4) (fSeq (fSet 7 (fOp gIx (fOp gIx (fVar 1) (fC (.int 0))) (fOp gIx (fLst (fCons (fC (.int 0)) (fCons (fC (.int 0)) (fCons (fC (.int 1)) (fCons (fC (.int 2)) fNil))))) (fCallI 0 1 g_law_take (fCons (fC (.int 4)) fNil)))))
    (fSeq (fSetF 8 (fLst fNil))
    (fSeq (fFor (fRng1 (fCons (fDGet (fOp gIx (fVar 1) (fC (.int 1))) (fVar 7)) fNil)) (gdName 9) (fSeq (fSet 10 (fCallI 0 1 g_law_take (fCons (fC (.int 6)) fNil)))
    (fIfS (fTst (fOp gLt (fVar 10) (fC (.int 4)))) (fApp 8 (fTup (fCons (fC (.str "var")) (fCons (fOp gMod (fCall gInt (fCons (fOp gAdd (fOp gAdd (fVar 10) (fVar 9)) (fVar 4)) fNil)) (fC (.int 4))) fNil)))) (fApp 8 (fTup (fCons (fC (.str "num")) (fCons (fOp gIx (fOp gIx (fVar 1) (fC (.int 2))) (fOp gSub (fVar 10) (fC (.int 4)))) fNil)))))))
    (fApp 3 (fTup (fCons (fVar 7) (fCons (fCall gTuple (fCons (fVar 8) fNil)) fNil))))))))
    (fSeq (fSet 5 (fCallP 1 g_law_ordered (fCons (fVar 3) fNil)))
    (fSeq (fSetF 6 (fLst fNil))
    (fSeq (fFor (fRng1 (fCons (fOp gIx (fLst (fCons (fC (.int 1)) (fCons (fC (.int 2)) (fCons (fC (.int 0)) (fCons (fC (.int 3)) fNil))))) (fCallI 0 1 g_law_take (fCons (fC (.int 4)) fNil))) fNil)) (gdName 4) (fSeq (fSet 10 (fCallI 0 1 g_law_take (fCons (fOp gAdd (fCall gLen (fCons (fVar 5) fNil)) (fC (.int 1))) fNil)))
    (fIfS (fTst (fOp gLt (fVar 10) (fCall gLen (fCons (fVar 5) fNil)))) (fApp 6 (fTup (fCons (fC (.str "var")) (fCons (fOp gIx (fVar 5) (fVar 10)) fNil)))) (fApp 6 (fTup (fCons (fC (.str "num")) (fCons (fOp gIx (fOp gIx (fVar 1) (fC (.int 2))) (fCallI 0 1 g_law_take (fCons (fC (.int 2)) fNil))) fNil)))))))
    (fRet (fCallP 2 g_law_numbered (fCons (fVar 6) (fCons (fVar 3) fNil)))))))))
def g_law_query : GI := fun c ds P => b_law_query (slI 8 c ds) (retI P)
def b_law_least : FS := (fRet (fCall gMinL (fCons (fLc (fLstI (fCallP 1 g_law_orders (fCons (fCallP 1 g_law_many (fCons (fOp gIx (fVar 0) (fC (.int 1))) fNil)) fNil))) (gdName 1) fYes (fCallP 2 g_law_renamed (fCons (fVar 0) (fCons (fVar 1) fNil))) [1]) fNil)))
def g_law_least : GD := fun ds P => b_law_least (sl0 1 ds) (retP P)
def b_law_twin : FS := (fSeq (fSet 2 (fCallI 0 1 g_law_shuffled (fCons (fCallP 1 g_law_many (fCons (fOp gIx (fVar 1) (fC (.int 1))) fNil)) fNil)))
    (fSeq (fSet 3 (fCallI 0 1 g_law_shuffled (fCons (fCall gLen (fCons (fOp gIx (fVar 1) (fC (.int 1))) fNil)) fNil)))
    (fSeq (fSet 4 (fLc (fLstI (fVar 3)) (gdName 5) fYes (fTup (fCons (fOp gIx (fOp gIx (fOp gIx (fVar 1) (fC (.int 1))) (fVar 5)) (fC (.int 0))) (fCons (fCallP 2 g_law_turned (fCons (fOp gIx (fOp gIx (fOp gIx (fVar 1) (fC (.int 1))) (fVar 5)) (fC (.int 1))) (fCons (fVar 2) fNil))) fNil))) [5]))
    (fRet (fTup (fCons (fCallP 2 g_law_turned (fCons (fOp gIx (fVar 1) (fC (.int 0))) (fCons (fVar 2) fNil))) (fCons (fCall gTuple (fCons (fVar 4) fNil)) fNil)))))))
def g_law_twin : GI := fun c ds P => b_law_twin (slI 4 c ds) (retI P)
def b_law_changed : FS := (fSeq (fSet 3 (fCallI 0 1 g_law_take (fCons (fCall gLen (fCons (fOp gIx (fVar 1) (fC (.int 1))) fNil)) fNil)))
    (fSeq (fSet 4 (fTup (fCons (fC (.str "num")) (fCons (fOp gIx (fVar 2) (fCallI 0 1 g_law_take (fCons (fCall gLen (fCons (fVar 2) fNil)) fNil))) fNil))))
    (fSeq (fSet 5 (fCallI 0 1 g_law_take (fCons (fC (.int 5)) fNil)))
    (fSeqJ (fIfS (fTst (fOp gLt (fVar 5) (fC (.int 4)))) (fSet 4 (fTup (fCons (fC (.str "var")) (fCons (fVar 5) fNil)))) fNext)
    (fSeq (fSetF 6 (fCall gList (fCons (fOp gIx (fOp gIx (fOp gIx (fVar 1) (fC (.int 1))) (fVar 3)) (fC (.int 1))) fNil)))
    (fSeqJ (fIfS (fPureT (fTst (fOp gGt (fCall gLen (fCons (fVar 6) fNil)) (fC (.int 0))))) (fSetO 6 (fVar 4) (fCallI 0 1 g_law_take (fCons (fPure (fCall gLen (fCons (fVar 6) fNil))) fNil))) fNext)
    (fSeq (fSetF 7 (fCall gList (fCons (fOp gIx (fVar 1) (fC (.int 1))) fNil)))
    (fSeq (fSetO 7 (fTup (fCons (fOp gIx (fOp gIx (fOp gIx (fVar 1) (fC (.int 1))) (fVar 3)) (fC (.int 0))) (fCons (fCall gTuple (fCons (fVar 6) fNil)) fNil))) (fVar 3))
    (fSeq (fSet 8 (fCallP 1 g_law_ordered (fCons (fVar 7) fNil)))
    (fSeq (fSetF 9 (fLst fNil))
    (fSeq (fFor (fTupI (fOp gIx (fVar 1) (fC (.int 0)))) (gdName 10) (fIfS (fAnd (fTst (fOp gEq (fOp gIx (fVar 10) (fC (.int 0))) (fC (.str "var")))) (fTst (fOp (gInB true) (fOp gIx (fVar 10) (fC (.int 1))) (fVar 8)))) (fApp 9 (fVar 4)) (fApp 9 (fVar 10))))
    (fRet (fCallP 2 g_law_numbered (fCons (fVar 9) (fCons (fVar 7) fNil)))))))))))))))
def g_law_changed : GI := fun c ds P => b_law_changed (slI 8 c ds) (retI P)
def b_law_is_renaming : FS := (fSeq (fIfS (fTst (fOp gNe (fCallP 1 g_law_many (fCons (fOp gIx (fVar 0) (fC (.int 1))) fNil)) (fCallP 1 g_law_many (fCons (fOp gIx (fVar 1) (fC (.int 1))) fNil)))) (fRet (fC (.bl false))) fNext)
    (fSeq (fSet 2 (fTup (fCons (fOp gIx (fVar 1) (fC (.int 0))) (fCons (fCall gTuple (fCons (fCall gSortD (fCons (fOp gIx (fVar 1) (fC (.int 1))) fNil)) fNil)) fNil))))
    (fRet (fOp gGt (fCall gLen (fCons (fLc (fLstI (fCallP 1 g_law_orders (fCons (fCallP 1 g_law_many (fCons (fOp gIx (fVar 0) (fC (.int 1))) fNil)) fNil))) (gdName 3) (fTst (fOp gEq (fCallP 2 g_law_renamed (fCons (fVar 0) (fCons (fVar 3) fNil))) (fVar 2))) (fC (.int 1)) [3]) fNil)) (fC (.int 0))))))
def g_law_is_renaming : GD := fun ds P => b_law_is_renaming (sl0 2 ds) (retP P)
def b_least_form : FS := (fSeq (fAsgG (fVar 0) (gdTup 2 (gdCons (gdName 6) (gdCons (gdName 7) gdNil))))
    (fSeq (fSet 1 (fCallP 2 g_numbering (fCons (fCallP 1 g_freed (fCons (fVar 6) fNil)) (fCons (fC (.int 0)) fNil))))
    (fSeq (fSet 2 (fCall gLen (fCons (fVar 1) fNil)))
    (fSeq (fSet 3 (fDisp1N (fCallP 2 g_renamed_atoms (fCons (fCallP 1 g_freed_atoms (fCons (fVar 7) fNil)) (fCons (fVar 1) fNil))) (fC (.bl true))))
    (fSeq (fSetF 4 (fLst fNil))
    (fSeq (fFor (fTupI (fVar 7)) (gdName 5) (fSeq (fAsgG (fCallP 2 g_least_next (fCons (fVar 3) (fCons (fVar 2) fNil))) (gdTup 2 (gdCons (gdName 8) (gdCons (gdName 3) gdNil))))
    (fSeq (fApp 4 (fVar 8))
    (fSet 2 (fCall gMaxL (fCons (fOp gAdd (fLst (fCons (fVar 2) fNil)) (fLc (fTupI (fOp gIx (fVar 8) (fC (.int 1)))) (gdTup 2 (gdCons (gdName 9) (gdCons (gdName 10) gdNil))) (fTst (fOp gEq (fVar 9) (fC (.str "var")))) (fOp gAdd (fVar 10) (fC (.int 1))) [9, 10])) fNil))))))
    (fRet (fTup (fCons (fCallP 2 g_renamed (fCons (fCallP 1 g_freed (fCons (fVar 6) fNil)) (fCons (fVar 1) fNil))) (fCons (fCall gTuple (fCons (fVar 4) fNil)) fNil))))))))))
def g_least_form : GD := fun ds P => b_least_form (sl0 10 ds) (retP P)
def b_law_same (r_law_same : GD) : FS := (fSeq (fIfS (fTst (fOp gIs (fVar 1) (fC .non))) (fRet (fOp gIs (fVar 0) (fC .non))) fNext)
    (fSeq (fIfS (fNot (fTst (fCallP 2 g_law_alike_kind (fCons (fVar 0) (fCons (fVar 1) fNil))))) (fRet (fC (.bl false))) fNext)
    (fSeqJ (fIfS (fOr (fTst (fCall gIsi (fCons (fVar 1) (fCons (fC (.ty "tuple")) fNil)))) (fTst (fCall gIsi (fCons (fVar 1) (fCons (fC (.ty "list")) fNil))))) (fSeq (fIfS (fTst (fOp gNe (fCall gLen (fCons (fVar 0) fNil)) (fCall gLen (fCons (fVar 1) fNil)))) (fRet (fC (.bl false))) fNext)
    (fRet (fOp gEq (fCall gLen (fCons (fLc (fRng1 (fCons (fCall gLen (fCons (fVar 1) fNil)) fNil)) (gdName 2) (fNot (fTst (fCallP 2 r_law_same (fCons (fOp gIx (fVar 0) (fVar 2)) (fCons (fOp gIx (fVar 1) (fVar 2)) fNil))))) (fVar 2) [2]) fNil)) (fC (.int 0))))) fNext)
    (fSeq (fIfS (fTst (fCall gIsi (fCons (fVar 1) (fCons (fC (.ty "str")) fNil)))) (fRet (fAndV (fCall gIsi (fCons (fVar 0) (fCons (fC (.ty "str")) fNil))) (fOp gEq (fVar 0) (fVar 1)))) fNext)
    (fRet (fAndV (fCall gIsi (fCons (fVar 0) (fCons (fC (.ty "int")) fNil))) (fAndV (fOp gEq (fCall gIsi (fCons (fVar 0) (fCons (fC (.ty "bool")) fNil))) (fCall gIsi (fCons (fVar 1) (fCons (fC (.ty "bool")) fNil)))) (fOp gEq (fVar 0) (fVar 1)))))))))
def g_law_same : Nat → GD
  | 0 => fun _ _ => False
  | n + 1 => fun ds P => b_law_same (g_law_same n) (sl0 1 ds) (retP P)
def b_law : FS := (fSeq (fSet 1 (fCallIT 2 g_law_world (fCallP 2 g_law_box (fCons (fVar 0) (fCons (fC (.int 0)) fNil))) (fCons (fC (.str "")) (fCons (fLst fNil) fNil))))
    (fSeq (fSet 2 (fCallIT 2 g_law_query (fCallP 2 g_law_box (fCons (fVar 0) (fCons (fC (.int 1)) fNil))) (fCons (fVar 1) (fCons (fC (.int 4)) fNil))))
    (fSeq (fSetF 3 (fCallP 2 g_law_box (fCons (fVar 0) (fCons (fC (.int 2)) fNil))))
    (fSeq (fSet 4 (fCallI 3 1 g_law_take (fCons (fC (.int 4)) fNil)))
    (fSeq (fSet 5 (fVar 2))
    (fSeqJ (fIfS (fOr (fTst (fOp gEq (fVar 4) (fC (.int 1)))) (fTst (fOp gEq (fVar 4) (fC (.int 2))))) (fSet 5 (fCallI 3 2 g_law_changed (fCons (fVar 2) (fCons (fOp gIx (fVar 1) (fC (.int 2))) fNil)))) fNext)
    (fSeqJ (fIfS (fTst (fOp gEq (fVar 4) (fC (.int 3)))) (fSet 5 (fCallI 3 2 g_law_query (fCons (fVar 1) (fCons (fC (.int 4)) fNil)))) fNext)
    (fSeqJ (fIfS (fOr (fTst (fOp gEq (fVar 4) (fC (.int 0)))) (fTst (fOp gEq (fVar 4) (fC (.int 2))))) (fSet 5 (fCallI 3 1 g_law_twin (fCons (fVar 5) fNil))) fNext)
    (fSeq (fSet 6 (fCallK [0] 1 1 g_least_form (fCons (fVar 2) fNil)))
    (fSeq (fIfS (fNot (fTst (fCallP 2 (g_law_same 8) (fCons (fVar 6) (fCons (fCallP 1 g_law_least (fCons (fVar 2) fNil)) fNil))))) (fRet (fC (.bl false))) fNext)
    (fSeq (fSet 7 (fCallP 1 g_least_form (fCons (fVar 5) fNil)))
    (fSeq (fIfS (fNot (fTst (fCallP 2 (g_law_same 8) (fCons (fVar 7) (fCons (fCallP 1 g_law_least (fCons (fVar 5) fNil)) fNil))))) (fRet (fC (.bl false))) fNext)
    (fSeq (fIfS (fTst (fOp gNe (fOp gEq (fVar 6) (fVar 7)) (fCallP 2 g_law_is_renaming (fCons (fVar 2) (fCons (fVar 5) fNil))))) (fRet (fC (.bl false))) fNext)
    (fSeq (fSet 8 (fCallIT 1 g_law_twin (fCallP 2 g_law_box (fCons (fVar 0) (fCons (fC (.int 3)) fNil))) (fCons (fVar 2) fNil)))
    (fRet (fAndV (fCallP 2 (g_law_same 8) (fCons (fCallP 1 g_least_form (fCons (fVar 8) fNil)) (fCons (fVar 6) fNil))) (fCallP 2 (g_law_same 8) (fCons (fCallP 1 g_least_form (fCons (fVar 6) fNil)) (fCons (fVar 6) fNil)))))))))))))))))))
def g_law : GD := fun ds P => b_law (sl0 8 ds) (retP P)
end LK36

/-! K36W: the walk of each def (printed by gen.py). -/
namespace LK36
open PySem L2 DL
def topS (i : Nat) : Stmt := PySem.Challenge.pw_deltamill_k36_whole_least_forms.main.body.getD i (.Pass ⟨0, 0, 0, 0⟩)
structure Txt (K : PySem.W.Frag) (mg : Str → Option Value) : Prop where
  z_bool : mg "bool" = none
  z_enumerate : mg "enumerate" = none
  z_int : mg "int" = none
  z_isinstance : mg "isinstance" = none
  z_len : mg "len" = none
  z_list : mg "list" = none
  z_max : mg "max" = none
  z_min : mg "min" = none
  z_range : mg "range" = none
  z_sorted : mg "sorted" = none
  z_str : mg "str" = none
  z_sum : mg "sum" = none
  z_tuple : mg "tuple" = none
section
variable [HW] {P : Program} {K : PySem.W.Frag} {mg : Str → Option Value} {base : Heap}
abbrev s_renamed : Stmt := topS 1
theorem sc_renamed : FnScope ["terms", "names", "term"] ["terms", "names"] (defScope s_renamed) := ⟨rfl, rfl, rfl, by decide +kernel, rfl, by decide +kernel, by decide +kernel⟩
theorem ok_renamed {f : Addr} {fd : FuncData} (F : Fun K "renamed" "renamed" s_renamed f fd) (T : Txt K mg)  : FnOk P HW.w K mg base CX0 1 f fd ["terms", "names"] (spP K 2 g_renamed) :=
  fn_pure F sc_renamed g_renamed (by decide) (fun cdv A outer s H E hr => ⟨b_renamed, (pssd_one (psd_ret (pd_t cd_tuple (by rfl) T.z_tuple (pad_cons (PEF.val (pf_lc [("term", 2)] sc_renamed.nd (pid_t (pd_v 0)) (blkOk_by (own := [("term", 2)]) (N := ["terms", "names", "term"]) (sc := defScope s_renamed) (by decide +kernel)) (fun _ _ _ _ _ => (pgd_name 2 sc_renamed.nd)) (fun _ _ _ _ _ => ptsd_nil) (fun _ _ _ _ _ => (pd_dget2 hr.units (pd_v 1) (pd_v 2) (pd_v 2))))) pad_nil)))), fun ds Pd _ h => h⟩)
abbrev s_freed : Stmt := topS 3
theorem sc_freed : FnScope ["terms", "kind", "value"] ["terms"] (defScope s_freed) := ⟨rfl, rfl, rfl, by decide +kernel, rfl, by decide +kernel, by decide +kernel⟩
theorem ok_freed {f : Addr} {fd : FuncData} (F : Fun K "freed" "freed" s_freed f fd) (T : Txt K mg)  : FnOk P HW.w K mg base CX0 1 f fd ["terms"] (spP K 1 g_freed) :=
  fn_pure F sc_freed g_freed (by decide) (fun cdv A outer s H E hr => ⟨b_freed, (pssd_one (psd_ret (pd_t cd_tuple (by rfl) T.z_tuple (pad_cons (PEF.val (pf_lc [("kind", 1), ("value", 2)] sc_freed.nd (pid_t (pd_v 0)) (blkOk_by (own := [("kind", 1), ("value", 2)]) (N := ["terms", "kind", "value"]) (sc := defScope s_freed) (by decide +kernel)) (fun _ _ _ _ _ => (pgd_tup rfl (pgsd_cons (pgd_name 1 sc_freed.nd) (pgsd_cons (pgd_name 2 sc_freed.nd) pgsd_nil)))) (fun _ _ _ _ _ => ptsd_nil) (fun _ _ _ _ _ => (pd_ifExp (pt_cmpD (od_eq hr.units) (pd_v 1) pd_str) (pd_tup (pad_cons pd_str (pad_cons (pd_v 2) pad_nil))) (pd_tup (pad_cons (pd_v 1) (pad_cons (pd_v 2) pad_nil))))))) pad_nil)))), fun ds Pd _ h => h⟩)
abbrev s_numbering : Stmt := topS 5
theorem sc_numbering : FnScope ["terms", "many", "names", "term"] ["terms", "many"] (defScope s_numbering) := ⟨rfl, rfl, rfl, by decide +kernel, rfl, by decide +kernel, by decide +kernel⟩
theorem ok_numbering {f : Addr} {fd : FuncData} (F : Fun K "numbering" "numbering" s_numbering f fd) (T : Txt K mg)  : FnOk P HW.w K mg base CX0 1 f fd ["terms", "many"] (spP K 2 g_numbering) :=
  fn_pure F sc_numbering g_numbering (by decide) (fun cdv A outer s H E hr => ⟨b_numbering, (pssd_cons (psd_setF 2 pf_dnewN sc_numbering.nd)
      (pssd_cons (psd_for PassesOwn.never rfl (pid_t (pd_v 0)) (pgd_name 3 sc_numbering.nd) (pssd_one (psd_if (pt_pure (PWD.pt (pwd_and (pt_cmpD (od_eq hr.units) (pd_ix (pd_v 3) pd_int) pd_str) (pwd_and1 (pt_dnotin hr.units (pd_v 3) (pd_v 2)))))) (pssd_one (psd_dput 2 hr.units (pd_tup (pad_cons pd_str (pad_cons (pd_pure (pd_op od_add (pd_v 1) (pd_b cd_len (by rfl) T.z_len (pad_cons (pd_v 2) pad_nil)))) pad_nil))) (pd_v 3))) pssd_nil)))
      (pssd_one (psd_ret (pd_v 2))))), fun ds Pd _ h => h⟩)
abbrev s_law_box : Stmt := topS 9
theorem sc_law_box : FnScope ["_law_script", "_law_place", "_law_seed"] ["_law_script", "_law_place"] (defScope s_law_box) := ⟨rfl, rfl, rfl, by decide +kernel, rfl, by decide +kernel, by decide +kernel⟩
theorem ok_law_box {f : Addr} {fd : FuncData} (F : Fun K "_law_box" "_law_box" s_law_box f fd) (T : Txt K mg)  : FnOk P HW.w K mg base CX0 1 f fd ["_law_script", "_law_place"] (spF K 2 g_law_box) :=
  fn_fresh F sc_law_box g_law_box (by decide) (fun cdv A outer s H E hr => ⟨b_law_box, (pssd_cons (psd_if (pt_cmpD (od_eq hr.units) (pd_b cd_len (by rfl) T.z_len (pad_cons (pd_v 0) pad_nil)) pd_int) (pssd_one (psd_retF (pf_lst (pad_cons pd_int (pad_cons pd_int (pad_cons pd_int pad_nil)))))) pssd_nil)
      (pssd_cons (psd_if (PWD.pt (pwd_and (pt_cmpD (od_lt hr.units) (pd_v 1) (pd_b cd_len (by rfl) T.z_len (pad_cons (pd_v 0) pad_nil))) (pwd_and1 (pt_cmpD od_ge (pd_ix (pd_v 0) (pd_v 1)) (pd_op od_pow pd_int pd_int))))) (pssd_one (psd_retF (pf_lst (pad_cons (pd_t cd_int (by rfl) T.z_int (pad_cons (pd_ix (pd_v 0) (pd_v 1)) pad_nil)) (pad_cons pd_int (pad_cons pd_int pad_nil)))))) pssd_nil)
      (pssd_cons (psd_set 2 (pd_b cd_sum (by rfl) T.z_sum (pad_cons (pd_sl (pd_v 0) pod_n (pod_s pd_int)) pad_nil)) sc_law_box.nd)
      (pssd_cons (psd_if (pt_cmpD (od_lt hr.units) (pd_v 1) (pd_b cd_len (by rfl) T.z_len (pad_cons (pd_v 0) pad_nil))) (pssd_one (psd_set 2 (pd_ix (pd_v 0) (pd_v 1)) sc_law_box.nd)) pssd_nil)
      (pssd_one (psd_retF (pf_lst (pad_cons (pd_op od_add (pd_op od_mod (pd_t cd_int (by rfl) T.z_int (pad_cons (pd_v 2) pad_nil)) pd_int) pd_int) (pad_cons (pd_op od_add (pd_op od_mul pd_int (pd_v 1)) pd_int) (pad_cons pd_int pad_nil)))))))))), fun ds Pd _ h => h⟩)
abbrev s_law_take : Stmt := topS 10
theorem sc_law_take : FnScope ["_law_box_here", "_law_many_here", "_law_mixed", "_law_digit"] ["_law_box_here", "_law_many_here"] (defScope s_law_take) := ⟨rfl, rfl, rfl, by decide +kernel, rfl, by decide +kernel, by decide +kernel⟩
theorem ok_law_take {f : Addr} {fd : FuncData} (F : Fun K "_law_take" "_law_take" s_law_take f fd) (T : Txt K mg)  : FnOk P HW.w K mg base CX0 1 f fd ["_law_box_here", "_law_many_here"] (spI K 1 g_law_take) :=
  fn_io F sc_law_take 1 g_law_take rfl (by decide) (fun cdv A outer s H E p hr => ⟨b_law_take, (pssd_cons (psd_if (pt_pure (pt_cmpD (od_eq hr.units) (pd_ix (pd_v 0) pd_int) pd_int)) (pssd_cons (psd_set 3 (pd_pure (pd_op od_mod (pd_t cd_int (by rfl) T.z_int (pad_cons (pd_ix (pd_v 0) pd_int) pad_nil)) (pd_v 1))) sc_law_take.nd)
      (pssd_cons (psd_setO 0 (pd_pure (pd_op od_div (pd_t cd_int (by rfl) T.z_int (pad_cons (pd_ix (pd_v 0) pd_int) pad_nil)) (pd_v 1))) pd_int)
      (pssd_one (psd_ret (pd_v 3))))) pssd_nil)
      (pssd_cons (psd_setO 0 (pd_pure (pd_op od_add (pd_ix (pd_v 0) pd_int) pd_int)) pd_int)
      (pssd_cons (psd_set 2 (pd_pure (pd_op od_mod (pd_t cd_int (by rfl) T.z_int (pad_cons (pd_op od_mul (pd_ix (pd_v 0) pd_int) (pd_op od_add (pd_op od_mul (pd_ix (pd_v 0) pd_int) pd_int) pd_int)) pad_nil)) pd_int)) sc_law_take.nd)
      (pssd_cons (psd_set 2 (pd_pure (pd_op od_mod (pd_t cd_int (by rfl) T.z_int (pad_cons (pd_op od_add (pd_op od_mul (pd_v 2) (pd_v 2)) (pd_op od_mul (pd_ix (pd_v 0) pd_int) pd_int)) pad_nil)) pd_int)) sc_law_take.nd)
      (pssd_one (psd_ret (pd_op od_mod (pd_op od_div (pd_t cd_int (by rfl) T.z_int (pad_cons (pd_v 2) pad_nil)) pd_int) (pd_v 1)))))))), fun c ds Pd _ h => h⟩)
abbrev s_law_ordered : Stmt := topS 13
theorem sc_law_ordered : FnScope ["_law_body", "_law_found", "_law_atom", "_law_term"] ["_law_body"] (defScope s_law_ordered) := ⟨rfl, rfl, rfl, by decide +kernel, rfl, by decide +kernel, by decide +kernel⟩
theorem ok_law_ordered {f : Addr} {fd : FuncData} (F : Fun K "_law_ordered" "_law_ordered" s_law_ordered f fd) (T : Txt K mg)  : FnOk P HW.w K mg base CX0 1 f fd ["_law_body"] (spP K 1 g_law_ordered) :=
  fn_pure F sc_law_ordered g_law_ordered (by decide) (fun cdv A outer s H E hr => ⟨b_law_ordered, (pssd_cons (psd_setF 1 (pf_lst pad_nil) sc_law_ordered.nd)
      (pssd_cons (psd_for PassesOwn.never rfl (pid_seq (pd_v 0)) (pgd_name 2 sc_law_ordered.nd) (pssd_one (psd_for PassesOwn.never rfl (pid_t (pd_ix (pd_v 2) pd_int)) (pgd_name 3 sc_law_ordered.nd) (pssd_one (psd_if (pt_pure (PWD.pt (pwd_and (pt_cmpD (od_eq hr.units) (pd_ix (pd_v 3) pd_int) pd_str) (pwd_and1 (pt_cmpD (od_notIn hr.units) (pd_ix (pd_v 3) pd_int) (pd_v 1)))))) (pssd_one (psd_app 1 (pd_ix (pd_v 3) pd_int))) pssd_nil)))))
      (pssd_one (psd_ret (pd_v 1))))), fun ds Pd _ h => h⟩)
abbrev s_law_placed : Stmt := topS 15
theorem sc_law_placed : FnScope ["_law_term", "_law_order"] ["_law_term", "_law_order"] (defScope s_law_placed) := ⟨rfl, rfl, rfl, by decide +kernel, rfl, by decide +kernel, by decide +kernel⟩
theorem ok_law_placed {f : Addr} {fd : FuncData} (F : Fun K "_law_placed" "_law_placed" s_law_placed f fd) (T : Txt K mg)  : FnOk P HW.w K mg base CX0 1 f fd ["_law_term", "_law_order"] (spP K 2 g_law_placed) :=
  fn_pure F sc_law_placed g_law_placed (by decide) (fun cdv A outer s H E hr => ⟨b_law_placed, (pssd_cons (psd_if (pt_cmpD (od_eq hr.units) (pd_ix (pd_v 0) pd_int) pd_str) (pssd_one (psd_ret (pd_tup (pad_cons pd_str (pad_cons (pd_index (pd_v 1) (pd_ix (pd_v 0) pd_int)) pad_nil))))) pssd_nil)
      (pssd_one (psd_ret (pd_v 0)))), fun ds Pd _ h => h⟩)
abbrev s_law_turned : Stmt := topS 18
theorem sc_law_turned : FnScope ["_law_terms", "_law_order", "_law_made", "_law_term"] ["_law_terms", "_law_order"] (defScope s_law_turned) := ⟨rfl, rfl, rfl, by decide +kernel, rfl, by decide +kernel, by decide +kernel⟩
theorem ok_law_turned {f : Addr} {fd : FuncData} (F : Fun K "_law_turned" "_law_turned" s_law_turned f fd) (T : Txt K mg)  : FnOk P HW.w K mg base CX0 1 f fd ["_law_terms", "_law_order"] (spP K 2 g_law_turned) :=
  fn_pure F sc_law_turned g_law_turned (by decide) (fun cdv A outer s H E hr => ⟨b_law_turned, (pssd_cons (psd_setF 2 (pf_lst pad_nil) sc_law_turned.nd)
      (pssd_cons (psd_for PassesOwn.never rfl (pid_t (pd_v 0)) (pgd_name 3 sc_law_turned.nd) (pssd_one (psd_if (pt_cmpD (od_eq hr.units) (pd_ix (pd_v 3) pd_int) pd_str) (pssd_one (psd_app 2 (pd_tup (pad_cons pd_str (pad_cons (pd_ix (pd_v 1) (pd_ix (pd_v 3) pd_int)) pad_nil))))) (pssd_one (psd_app 2 (pd_v 3))))))
      (pssd_one (psd_ret (pd_t cd_tuple (by rfl) T.z_tuple (pad_cons (pd_v 2) pad_nil)))))), fun ds Pd _ h => h⟩)
abbrev s_law_orders : Stmt := topS 19
theorem sc_law_orders : FnScope ["_law_many_here", "_law_found", "_law_k", "_law_longer", "_law_order", "_law_place"] ["_law_many_here"] (defScope s_law_orders) := ⟨rfl, rfl, rfl, by decide +kernel, rfl, by decide +kernel, by decide +kernel⟩
theorem ok_law_orders {f : Addr} {fd : FuncData} (F : Fun K "_law_orders" "_law_orders" s_law_orders f fd) (T : Txt K mg)  : FnOk P HW.w K mg base CX0 1 f fd ["_law_many_here"] (spP K 1 g_law_orders) :=
  fn_pure F sc_law_orders g_law_orders (by decide) (fun cdv A outer s H E hr => ⟨b_law_orders, (pssd_cons (psd_set 1 (PEF.val (pf_lst (pad_cons (PEF.val (pf_lst pad_nil)) pad_nil))) sc_law_orders.nd)
      (pssd_cons (psd_for PassesOwn.never rfl (pid_range1 (by rfl) T.z_range (pad_cons (pd_v 0) pad_nil)) (pgd_name 2 sc_law_orders.nd) (pssd_cons (psd_setF 3 (pf_lst pad_nil) sc_law_orders.nd)
      (pssd_cons (psd_for PassesOwn.never rfl (pid_l (pd_v 1)) (pgd_name 4 sc_law_orders.nd) (pssd_one (psd_for PassesOwn.never rfl (pid_range1 (by rfl) T.z_range (pad_cons (pd_op od_add (pd_v 2) pd_int) pad_nil)) (pgd_name 5 sc_law_orders.nd) (pssd_one (psd_app 3 (pd_op od_add (pd_op od_add (pd_sl (pd_v 4) pod_n (pod_s (pd_v 5))) (PEF.val (pf_lst (pad_cons (pd_v 2) pad_nil)))) (pd_sl (pd_v 4) (pod_s (pd_v 5)) pod_n)))))))
      (pssd_one (psd_set 1 (pd_v 3) sc_law_orders.nd)))))
      (pssd_one (psd_ret (pd_v 1))))), fun ds Pd _ h => h⟩)
abbrev s_law_alike_kind : Stmt := topS 25
theorem sc_law_alike_kind : FnScope ["_law_told", "_law_due"] ["_law_told", "_law_due"] (defScope s_law_alike_kind) := ⟨rfl, rfl, rfl, by decide +kernel, rfl, by decide +kernel, by decide +kernel⟩
theorem ok_law_alike_kind {f : Addr} {fd : FuncData} (F : Fun K "_law_alike_kind" "_law_alike_kind" s_law_alike_kind f fd) (T : Txt K mg)  : FnOk P HW.w K mg base CX0 1 f fd ["_law_told", "_law_due"] (spP K 2 g_law_alike_kind) :=
  fn_pure F sc_law_alike_kind g_law_alike_kind (by decide) (fun cdv A outer s H E hr => ⟨b_law_alike_kind, (pssd_cons (psd_if (pt_cmpD (od_ne hr.units) (pd_b cd_isi (by rfl) T.z_isinstance (pad_cons (pd_v 0) (pad_cons (pd_ty (n := "tuple") (by rfl) T.z_tuple) pad_nil))) (pd_b cd_isi (by rfl) T.z_isinstance (pad_cons (pd_v 1) (pad_cons (pd_ty (n := "tuple") (by rfl) T.z_tuple) pad_nil)))) (pssd_one (psd_ret pd_bl)) pssd_nil)
      (pssd_one (psd_ret (pd_cmp (od_eq hr.units) (pd_b cd_isi (by rfl) T.z_isinstance (pad_cons (pd_v 0) (pad_cons (pd_ty (n := "list") (by rfl) T.z_list) pad_nil))) (pd_b cd_isi (by rfl) T.z_isinstance (pad_cons (pd_v 1) (pad_cons (pd_ty (n := "list") (by rfl) T.z_list) pad_nil))))))), fun ds Pd _ h => h⟩)
abbrev s_renamed_atoms : Stmt := topS 2
theorem sc_renamed_atoms : FnScope ["body", "names", "name", "terms"] ["body", "names"] (defScope s_renamed_atoms) := ⟨rfl, rfl, rfl, by decide +kernel, rfl, by decide +kernel, by decide +kernel⟩
theorem ok_renamed_atoms {f : Addr} {fd : FuncData} (F : Fun K "renamed_atoms" "renamed_atoms" s_renamed_atoms f fd) (T : Txt K mg) (d_renamed : Df P HW.w K mg base 1 "renamed" ["terms", "names"] (spP K 2 g_renamed)) : FnOk P HW.w K mg base CX0 2 f fd ["body", "names"] (spP K 2 g_renamed_atoms) :=
  fn_pure F sc_renamed_atoms g_renamed_atoms (by decide) (fun cdv A outer s H E hr => ⟨b_renamed_atoms, (pssd_one (psd_ret (pd_t cd_tuple (by rfl) T.z_tuple (pad_cons (PEF.val (pf_lc [("name", 2), ("terms", 3)] sc_renamed_atoms.nd (pid_t (pd_v 0)) (blkOk_by (own := [("name", 2), ("terms", 3)]) (N := ["body", "names", "name", "terms"]) (sc := defScope s_renamed_atoms) (by decide +kernel)) (fun _ _ _ _ _ => (pgd_tup rfl (pgsd_cons (pgd_name 2 sc_renamed_atoms.nd) (pgsd_cons (pgd_name 3 sc_renamed_atoms.nd) pgsd_nil)))) (fun _ _ _ _ _ => ptsd_nil) (fun _ _ _ _ _ => (pd_tup (pad_cons (pd_v 2) (pad_cons (pd_c d_renamed (hr.mono (by decide)) (pad_cons (pd_v 3) (pad_cons (pd_v 1) pad_nil))) pad_nil)))))) pad_nil)))), fun ds Pd _ h => h⟩)
abbrev s_freed_atoms : Stmt := topS 4
theorem sc_freed_atoms : FnScope ["body", "name", "terms"] ["body"] (defScope s_freed_atoms) := ⟨rfl, rfl, rfl, by decide +kernel, rfl, by decide +kernel, by decide +kernel⟩
theorem ok_freed_atoms {f : Addr} {fd : FuncData} (F : Fun K "freed_atoms" "freed_atoms" s_freed_atoms f fd) (T : Txt K mg) (d_freed : Df P HW.w K mg base 1 "freed" ["terms"] (spP K 1 g_freed)) : FnOk P HW.w K mg base CX0 2 f fd ["body"] (spP K 1 g_freed_atoms) :=
  fn_pure F sc_freed_atoms g_freed_atoms (by decide) (fun cdv A outer s H E hr => ⟨b_freed_atoms, (pssd_one (psd_ret (pd_t cd_tuple (by rfl) T.z_tuple (pad_cons (PEF.val (pf_lc [("name", 1), ("terms", 2)] sc_freed_atoms.nd (pid_t (pd_v 0)) (blkOk_by (own := [("name", 1), ("terms", 2)]) (N := ["body", "name", "terms"]) (sc := defScope s_freed_atoms) (by decide +kernel)) (fun _ _ _ _ _ => (pgd_tup rfl (pgsd_cons (pgd_name 1 sc_freed_atoms.nd) (pgsd_cons (pgd_name 2 sc_freed_atoms.nd) pgsd_nil)))) (fun _ _ _ _ _ => ptsd_nil) (fun _ _ _ _ _ => (pd_tup (pad_cons (pd_v 1) (pad_cons (pd_c d_freed (hr.mono (by decide)) (pad_cons (pd_v 2) pad_nil)) pad_nil)))))) pad_nil)))), fun ds Pd _ h => h⟩)
abbrev s_law_spread : Stmt := topS 11
theorem sc_law_spread : FnScope ["_law_box_here", "_law_menu", "_law_shift", "_law_step", "_law_k"] ["_law_box_here", "_law_menu"] (defScope s_law_spread) := ⟨rfl, rfl, rfl, by decide +kernel, rfl, by decide +kernel, by decide +kernel⟩
theorem ok_law_spread {f : Addr} {fd : FuncData} (F : Fun K "_law_spread" "_law_spread" s_law_spread f fd) (T : Txt K mg) (d_law_take : Df P HW.w K mg base 1 "_law_take" ["_law_box_here", "_law_many_here"] (spI K 1 g_law_take)) : FnOk P HW.w K mg base CX0 2 f fd ["_law_box_here", "_law_menu"] (spI K 1 g_law_spread) :=
  fn_io F sc_law_spread 1 g_law_spread rfl (by decide) (fun cdv A outer s H E p hr => ⟨b_law_spread, (pssd_cons (psd_set 2 (pd_i 0 d_law_take (hr.mono (by decide)) (pad_cons pd_int pad_nil)) sc_law_spread.nd)
      (pssd_cons (psd_set 3 (pd_op od_add pd_int (pd_i 0 d_law_take (hr.mono (by decide)) (pad_cons pd_int pad_nil))) sc_law_spread.nd)
      (pssd_one (psd_ret (PEF.val (pf_lc [("_law_k", 4)] sc_law_spread.nd (pid_range1 (by rfl) T.z_range (pad_cons pd_int pad_nil)) (blkOk_by (own := [("_law_k", 4)]) (N := ["_law_box_here", "_law_menu", "_law_shift", "_law_step", "_law_k"]) (sc := defScope s_law_spread) (by decide +kernel)) (fun _ _ _ _ _ => (pgd_name 4 sc_law_spread.nd)) (fun _ _ _ _ _ => ptsd_nil) (fun _ _ _ _ _ => (pd_ix (pd_v 1) (pd_op od_mod (pd_t cd_int (by rfl) T.z_int (pad_cons (pd_op od_add (pd_v 2) (pd_op od_mul (pd_v 4) (pd_v 3))) pad_nil)) pd_int))))))))), fun c ds Pd _ h => h⟩)
abbrev s_law_many : Stmt := topS 14
theorem sc_law_many : FnScope ["_law_body"] ["_law_body"] (defScope s_law_many) := ⟨rfl, rfl, rfl, by decide +kernel, rfl, by decide +kernel, by decide +kernel⟩
theorem ok_law_many {f : Addr} {fd : FuncData} (F : Fun K "_law_many" "_law_many" s_law_many f fd) (T : Txt K mg) (d_law_ordered : Df P HW.w K mg base 1 "_law_ordered" ["_law_body"] (spP K 1 g_law_ordered)) : FnOk P HW.w K mg base CX0 2 f fd ["_law_body"] (spP K 1 g_law_many) :=
  fn_pure F sc_law_many g_law_many (by decide) (fun cdv A outer s H E hr => ⟨b_law_many, (pssd_one (psd_ret (pd_b cd_len (by rfl) T.z_len (pad_cons (pd_c d_law_ordered (hr.mono (by decide)) (pad_cons (pd_v 0) pad_nil)) pad_nil)))), fun ds Pd _ h => h⟩)
abbrev s_law_numbered : Stmt := topS 16
theorem sc_law_numbered : FnScope ["_law_head", "_law_body", "_law_order", "_law_made", "_law_atom", "_law_term"] ["_law_head", "_law_body"] (defScope s_law_numbered) := ⟨rfl, rfl, rfl, by decide +kernel, rfl, by decide +kernel, by decide +kernel⟩
theorem ok_law_numbered {f : Addr} {fd : FuncData} (F : Fun K "_law_numbered" "_law_numbered" s_law_numbered f fd) (T : Txt K mg) (d_law_ordered : Df P HW.w K mg base 1 "_law_ordered" ["_law_body"] (spP K 1 g_law_ordered)) (d_law_placed : Df P HW.w K mg base 1 "_law_placed" ["_law_term", "_law_order"] (spP K 2 g_law_placed)) : FnOk P HW.w K mg base CX0 2 f fd ["_law_head", "_law_body"] (spP K 2 g_law_numbered) :=
  fn_pure F sc_law_numbered g_law_numbered (by decide) (fun cdv A outer s H E hr => ⟨b_law_numbered, (pssd_cons (psd_set 2 (pd_c d_law_ordered (hr.mono (by decide)) (pad_cons (pd_v 1) pad_nil)) sc_law_numbered.nd)
      (pssd_cons (psd_setF 3 (pf_lst pad_nil) sc_law_numbered.nd)
      (pssd_cons (psd_for PassesOwn.never rfl (pid_l (pd_v 1)) (pgd_name 4 sc_law_numbered.nd) (pssd_one (psd_app 3 (pd_tup (pad_cons (pd_ix (pd_v 4) pd_int) (pad_cons (pd_t cd_tuple (by rfl) T.z_tuple (pad_cons (PEF.val (pf_lc [("_law_term", 5)] sc_law_numbered.nd (pid_t (pd_ix (pd_v 4) pd_int)) (blkOk_by (own := [("_law_term", 5)]) (N := ["_law_head", "_law_body", "_law_order", "_law_made", "_law_atom", "_law_term"]) (sc := defScope s_law_numbered) (by decide +kernel)) (fun _ _ _ _ _ => (pgd_name 5 sc_law_numbered.nd)) (fun _ _ _ _ _ => ptsd_nil) (fun _ _ _ _ _ => (pd_c d_law_placed (hr.mono (by decide)) (pad_cons (pd_v 5) (pad_cons (pd_v 2) pad_nil)))))) pad_nil)) pad_nil))))))
      (pssd_one (psd_ret (pd_tup (pad_cons (pd_t cd_tuple (by rfl) T.z_tuple (pad_cons (PEF.val (pf_lc [("_law_term", 5)] sc_law_numbered.nd (pid_l (pd_v 0)) (blkOk_by (own := [("_law_term", 5)]) (N := ["_law_head", "_law_body", "_law_order", "_law_made", "_law_atom", "_law_term"]) (sc := defScope s_law_numbered) (by decide +kernel)) (fun _ _ _ _ _ => (pgd_name 5 sc_law_numbered.nd)) (fun _ _ _ _ _ => ptsd_nil) (fun _ _ _ _ _ => (pd_c d_law_placed (hr.mono (by decide)) (pad_cons (pd_v 5) (pad_cons (pd_v 2) pad_nil)))))) pad_nil)) (pad_cons (pd_t cd_tuple (by rfl) T.z_tuple (pad_cons (pd_v 3) pad_nil)) pad_nil)))))))), fun ds Pd _ h => h⟩)
abbrev s_law_renamed : Stmt := topS 20
theorem sc_law_renamed : FnScope ["_law_the_query", "_law_order", "_law_body", "_law_atom"] ["_law_the_query", "_law_order"] (defScope s_law_renamed) := ⟨rfl, rfl, rfl, by decide +kernel, rfl, by decide +kernel, by decide +kernel⟩
theorem ok_law_renamed {f : Addr} {fd : FuncData} (F : Fun K "_law_renamed" "_law_renamed" s_law_renamed f fd) (T : Txt K mg) (d_law_turned : Df P HW.w K mg base 1 "_law_turned" ["_law_terms", "_law_order"] (spP K 2 g_law_turned)) : FnOk P HW.w K mg base CX0 2 f fd ["_law_the_query", "_law_order"] (spP K 2 g_law_renamed) :=
  fn_pure F sc_law_renamed g_law_renamed (by decide) (fun cdv A outer s H E hr => ⟨b_law_renamed, (pssd_cons (psd_setLc 2 [("_law_atom", 3)] sc_law_renamed.nd (pid_t (pd_ix (pd_v 0) pd_int)) (blkOk_by (own := [("_law_atom", 3)]) (N := ["_law_the_query", "_law_order", "_law_body", "_law_atom"]) (sc := defScope s_law_renamed) (by decide +kernel)) (fun _ _ _ _ _ => (pgd_name 3 sc_law_renamed.nd)) (fun _ _ _ _ _ => ptsd_nil) (fun _ _ _ _ _ => (pd_tup (pad_cons (pd_ix (pd_v 3) pd_int) (pad_cons (pd_c d_law_turned (hr.mono (by decide)) (pad_cons (pd_ix (pd_v 3) pd_int) (pad_cons (pd_v 1) pad_nil))) pad_nil)))))
      (pssd_one (psd_ret (pd_tup (pad_cons (pd_c d_law_turned (hr.mono (by decide)) (pad_cons (pd_ix (pd_v 0) pd_int) (pad_cons (pd_v 1) pad_nil))) (pad_cons (pd_t cd_tuple (by rfl) T.z_tuple (pad_cons (PEF.val (pf_b (cf_sortD hr.units) (by rfl) T.z_sorted (pad_cons (pd_v 2) pad_nil))) pad_nil)) pad_nil)))))), fun ds Pd _ h => h⟩)
abbrev s_law_shuffled : Stmt := topS 22
theorem sc_law_shuffled : FnScope ["_law_box_here", "_law_many_here", "_law_order", "_law_k", "_law_place"] ["_law_box_here", "_law_many_here"] (defScope s_law_shuffled) := ⟨rfl, rfl, rfl, by decide +kernel, rfl, by decide +kernel, by decide +kernel⟩
theorem ok_law_shuffled {f : Addr} {fd : FuncData} (F : Fun K "_law_shuffled" "_law_shuffled" s_law_shuffled f fd) (T : Txt K mg) (d_law_take : Df P HW.w K mg base 1 "_law_take" ["_law_box_here", "_law_many_here"] (spI K 1 g_law_take)) : FnOk P HW.w K mg base CX0 2 f fd ["_law_box_here", "_law_many_here"] (spI K 1 g_law_shuffled) :=
  fn_io F sc_law_shuffled 1 g_law_shuffled rfl (by decide) (fun cdv A outer s H E p hr => ⟨b_law_shuffled, (pssd_cons (psd_set 2 (PEF.val (pf_lst pad_nil)) sc_law_shuffled.nd)
      (pssd_cons (psd_for PassesOwn.never rfl (pid_range1 (by rfl) T.z_range (pad_cons (pd_v 1) pad_nil)) (pgd_name 3 sc_law_shuffled.nd) (pssd_cons (psd_set 4 (pd_i 0 d_law_take (hr.mono (by decide)) (pad_cons (pd_op od_add (pd_v 3) pd_int) pad_nil)) sc_law_shuffled.nd)
      (pssd_one (psd_set 2 (pd_op od_add (pd_op od_add (pd_sl (pd_v 2) pod_n (pod_s (pd_v 4))) (PEF.val (pf_lst (pad_cons (pd_v 3) pad_nil)))) (pd_sl (pd_v 2) (pod_s (pd_v 4)) pod_n)) sc_law_shuffled.nd))))
      (pssd_one (psd_ret (pd_v 2))))), fun c ds Pd _ h => h⟩)
abbrev s_least_next : Stmt := topS 6
theorem sc_least_next : FnScope ["states", "many", "least", "following", "atoms", "index", "names", "atom", "name", "terms", "others"] ["states", "many"] (defScope s_least_next) := ⟨rfl, rfl, rfl, by decide +kernel, rfl, by decide +kernel, by decide +kernel⟩
theorem ok_least_next {f : Addr} {fd : FuncData} (F : Fun K "least_next" "least_next" s_least_next f fd) (T : Txt K mg) (d_numbering : Df P HW.w K mg base 1 "numbering" ["terms", "many"] (spP K 2 g_numbering)) (d_renamed : Df P HW.w K mg base 1 "renamed" ["terms", "names"] (spP K 2 g_renamed)) (d_renamed_atoms : Df P HW.w K mg base 2 "renamed_atoms" ["body", "names"] (spP K 2 g_renamed_atoms)) : FnOk P HW.w K mg base CX0 3 f fd ["states", "many"] (spP K 2 g_least_next) :=
  fn_pure F sc_least_next g_least_next (by decide) (fun cdv A outer s H E hr => ⟨b_least_next, (pssd_cons (psd_set 2 pd_non sc_least_next.nd)
      (pssd_cons (psd_setF 3 pf_dnewN sc_least_next.nd)
      (pssd_cons (psd_forD 0 PassesOwn.never rfl (pgd_name 4 sc_least_next.nd) (pssd_one (psd_for PassesOwn.never rfl (pid_enum (by rfl) T.z_enumerate (pad_cons (pd_v 4) pad_nil)) (pgd_tup rfl (pgsd_cons (pgd_name 5 sc_least_next.nd) (pgsd_cons (pgd_tup rfl (pgsd_cons (pgd_name 8 sc_least_next.nd) (pgsd_cons (pgd_name 9 sc_least_next.nd) pgsd_nil))) pgsd_nil))) (pssd_cons (psd_set 6 (pd_c d_numbering (hr.mono (by decide)) (pad_cons (pd_v 9) (pad_cons (pd_v 1) pad_nil))) sc_least_next.nd)
      (pssd_cons (psd_set 7 (pd_tup (pad_cons (pd_v 8) (pad_cons (pd_c d_renamed (hr.mono (by decide)) (pad_cons (pd_v 9) (pad_cons (pd_v 6) pad_nil))) pad_nil))) sc_least_next.nd)
      (pssd_cons (psd_if (PWD.pt (pwd_or (pt_cmpD od_is (pd_v 2) pd_non) (pwd_or1 (pt_cmpD (od_ltD hr.units) (pd_v 7) (pd_v 2))))) (pssd_cons (psd_set 2 (pd_v 7) sc_least_next.nd)
      (pssd_one (psd_setF 3 pf_dnewN sc_least_next.nd))) pssd_nil)
      (pssd_one (psd_if (pt_cmpD (od_eq hr.units) (pd_v 7) (pd_v 2)) (pssd_cons (psd_set 10 (pd_op od_add (pd_sl (pd_v 4) pod_n (pod_s (pd_v 5))) (pd_sl (pd_v 4) (pod_s (pd_op od_add (pd_v 5) pd_int)) pod_n)) sc_least_next.nd)
      (pssd_one (psd_dput 3 hr.units pd_bl (pd_c d_renamed_atoms (hr.mono (by decide)) (pad_cons (pd_v 10) (pad_cons (pd_v 6) pad_nil)))))) pssd_nil))))))))
      (pssd_one (psd_ret (pd_tup (pad_cons (pd_v 2) (pad_cons (pd_v 3) pad_nil)))))))), fun ds Pd _ h => h⟩)
abbrev s_law_world : Stmt := topS 12
theorem sc_law_world : FnScope ["_law_box_here", "_law_kind", "_law_caps", "_law_names", "_law_numbers", "_law_sizes", "_law_name"] ["_law_box_here", "_law_kind", "_law_caps"] (defScope s_law_world) := ⟨rfl, rfl, rfl, by decide +kernel, rfl, by decide +kernel, by decide +kernel⟩
theorem ok_law_world {f : Addr} {fd : FuncData} (F : Fun K "_law_world" "_law_world" s_law_world f fd) (T : Txt K mg) (d_law_spread : Df P HW.w K mg base 2 "_law_spread" ["_law_box_here", "_law_menu"] (spI K 1 g_law_spread)) (d_law_take : Df P HW.w K mg base 1 "_law_take" ["_law_box_here", "_law_many_here"] (spI K 1 g_law_take)) : FnOk P HW.w K mg base CX0 3 f fd ["_law_box_here", "_law_kind", "_law_caps"] (spI K 2 g_law_world) :=
  fn_io F sc_law_world 2 g_law_world rfl (by decide) (fun cdv A outer s H E p hr => ⟨b_law_world, (pssd_cons (psd_set 3 (pd_i 0 d_law_spread (hr.mono (by decide)) (pad_cons (PEF.val (pf_lst (pad_cons pd_str (pad_cons pd_str (pad_cons pd_str (pad_cons pd_str (pad_cons pd_str (pad_cons pd_str (pad_cons pd_str pad_nil))))))))) pad_nil)) sc_law_world.nd)
      (pssd_cons (psd_set 4 (pd_i 0 d_law_spread (hr.mono (by decide)) (pad_cons (PEF.val (pf_lst (pad_cons pd_int (pad_cons pd_int (pad_cons (pd_un ud_neg pd_int) (pad_cons pd_int (pad_cons pd_int (pad_cons (pd_op od_add (pd_op od_pow pd_int pd_int) pd_int) (pad_cons (pd_un ud_neg pd_int) pad_nil))))))))) pad_nil)) sc_law_world.nd)
      (pssd_cons (psd_setF 5 pf_dnewK sc_law_world.nd)
      (pssd_cons (psd_for PassesOwn.never rfl (pid_l (pd_v 3)) (pgd_name 6 sc_law_world.nd) (pssd_one (psd_dput 5 hr.units (pd_ix (PEF.val (pf_lst (pad_cons pd_int (pad_cons pd_int (pad_cons pd_int (pad_cons pd_int (pad_cons pd_int (pad_cons pd_int (pad_cons pd_int pad_nil))))))))) (pd_i 0 d_law_take (hr.mono (by decide)) (pad_cons pd_int pad_nil))) (pd_v 6))))
      (pssd_one (psd_ret (PEF.val (pf_lst (pad_cons (pd_v 3) (pad_cons (pd_v 5) (pad_cons (pd_v 4) (pad_cons (pd_v 1) (pad_cons (pd_v 2) pad_nil))))))))))))), fun c ds Pd _ h => h⟩)
abbrev s_law_query : Stmt := topS 17
theorem sc_law_query : FnScope ["_law_box_here", "_law_world_here", "_law_most", "_law_body", "_law_k", "_law_order", "_law_head", "_law_name", "_law_terms", "_law_j", "_law_pick"] ["_law_box_here", "_law_world_here", "_law_most"] (defScope s_law_query) := ⟨rfl, rfl, rfl, by decide +kernel, rfl, by decide +kernel, by decide +kernel⟩
theorem ok_law_query {f : Addr} {fd : FuncData} (F : Fun K "_law_query" "_law_query" s_law_query f fd) (T : Txt K mg) (d_law_numbered : Df P HW.w K mg base 2 "_law_numbered" ["_law_head", "_law_body"] (spP K 2 g_law_numbered)) (d_law_ordered : Df P HW.w K mg base 1 "_law_ordered" ["_law_body"] (spP K 1 g_law_ordered)) (d_law_take : Df P HW.w K mg base 1 "_law_take" ["_law_box_here", "_law_many_here"] (spI K 1 g_law_take)) : FnOk P HW.w K mg base CX0 3 f fd ["_law_box_here", "_law_world_here", "_law_most"] (spI K 2 g_law_query) :=
  fn_io F sc_law_query 2 g_law_query rfl (by decide) (fun cdv A outer s H E p hr => ⟨b_law_query, (pssd_cons (psd_setF 3 (pf_lst pad_nil) sc_law_query.nd)
      (pssd_cons (psd_for PassesOwn.never rfl (pid_range1 (by rfl) T.z_range (pad_cons (pd_op od_add pd_int (pd_i 0 d_law_take (hr.mono (by decide)) (pad_cons (pd_v 2) pad_nil))) pad_nil)) (pgd_name 4 sc_law_query.nd) (pssd_cons (psd_set 7 (pd_ix (pd_ix (pd_v 1) pd_int) (pd_ix (PEF.val (pf_lst (pad_cons pd_int (pad_cons pd_int (pad_cons pd_int (pad_cons pd_int pad_nil)))))) (pd_i 0 d_law_take (hr.mono (by decide)) (pad_cons pd_int pad_nil)))) sc_law_query.nd)
      (pssd_cons (psd_setF 8 (pf_lst pad_nil) sc_law_query.nd)
      (pssd_cons (psd_for PassesOwn.never rfl (pid_range1 (by rfl) T.z_range (pad_cons (pd_dget hr.units (pd_ix (pd_v 1) pd_int) (pd_v 7)) pad_nil)) (pgd_name 9 sc_law_query.nd) (pssd_cons (psd_set 10 (pd_i 0 d_law_take (hr.mono (by decide)) (pad_cons pd_int pad_nil)) sc_law_query.nd)
      (pssd_one (psd_if (pt_cmpD (od_lt hr.units) (pd_v 10) pd_int) (pssd_one (psd_app 8 (pd_tup (pad_cons pd_str (pad_cons (pd_op od_mod (pd_t cd_int (by rfl) T.z_int (pad_cons (pd_op od_add (pd_op od_add (pd_v 10) (pd_v 9)) (pd_v 4)) pad_nil)) pd_int) pad_nil))))) (pssd_one (psd_app 8 (pd_tup (pad_cons pd_str (pad_cons (pd_ix (pd_ix (pd_v 1) pd_int) (pd_op od_sub (pd_v 10) pd_int)) pad_nil)))))))))
      (pssd_one (psd_app 3 (pd_tup (pad_cons (pd_v 7) (pad_cons (pd_t cd_tuple (by rfl) T.z_tuple (pad_cons (pd_v 8) pad_nil)) pad_nil)))))))))
      (pssd_cons (psd_set 5 (pd_c d_law_ordered (hr.mono (by decide)) (pad_cons (pd_v 3) pad_nil)) sc_law_query.nd)
      (pssd_cons (psd_setF 6 (pf_lst pad_nil) sc_law_query.nd)
      (pssd_cons (psd_for PassesOwn.never rfl (pid_range1 (by rfl) T.z_range (pad_cons (pd_ix (PEF.val (pf_lst (pad_cons pd_int (pad_cons pd_int (pad_cons pd_int (pad_cons pd_int pad_nil)))))) (pd_i 0 d_law_take (hr.mono (by decide)) (pad_cons pd_int pad_nil))) pad_nil)) (pgd_name 4 sc_law_query.nd) (pssd_cons (psd_set 10 (pd_i 0 d_law_take (hr.mono (by decide)) (pad_cons (pd_op od_add (pd_b cd_len (by rfl) T.z_len (pad_cons (pd_v 5) pad_nil)) pd_int) pad_nil)) sc_law_query.nd)
      (pssd_one (psd_if (pt_cmpD (od_lt hr.units) (pd_v 10) (pd_b cd_len (by rfl) T.z_len (pad_cons (pd_v 5) pad_nil))) (pssd_one (psd_app 6 (pd_tup (pad_cons pd_str (pad_cons (pd_ix (pd_v 5) (pd_v 10)) pad_nil))))) (pssd_one (psd_app 6 (pd_tup (pad_cons pd_str (pad_cons (pd_ix (pd_ix (pd_v 1) pd_int) (pd_i 0 d_law_take (hr.mono (by decide)) (pad_cons pd_int pad_nil))) pad_nil)))))))))
      (pssd_one (psd_ret (pd_c d_law_numbered (hr.mono (by decide)) (pad_cons (pd_v 6) (pad_cons (pd_v 3) pad_nil)))))))))), fun c ds Pd _ h => h⟩)
abbrev s_law_least : Stmt := topS 21
theorem sc_law_least : FnScope ["_law_the_query", "_law_order"] ["_law_the_query"] (defScope s_law_least) := ⟨rfl, rfl, rfl, by decide +kernel, rfl, by decide +kernel, by decide +kernel⟩
theorem ok_law_least {f : Addr} {fd : FuncData} (F : Fun K "_law_least" "_law_least" s_law_least f fd) (T : Txt K mg) (d_law_many : Df P HW.w K mg base 2 "_law_many" ["_law_body"] (spP K 1 g_law_many)) (d_law_orders : Df P HW.w K mg base 1 "_law_orders" ["_law_many_here"] (spP K 1 g_law_orders)) (d_law_renamed : Df P HW.w K mg base 2 "_law_renamed" ["_law_the_query", "_law_order"] (spP K 2 g_law_renamed)) : FnOk P HW.w K mg base CX0 3 f fd ["_law_the_query"] (spP K 1 g_law_least) :=
  fn_pure F sc_law_least g_law_least (by decide) (fun cdv A outer s H E hr => ⟨b_law_least, (pssd_one (psd_ret (pd_b (cd_minL hr.units) (by rfl) T.z_min (pad_cons (PEF.val (pf_lc [("_law_order", 1)] sc_law_least.nd (pid_l (pd_c d_law_orders (hr.mono (by decide)) (pad_cons (pd_c d_law_many (hr.mono (by decide)) (pad_cons (pd_ix (pd_v 0) pd_int) pad_nil)) pad_nil))) (blkOk_by (own := [("_law_order", 1)]) (N := ["_law_the_query", "_law_order"]) (sc := defScope s_law_least) (by decide +kernel)) (fun _ _ _ _ _ => (pgd_name 1 sc_law_least.nd)) (fun _ _ _ _ _ => ptsd_nil) (fun _ _ _ _ _ => (pd_c d_law_renamed (hr.mono (by decide)) (pad_cons (pd_v 0) (pad_cons (pd_v 1) pad_nil)))))) pad_nil)))), fun ds Pd _ h => h⟩)
abbrev s_law_twin : Stmt := topS 23
theorem sc_law_twin : FnScope ["_law_box_here", "_law_the_query", "_law_order", "_law_places", "_law_body", "_law_k"] ["_law_box_here", "_law_the_query"] (defScope s_law_twin) := ⟨rfl, rfl, rfl, by decide +kernel, rfl, by decide +kernel, by decide +kernel⟩
theorem ok_law_twin {f : Addr} {fd : FuncData} (F : Fun K "_law_twin" "_law_twin" s_law_twin f fd) (T : Txt K mg) (d_law_many : Df P HW.w K mg base 2 "_law_many" ["_law_body"] (spP K 1 g_law_many)) (d_law_shuffled : Df P HW.w K mg base 2 "_law_shuffled" ["_law_box_here", "_law_many_here"] (spI K 1 g_law_shuffled)) (d_law_turned : Df P HW.w K mg base 1 "_law_turned" ["_law_terms", "_law_order"] (spP K 2 g_law_turned)) : FnOk P HW.w K mg base CX0 3 f fd ["_law_box_here", "_law_the_query"] (spI K 1 g_law_twin) :=
  fn_io F sc_law_twin 1 g_law_twin rfl (by decide) (fun cdv A outer s H E p hr => ⟨b_law_twin, (pssd_cons (psd_set 2 (pd_i 0 d_law_shuffled (hr.mono (by decide)) (pad_cons (pd_c d_law_many (hr.mono (by decide)) (pad_cons (pd_ix (pd_v 1) pd_int) pad_nil)) pad_nil)) sc_law_twin.nd)
      (pssd_cons (psd_set 3 (pd_i 0 d_law_shuffled (hr.mono (by decide)) (pad_cons (pd_b cd_len (by rfl) T.z_len (pad_cons (pd_ix (pd_v 1) pd_int) pad_nil)) pad_nil)) sc_law_twin.nd)
      (pssd_cons (psd_setLc 4 [("_law_k", 5)] sc_law_twin.nd (pid_l (pd_v 3)) (blkOk_by (own := [("_law_k", 5)]) (N := ["_law_box_here", "_law_the_query", "_law_order", "_law_places", "_law_body", "_law_k"]) (sc := defScope s_law_twin) (by decide +kernel)) (fun _ _ _ _ _ => (pgd_name 5 sc_law_twin.nd)) (fun _ _ _ _ _ => ptsd_nil) (fun _ _ _ _ _ => (pd_tup (pad_cons (pd_ix (pd_ix (pd_ix (pd_v 1) pd_int) (pd_v 5)) pd_int) (pad_cons (pd_c d_law_turned (hr.mono (by decide)) (pad_cons (pd_ix (pd_ix (pd_ix (pd_v 1) pd_int) (pd_v 5)) pd_int) (pad_cons (pd_v 2) pad_nil))) pad_nil)))))
      (pssd_one (psd_ret (pd_tup (pad_cons (pd_c d_law_turned (hr.mono (by decide)) (pad_cons (pd_ix (pd_v 1) pd_int) (pad_cons (pd_v 2) pad_nil))) (pad_cons (pd_t cd_tuple (by rfl) T.z_tuple (pad_cons (pd_v 4) pad_nil)) pad_nil)))))))), fun c ds Pd _ h => h⟩)
abbrev s_law_changed : Stmt := topS 24
theorem sc_law_changed : FnScope ["_law_box_here", "_law_the_query", "_law_numbers", "_law_spot", "_law_new", "_law_pick", "_law_terms", "_law_body", "_law_order", "_law_head", "_law_term"] ["_law_box_here", "_law_the_query", "_law_numbers"] (defScope s_law_changed) := ⟨rfl, rfl, rfl, by decide +kernel, rfl, by decide +kernel, by decide +kernel⟩
theorem ok_law_changed {f : Addr} {fd : FuncData} (F : Fun K "_law_changed" "_law_changed" s_law_changed f fd) (T : Txt K mg) (d_law_numbered : Df P HW.w K mg base 2 "_law_numbered" ["_law_head", "_law_body"] (spP K 2 g_law_numbered)) (d_law_ordered : Df P HW.w K mg base 1 "_law_ordered" ["_law_body"] (spP K 1 g_law_ordered)) (d_law_take : Df P HW.w K mg base 1 "_law_take" ["_law_box_here", "_law_many_here"] (spI K 1 g_law_take)) : FnOk P HW.w K mg base CX0 3 f fd ["_law_box_here", "_law_the_query", "_law_numbers"] (spI K 2 g_law_changed) :=
  fn_io F sc_law_changed 2 g_law_changed rfl (by decide) (fun cdv A outer s H E p hr => ⟨b_law_changed, (pssd_cons (psd_set 3 (pd_i 0 d_law_take (hr.mono (by decide)) (pad_cons (pd_b cd_len (by rfl) T.z_len (pad_cons (pd_ix (pd_v 1) pd_int) pad_nil)) pad_nil)) sc_law_changed.nd)
      (pssd_cons (psd_set 4 (pd_tup (pad_cons pd_str (pad_cons (pd_ix (pd_v 2) (pd_i 0 d_law_take (hr.mono (by decide)) (pad_cons (pd_b cd_len (by rfl) T.z_len (pad_cons (pd_v 2) pad_nil)) pad_nil))) pad_nil))) sc_law_changed.nd)
      (pssd_cons (psd_set 5 (pd_i 0 d_law_take (hr.mono (by decide)) (pad_cons pd_int pad_nil)) sc_law_changed.nd)
      (pssd_cons (psd_if (pt_cmpD (od_lt hr.units) (pd_v 5) pd_int) (pssd_one (psd_set 4 (pd_tup (pad_cons pd_str (pad_cons (pd_v 5) pad_nil))) sc_law_changed.nd)) pssd_nil)
      (pssd_cons (psd_setF 6 (pf_t cf_list (by rfl) T.z_list (pad_cons (pd_ix (pd_ix (pd_ix (pd_v 1) pd_int) (pd_v 3)) pd_int) pad_nil)) sc_law_changed.nd)
      (pssd_cons (psd_if (pt_pure (pt_cmpD od_gt (pd_b cd_len (by rfl) T.z_len (pad_cons (pd_v 6) pad_nil)) pd_int)) (pssd_one (psd_setO 6 (pd_v 4) (pd_i 0 d_law_take (hr.mono (by decide)) (pad_cons (pd_pure (pd_b cd_len (by rfl) T.z_len (pad_cons (pd_v 6) pad_nil))) pad_nil)))) pssd_nil)
      (pssd_cons (psd_setF 7 (pf_t cf_list (by rfl) T.z_list (pad_cons (pd_ix (pd_v 1) pd_int) pad_nil)) sc_law_changed.nd)
      (pssd_cons (psd_setO 7 (pd_tup (pad_cons (pd_ix (pd_ix (pd_ix (pd_v 1) pd_int) (pd_v 3)) pd_int) (pad_cons (pd_t cd_tuple (by rfl) T.z_tuple (pad_cons (pd_v 6) pad_nil)) pad_nil))) (pd_v 3))
      (pssd_cons (psd_set 8 (pd_c d_law_ordered (hr.mono (by decide)) (pad_cons (pd_v 7) pad_nil)) sc_law_changed.nd)
      (pssd_cons (psd_setF 9 (pf_lst pad_nil) sc_law_changed.nd)
      (pssd_cons (psd_for PassesOwn.never rfl (pid_t (pd_ix (pd_v 1) pd_int)) (pgd_name 10 sc_law_changed.nd) (pssd_one (psd_if (PWD.pt (pwd_and (pt_cmpD (od_eq hr.units) (pd_ix (pd_v 10) pd_int) pd_str) (pwd_and1 (pt_cmpD (od_notIn hr.units) (pd_ix (pd_v 10) pd_int) (pd_v 8))))) (pssd_one (psd_app 9 (pd_v 4))) (pssd_one (psd_app 9 (pd_v 10))))))
      (pssd_one (psd_ret (pd_c d_law_numbered (hr.mono (by decide)) (pad_cons (pd_v 9) (pad_cons (pd_v 7) pad_nil)))))))))))))))), fun c ds Pd _ h => h⟩)
abbrev s_law_is_renaming : Stmt := topS 27
theorem sc_law_is_renaming : FnScope ["_law_one", "_law_mate", "_law_goal", "_law_order"] ["_law_one", "_law_mate"] (defScope s_law_is_renaming) := ⟨rfl, rfl, rfl, by decide +kernel, rfl, by decide +kernel, by decide +kernel⟩
theorem ok_law_is_renaming {f : Addr} {fd : FuncData} (F : Fun K "_law_is_renaming" "_law_is_renaming" s_law_is_renaming f fd) (T : Txt K mg) (d_law_many : Df P HW.w K mg base 2 "_law_many" ["_law_body"] (spP K 1 g_law_many)) (d_law_orders : Df P HW.w K mg base 1 "_law_orders" ["_law_many_here"] (spP K 1 g_law_orders)) (d_law_renamed : Df P HW.w K mg base 2 "_law_renamed" ["_law_the_query", "_law_order"] (spP K 2 g_law_renamed)) : FnOk P HW.w K mg base CX0 3 f fd ["_law_one", "_law_mate"] (spP K 2 g_law_is_renaming) :=
  fn_pure F sc_law_is_renaming g_law_is_renaming (by decide) (fun cdv A outer s H E hr => ⟨b_law_is_renaming, (pssd_cons (psd_if (pt_cmpD (od_ne hr.units) (pd_c d_law_many (hr.mono (by decide)) (pad_cons (pd_ix (pd_v 0) pd_int) pad_nil)) (pd_c d_law_many (hr.mono (by decide)) (pad_cons (pd_ix (pd_v 1) pd_int) pad_nil))) (pssd_one (psd_ret pd_bl)) pssd_nil)
      (pssd_cons (psd_set 2 (pd_tup (pad_cons (pd_ix (pd_v 1) pd_int) (pad_cons (pd_t cd_tuple (by rfl) T.z_tuple (pad_cons (PEF.val (pf_b (cf_sortD hr.units) (by rfl) T.z_sorted (pad_cons (pd_ix (pd_v 1) pd_int) pad_nil))) pad_nil)) pad_nil))) sc_law_is_renaming.nd)
      (pssd_one (psd_ret (pd_cmp od_gt (pd_b cd_len (by rfl) T.z_len (pad_cons (PEF.val (pf_lc [("_law_order", 3)] sc_law_is_renaming.nd (pid_l (pd_c d_law_orders (hr.mono (by decide)) (pad_cons (pd_c d_law_many (hr.mono (by decide)) (pad_cons (pd_ix (pd_v 0) pd_int) pad_nil)) pad_nil))) (blkOk_by (own := [("_law_order", 3)]) (N := ["_law_one", "_law_mate", "_law_goal", "_law_order"]) (sc := defScope s_law_is_renaming) (by decide +kernel)) (fun _ _ _ _ _ => (pgd_name 3 sc_law_is_renaming.nd)) (fun _ _ _ _ _ => (ptsd_one (pt_cmpD (od_eq hr.units) (pd_c d_law_renamed (hr.mono (by decide)) (pad_cons (pd_v 0) (pad_cons (pd_v 3) pad_nil))) (pd_v 2)))) (fun _ _ _ _ _ => pd_int))) pad_nil)) pd_int))))), fun ds Pd _ h => h⟩)
abbrev s_least_form : Stmt := topS 7
theorem sc_least_form : FnScope ["query", "names", "many", "states", "atoms", "_", "head", "body", "least", "kind", "value"] ["query"] (defScope s_least_form) := ⟨rfl, rfl, rfl, by decide +kernel, rfl, by decide +kernel, by decide +kernel⟩
theorem ok_least_form {f : Addr} {fd : FuncData} (F : Fun K "least_form" "least_form" s_least_form f fd) (T : Txt K mg) (d_freed : Df P HW.w K mg base 1 "freed" ["terms"] (spP K 1 g_freed)) (d_freed_atoms : Df P HW.w K mg base 2 "freed_atoms" ["body"] (spP K 1 g_freed_atoms)) (d_least_next : Df P HW.w K mg base 3 "least_next" ["states", "many"] (spP K 2 g_least_next)) (d_numbering : Df P HW.w K mg base 1 "numbering" ["terms", "many"] (spP K 2 g_numbering)) (d_renamed : Df P HW.w K mg base 1 "renamed" ["terms", "names"] (spP K 2 g_renamed)) (d_renamed_atoms : Df P HW.w K mg base 2 "renamed_atoms" ["body", "names"] (spP K 2 g_renamed_atoms)) : FnOk P HW.w K mg base CX0 4 f fd ["query"] (spP K 1 g_least_form) :=
  fn_pure F sc_least_form g_least_form (by decide) (fun cdv A outer s H E hr => ⟨b_least_form, (pssd_cons (psd_asgG (pd_v 0) (pgd_tup rfl (pgsd_cons (pgd_name 6 sc_least_form.nd) (pgsd_cons (pgd_name 7 sc_least_form.nd) pgsd_nil))))
      (pssd_cons (psd_set 1 (pd_c d_numbering (hr.mono (by decide)) (pad_cons (pd_c d_freed (hr.mono (by decide)) (pad_cons (pd_v 6) pad_nil)) (pad_cons pd_int pad_nil))) sc_least_form.nd)
      (pssd_cons (psd_set 2 (pd_b cd_len (by rfl) T.z_len (pad_cons (pd_v 1) pad_nil)) sc_least_form.nd)
      (pssd_cons (psd_set 3 (PEF.val (pf_disp1N hr.units (pd_c d_renamed_atoms (hr.mono (by decide)) (pad_cons (pd_c d_freed_atoms (hr.mono (by decide)) (pad_cons (pd_v 7) pad_nil)) (pad_cons (pd_v 1) pad_nil))) pd_bl)) sc_least_form.nd)
      (pssd_cons (psd_setF 4 (pf_lst pad_nil) sc_least_form.nd)
      (pssd_cons (psd_for PassesOwn.never rfl (pid_t (pd_v 7)) (pgd_name 5 sc_least_form.nd) (pssd_cons (psd_asgG (pd_c d_least_next (hr.mono (by decide)) (pad_cons (pd_v 3) (pad_cons (pd_v 2) pad_nil))) (pgd_tup rfl (pgsd_cons (pgd_name 8 sc_least_form.nd) (pgsd_cons (pgd_name 3 sc_least_form.nd) pgsd_nil))))
      (pssd_cons (psd_app 4 (pd_v 8))
      (pssd_one (psd_set 2 (pd_b (cd_maxL hr.units) (by rfl) T.z_max (pad_cons (pd_op od_add (PEF.val (pf_lst (pad_cons (pd_v 2) pad_nil))) (PEF.val (pf_lc [("kind", 9), ("value", 10)] sc_least_form.nd (pid_t (pd_ix (pd_v 8) pd_int)) (blkOk_by (own := [("kind", 9), ("value", 10)]) (N := ["query", "names", "many", "states", "atoms", "_", "head", "body", "least", "kind", "value"]) (sc := defScope s_least_form) (by decide +kernel)) (fun _ _ _ _ _ => (pgd_tup rfl (pgsd_cons (pgd_name 9 sc_least_form.nd) (pgsd_cons (pgd_name 10 sc_least_form.nd) pgsd_nil)))) (fun _ _ _ _ _ => (ptsd_one (pt_cmpD (od_eq hr.units) (pd_v 9) pd_str))) (fun _ _ _ _ _ => (pd_op od_add (pd_v 10) pd_int))))) pad_nil)) sc_least_form.nd)))))
      (pssd_one (psd_ret (pd_tup (pad_cons (pd_c d_renamed (hr.mono (by decide)) (pad_cons (pd_c d_freed (hr.mono (by decide)) (pad_cons (pd_v 6) pad_nil)) (pad_cons (pd_v 1) pad_nil))) (pad_cons (pd_t cd_tuple (by rfl) T.z_tuple (pad_cons (pd_v 4) pad_nil)) pad_nil))))))))))), fun ds Pd _ h => h⟩)
abbrev s_law_same : Stmt := topS 26
theorem sc_law_same : FnScope ["_law_told", "_law_due", "_law_k"] ["_law_told", "_law_due"] (defScope s_law_same) := ⟨rfl, rfl, rfl, by decide +kernel, rfl, by decide +kernel, by decide +kernel⟩
theorem ok_law_same {f : Addr} {fd : FuncData} (F : Fun K "_law_same" "_law_same" s_law_same f fd) (T : Txt K mg) (n : Nat) (d_law_same : Df P HW.w K mg base (2 + n) "_law_same" ["_law_told", "_law_due"] (spP K 2 (g_law_same n))) (d_law_alike_kind : Df P HW.w K mg base 1 "_law_alike_kind" ["_law_told", "_law_due"] (spP K 2 g_law_alike_kind)) : FnOk P HW.w K mg base CX0 (2 + n + 1) f fd ["_law_told", "_law_due"] (spP K 2 (g_law_same (n + 1))) :=
  fn_pure F sc_law_same (g_law_same (n + 1)) (by decide) (fun cdv A outer s H E hr => ⟨(b_law_same (g_law_same n)), (pssd_cons (psd_if (pt_cmpD od_is (pd_v 1) pd_non) (pssd_one (psd_ret (pd_cmp od_is (pd_v 0) pd_non))) pssd_nil)
      (pssd_cons (psd_if (pt_notD (pt_valD (pd_c d_law_alike_kind (hr.mono (by omega)) (pad_cons (pd_v 0) (pad_cons (pd_v 1) pad_nil))))) (pssd_one (psd_ret pd_bl)) pssd_nil)
      (pssd_cons (psd_if (PWD.pt (pwd_or (pt_valD (pd_b cd_isi (by rfl) T.z_isinstance (pad_cons (pd_v 1) (pad_cons (pd_ty (n := "tuple") (by rfl) T.z_tuple) pad_nil)))) (pwd_or1 (pt_valD (pd_b cd_isi (by rfl) T.z_isinstance (pad_cons (pd_v 1) (pad_cons (pd_ty (n := "list") (by rfl) T.z_list) pad_nil))))))) (pssd_cons (psd_if (pt_cmpD (od_ne hr.units) (pd_b cd_len (by rfl) T.z_len (pad_cons (pd_v 0) pad_nil)) (pd_b cd_len (by rfl) T.z_len (pad_cons (pd_v 1) pad_nil))) (pssd_one (psd_ret pd_bl)) pssd_nil)
      (pssd_one (psd_ret (pd_cmp (od_eq hr.units) (pd_b cd_len (by rfl) T.z_len (pad_cons (PEF.val (pf_lc [("_law_k", 2)] sc_law_same.nd (pid_range1 (by rfl) T.z_range (pad_cons (pd_b cd_len (by rfl) T.z_len (pad_cons (pd_v 1) pad_nil)) pad_nil)) (blkOk_by (own := [("_law_k", 2)]) (N := ["_law_told", "_law_due", "_law_k"]) (sc := defScope s_law_same) (by decide +kernel)) (fun _ _ _ _ _ => (pgd_name 2 sc_law_same.nd)) (fun _ _ _ _ _ => (ptsd_one (pt_notD (pt_valD (pd_c d_law_same (hr.mono (by omega)) (pad_cons (pd_ix (pd_v 0) (pd_v 2)) (pad_cons (pd_ix (pd_v 1) (pd_v 2)) pad_nil))))))) (fun _ _ _ _ _ => (pd_v 2)))) pad_nil)) pd_int)))) pssd_nil)
      (pssd_cons (psd_if (pt_valD (pd_b cd_isi (by rfl) T.z_isinstance (pad_cons (pd_v 1) (pad_cons (pd_ty (n := "str") (by rfl) T.z_str) pad_nil)))) (pssd_one (psd_ret (pd_and (pd_b cd_isi (by rfl) T.z_isinstance (pad_cons (pd_v 0) (pad_cons (pd_ty (n := "str") (by rfl) T.z_str) pad_nil))) (pd_one (pd_cmp (od_eq hr.units) (pd_v 0) (pd_v 1)))))) pssd_nil)
      (pssd_one (psd_ret (pd_and (pd_b cd_isi (by rfl) T.z_isinstance (pad_cons (pd_v 0) (pad_cons (pd_ty (n := "int") (by rfl) T.z_int) pad_nil))) (pd_and (pd_cmp (od_eq hr.units) (pd_b cd_isi (by rfl) T.z_isinstance (pad_cons (pd_v 0) (pad_cons (pd_ty (n := "bool") (by rfl) T.z_bool) pad_nil))) (pd_b cd_isi (by rfl) T.z_isinstance (pad_cons (pd_v 1) (pad_cons (pd_ty (n := "bool") (by rfl) T.z_bool) pad_nil)))) (pd_one (pd_cmp (od_eq hr.units) (pd_v 0) (pd_v 1))))))))))), fun ds Pd _ h => h⟩)
abbrev s_law : Stmt := topS 28
theorem sc_law : FnScope ["_law_script", "_law_world_here", "_law_one", "_law_box_here", "_law_way", "_law_mate", "_law_told", "_law_other", "_law_twin_here"] ["_law_script"] (defScope s_law) := ⟨rfl, rfl, rfl, by decide +kernel, rfl, by decide +kernel, by decide +kernel⟩
theorem ok_law {f : Addr} {fd : FuncData} (F : Fun K "law" "law" s_law f fd) (T : Txt K mg) (d_law_box : Df P HW.w K mg base 1 "_law_box" ["_law_script", "_law_place"] (spF K 2 g_law_box)) (d_law_changed : Df P HW.w K mg base 3 "_law_changed" ["_law_box_here", "_law_the_query", "_law_numbers"] (spI K 2 g_law_changed)) (d_law_is_renaming : Df P HW.w K mg base 3 "_law_is_renaming" ["_law_one", "_law_mate"] (spP K 2 g_law_is_renaming)) (d_law_least : Df P HW.w K mg base 3 "_law_least" ["_law_the_query"] (spP K 1 g_law_least)) (d_law_query : Df P HW.w K mg base 3 "_law_query" ["_law_box_here", "_law_world_here", "_law_most"] (spI K 2 g_law_query)) (d_law_same : Df P HW.w K mg base 10 "_law_same" ["_law_told", "_law_due"] (spP K 2 (g_law_same 8))) (d_law_take : Df P HW.w K mg base 1 "_law_take" ["_law_box_here", "_law_many_here"] (spI K 1 g_law_take)) (d_law_twin : Df P HW.w K mg base 3 "_law_twin" ["_law_box_here", "_law_the_query"] (spI K 1 g_law_twin)) (d_law_world : Df P HW.w K mg base 3 "_law_world" ["_law_box_here", "_law_kind", "_law_caps"] (spI K 2 g_law_world)) (d_least_form : Df P HW.w K mg base 4 "least_form" ["query"] (spP K 1 g_least_form)) (k_least_form_query : Dk P HW.w K mg base 4 "least_form" ["query"] ["query"] [0] (spP K 1 g_least_form)) : FnOk P HW.w K mg base CX0 11 f fd ["_law_script"] (spP K 1 g_law) :=
  fn_pure F sc_law g_law (by decide) (fun cdv A outer s H E hr => ⟨b_law, (pssd_cons (psd_set 1 (pd_iT d_law_world (hr.mono (by decide)) (pf_c d_law_box (hr.mono (by decide)) (pad_cons (pd_v 0) (pad_cons pd_int pad_nil))) (pad_cons pd_str (pad_cons (PEF.val (pf_lst pad_nil)) pad_nil))) sc_law.nd)
      (pssd_cons (psd_set 2 (pd_iT d_law_query (hr.mono (by decide)) (pf_c d_law_box (hr.mono (by decide)) (pad_cons (pd_v 0) (pad_cons pd_int pad_nil))) (pad_cons (pd_v 1) (pad_cons pd_int pad_nil))) sc_law.nd)
      (pssd_cons (psd_setF 3 (pf_c d_law_box (hr.mono (by decide)) (pad_cons (pd_v 0) (pad_cons pd_int pad_nil))) sc_law.nd)
      (pssd_cons (psd_set 4 (pd_i 3 d_law_take (hr.mono (by decide)) (pad_cons pd_int pad_nil)) sc_law.nd)
      (pssd_cons (psd_set 5 (pd_v 2) sc_law.nd)
      (pssd_cons (psd_if (PWD.pt (pwd_or (pt_cmpD (od_eq hr.units) (pd_v 4) pd_int) (pwd_or1 (pt_cmpD (od_eq hr.units) (pd_v 4) pd_int)))) (pssd_one (psd_set 5 (pd_i 3 d_law_changed (hr.mono (by decide)) (pad_cons (pd_v 2) (pad_cons (pd_ix (pd_v 1) pd_int) pad_nil))) sc_law.nd)) pssd_nil)
      (pssd_cons (psd_if (pt_cmpD (od_eq hr.units) (pd_v 4) pd_int) (pssd_one (psd_set 5 (pd_i 3 d_law_query (hr.mono (by decide)) (pad_cons (pd_v 1) (pad_cons pd_int pad_nil))) sc_law.nd)) pssd_nil)
      (pssd_cons (psd_if (PWD.pt (pwd_or (pt_cmpD (od_eq hr.units) (pd_v 4) pd_int) (pwd_or1 (pt_cmpD (od_eq hr.units) (pd_v 4) pd_int)))) (pssd_one (psd_set 5 (pd_i 3 d_law_twin (hr.mono (by decide)) (pad_cons (pd_v 5) pad_nil)) sc_law.nd)) pssd_nil)
      (pssd_cons (psd_set 6 (pd_k k_least_form_query (hr.mono (by decide)) (pkd_cons (pd_v 2) pkd_nil)) sc_law.nd)
      (pssd_cons (psd_if (pt_notD (pt_valD (pd_c d_law_same (hr.mono (by decide)) (pad_cons (pd_v 6) (pad_cons (pd_c d_law_least (hr.mono (by decide)) (pad_cons (pd_v 2) pad_nil)) pad_nil))))) (pssd_one (psd_ret pd_bl)) pssd_nil)
      (pssd_cons (psd_set 7 (pd_c d_least_form (hr.mono (by decide)) (pad_cons (pd_v 5) pad_nil)) sc_law.nd)
      (pssd_cons (psd_if (pt_notD (pt_valD (pd_c d_law_same (hr.mono (by decide)) (pad_cons (pd_v 7) (pad_cons (pd_c d_law_least (hr.mono (by decide)) (pad_cons (pd_v 5) pad_nil)) pad_nil))))) (pssd_one (psd_ret pd_bl)) pssd_nil)
      (pssd_cons (psd_if (pt_cmpD (od_ne hr.units) (pd_cmp (od_eq hr.units) (pd_v 6) (pd_v 7)) (pd_c d_law_is_renaming (hr.mono (by decide)) (pad_cons (pd_v 2) (pad_cons (pd_v 5) pad_nil)))) (pssd_one (psd_ret pd_bl)) pssd_nil)
      (pssd_cons (psd_set 8 (pd_iT d_law_twin (hr.mono (by decide)) (pf_c d_law_box (hr.mono (by decide)) (pad_cons (pd_v 0) (pad_cons pd_int pad_nil))) (pad_cons (pd_v 2) pad_nil)) sc_law.nd)
      (pssd_one (psd_ret (pd_and (pd_c d_law_same (hr.mono (by decide)) (pad_cons (pd_c d_least_form (hr.mono (by decide)) (pad_cons (pd_v 8) pad_nil)) (pad_cons (pd_v 6) pad_nil))) (pd_one (pd_c d_law_same (hr.mono (by decide)) (pad_cons (pd_c d_least_form (hr.mono (by decide)) (pad_cons (pd_v 6) pad_nil)) (pad_cons (pd_v 6) pad_nil))))))))))))))))))))), fun ds Pd _ h => h⟩)
end
end LK36

/-! K36P: the least form of a query: numbering by first occurrence, the greedy choice, the least of all renamings. -/
namespace LK36
open PySem L2 DL

abbrev Tm := Str × Int
abbrev Atm := Str × List Tm
abbrev tlt : Tm → Tm → Bool := pairB (fun a b : Str => decide (a.cps.toList < b.cps.toList)) (fun a b : Int => decide (a < b))
abbrev alt : Atm → Atm → Bool := pairB (fun a b : Str => decide (a.cps.toList < b.cps.toList)) (lexB tlt)
def dTm (t : Tm) : D := .tup [.str t.1, .int t.2]
def dTms (ts : List Tm) : D := .tup (ts.map dTm)
def dAtm (a : Atm) : D := .tup [.str a.1, dTms a.2]
def dBody (b : List Atm) : D := .tup (b.map dAtm)
theorem enc_tm : Enc dTm tlt 2 := enc_pair enc_str enc_int
theorem enc_tms : Enc dTms (lexB tlt) 3 := enc_tup enc_tm
theorem enc_atm : Enc dAtm alt 4 := enc_pair enc_str enc_tms
theorem enc_body : Enc dBody (lexB alt) 5 := enc_tup enc_atm
theorem tso : SO tlt := enc_tm.so
theorem lso : SO (lexB tlt) := enc_tms.so
theorem aso : SO alt := enc_atm.so
theorem bso : SO (lexB alt) := enc_body.so

abbrev fT (i : Int) : Tm := (("free" : Str), i)
abbrev vT (i : Int) : Tm := (("var" : Str), i)
theorem nd1 {α : Type} (a : α) : [a].Nodup := List.nodup_cons.mpr ⟨fun h => (nomatch h), List.nodup_nil⟩
/-! ### numbering by first occurrence -/
def ren (r : Int → Int) (t : Tm) : Tm := if t.1 = "free" then vT (r t.2) else t
def flA (F : List Int) : List Tm → List Int
  | [] => F
  | t :: ts => if t.1 = "free" ∧ t.2 ∉ F then flA (F ++ [t.2]) ts else flA F ts
def nren (many : Int) (F : List Int) (t : Tm) : Tm := if t.1 = "free" ∧ t.2 ∈ F then vT (many + (F.idxOf t.2 : Nat)) else t
theorem flA_pre : ∀ (ts : List Tm) (F : List Int), ∃ e, flA F ts = F ++ e
  | [], F => ⟨[], by rw [List.append_nil]; rfl⟩
  | t :: ts, F => by
    unfold flA
    split
    · obtain ⟨e, h⟩ := flA_pre ts (F ++ [t.2])
      exact ⟨t.2 :: e, by rw [h, List.append_assoc]; rfl⟩
    · exact flA_pre ts F
theorem flA_nodup : ∀ (ts : List Tm) (F : List Int), F.Nodup → (flA F ts).Nodup
  | [], F, h => h
  | t :: ts, F, h => by
    unfold flA
    split
    · rename_i c
      refine flA_nodup ts _ ?_
      rw [List.nodup_append]
      exact ⟨h, nd1 _, fun a ha b hb => by rw [List.mem_singleton.mp hb]; exact fun z => c.2 (z ▸ ha)⟩
    · exact flA_nodup ts F h
theorem flA_mem : ∀ (ts : List Tm) (F : List Int) (i : Int), i ∈ flA F ts ↔ i ∈ F ∨ fT i ∈ ts
  | [], F, i => by simp [flA]
  | t :: ts, F, i => by
    unfold flA
    obtain ⟨k, v⟩ := t
    split
    · rename_i c
      rw [flA_mem ts, List.mem_append, List.mem_singleton, List.mem_cons]
      obtain ⟨c1, c2⟩ := c
      dsimp only at c1 c2
      subst c1
      constructor
      · rintro ((h | h) | h)
        · exact .inl h
        · subst h; exact .inr (.inl rfl)
        · exact .inr (.inr h)
      · rintro (h | h | h)
        · exact .inl (.inl h)
        · cases h; exact .inl (.inr rfl)
        · exact .inr h
    · rename_i c
      rw [flA_mem ts, List.mem_cons]
      constructor
      · rintro (h | h)
        · exact .inl h
        · exact .inr (.inr h)
      · rintro (h | h | h)
        · exact .inl h
        · cases h
          by_cases q : i ∈ F
          · exact .inl q
          · exact absurd ⟨rfl, q⟩ c
        · exact .inr h
theorem idxOf_pre {F e : List Int} {i : Int} (h : i ∈ F) : (F ++ e).idxOf i = F.idxOf i := by rw [List.idxOf_append, if_pos h]
theorem idxOf_new {F e : List Int} {i : Int} (h : i ∉ F) : (F ++ i :: e).idxOf i = F.length := by
  rw [List.idxOf_append, if_neg h, List.idxOf_cons_self]; simp
/-- numbers by first occurrence are the least, and nothing else reaches them -/
theorem num_min (many : Int) (r : Int → Int) : ∀ (ts : List Tm) (F : List Int), (∀ i ∈ F, r i = many + (F.idxOf i : Nat)) → F.Nodup →
    (∀ i j, (i ∈ F ∨ fT i ∈ ts) → (j ∈ F ∨ fT j ∈ ts) → r i = r j → i = j) → (∀ i, fT i ∈ ts → many ≤ r i) →
    leB (lexB tlt) (ts.map (nren many (flA F ts))) (ts.map (ren r)) = true ∧ (ts.map (nren many (flA F ts)) = ts.map (ren r) → ∀ i ∈ flA F ts, r i = many + ((flA F ts).idxOf i : Nat))
  | [], F, hF, _, _, _ => ⟨rfl, fun _ => hF⟩
  | t :: ts, F, hF, hn, inj, lo => by
    obtain ⟨k, v⟩ := t
    have eq_step : ∀ (G : List Int), nren many G (k, v) = ren r (k, v) →
        (leB (lexB tlt) (ts.map (nren many G)) (ts.map (ren r)) = true ∧ (ts.map (nren many G) = ts.map (ren r) → ∀ i ∈ G, r i = many + (G.idxOf i : Nat))) →
        leB (lexB tlt) (((k, v) :: ts).map (nren many G)) (((k, v) :: ts).map (ren r)) = true ∧ (((k, v) :: ts).map (nren many G) = ((k, v) :: ts).map (ren r) → ∀ i ∈ G, r i = many + (G.idxOf i : Nat)) := fun G e h => by
      rw [List.map_cons, List.map_cons, e]
      refine ⟨?_, fun q => h.2 (List.cons.inj q).2⟩
      have := h.1
      unfold leB at this ⊢
      show (!(if ren r (k, v) = ren r (k, v) then lexB tlt (ts.map (ren r)) (ts.map (nren many G)) else _)) = true
      rw [if_pos rfl]; exact this
    by_cases c : k = "free" ∧ v ∉ F
    · have ef : flA F ((k, v) :: ts) = flA (F ++ [v]) ts := by
        show (if (k, v).1 = "free" ∧ (k, v).2 ∉ F then _ else _) = _
        rw [if_pos c]
      obtain ⟨rfl, hv⟩ := c
      rw [ef]
      obtain ⟨e, he⟩ := flA_pre ts (F ++ [v])
      have he' : flA (F ++ [v]) ts = F ++ v :: e := by rw [he, List.append_assoc]; rfl
      have e1 : nren many (flA (F ++ [v]) ts) (fT v) = vT (many + (F.length : Nat)) := by
        unfold nren
        rw [if_pos ⟨rfl, by rw [he']; simp⟩, he', idxOf_new hv]
      have e2 : ren r (fT v) = vT (r v) := by unfold ren; rw [if_pos rfl]
      have low := lo v List.mem_cons_self
      have ge : many + (F.length : Nat) ≤ r v := by
        apply Decidable.byContradiction
        intro hlt
        have hk : (r v - many).toNat < F.length := by omega
        have hm : F[(r v - many).toNat] ∈ F := List.getElem_mem hk
        have h1 := hF _ hm
        have h2 : F.idxOf F[(r v - many).toNat] = (r v - many).toNat := List.Nodup.idxOf_getElem hn _ hk
        rw [h2] at h1
        have h3 : r F[(r v - many).toNat] = r v := by omega
        have h4 := inj _ v (.inl hm) (.inr List.mem_cons_self) h3
        rw [h4] at hm
        exact hv hm
      by_cases q : r v = many + (F.length : Nat)
      · refine eq_step _ (by rw [e1, e2, q]) (num_min many r ts (F ++ [v]) ?_ ?_ ?_ ?_)
        · intro i hi
          rcases List.mem_append.mp hi with hi | hi
          · rw [idxOf_pre hi]; exact hF i hi
          · rw [List.mem_singleton.mp hi, idxOf_new hv]; exact q
        · rw [List.nodup_append]
          exact ⟨hn, nd1 _, fun a ha b hb => by rw [List.mem_singleton.mp hb]; exact fun z => hv (z ▸ ha)⟩
        · have conv : ∀ i, (i ∈ F ++ [v] ∨ fT i ∈ ts) → (i ∈ F ∨ fT i ∈ (fT v) :: ts) := fun i h => by
            rcases h with h | h
            · rcases List.mem_append.mp h with h | h
              · exact .inl h
              · rw [List.mem_singleton.mp h]; exact .inr List.mem_cons_self
            · exact .inr (List.mem_cons_of_mem _ h)
          exact fun i j hi hj => inj i j (conv i hi) (conv j hj)
        · exact fun i hi => lo i (List.mem_cons_of_mem _ hi)
      · rw [List.map_cons, List.map_cons, e1, e2]
        have ne : vT (r v) ≠ vT (many + (F.length : Nat)) := fun z => q (congrArg Prod.snd z)
        refine ⟨?_, fun z => absurd (List.cons.inj z).1.symm ne⟩
        unfold leB
        show (!(if vT (r v) = vT (many + (F.length : Nat)) then _ else tlt (vT (r v)) (vT (many + (F.length : Nat))))) = true
        rw [if_neg ne]
        unfold tlt pairB
        rw [if_pos rfl]
        have : ¬ r v < many + (F.length : Nat) := by omega
        show (!decide (r v < many + (F.length : Nat))) = true
        rw [decide_eq_false this]; rfl
    · have ef : flA F ((k, v) :: ts) = flA F ts := by
        show (if (k, v).1 = "free" ∧ (k, v).2 ∉ F then _ else _) = _
        rw [if_neg c]
      rw [ef]
      obtain ⟨e, he⟩ := flA_pre ts F
      refine eq_step _ ?_ (num_min many r ts F hF hn ?_ ?_)
      · by_cases h1 : k = "free"
        · have hv : v ∈ F := Decidable.byContradiction fun z => c ⟨h1, z⟩
          unfold nren ren
          rw [if_pos ⟨h1, by rw [he]; exact List.mem_append_left _ hv⟩, if_pos h1, he, idxOf_pre hv, hF v hv]
        · unfold nren ren
          rw [if_neg (fun z => h1 z.1), if_neg h1]
      · exact fun i j hi hj => inj i j (hi.imp id (List.mem_cons_of_mem _)) (hj.imp id (List.mem_cons_of_mem _))
      · exact fun i hi => lo i (List.mem_cons_of_mem _ hi)

/-! ### the greedy choice -/
def renA (r : Int → Int) (a : Atm) : Atm := (a.1, a.2.map (ren r))
def nrenA (many : Int) (F : List Int) (a : Atm) : Atm := (a.1, a.2.map (nren many F))
def Fr (s : List Atm) (i : Int) : Prop := ∃ b ∈ s, fT i ∈ b.2
/-- atom and rest that come up when one atom of s is put first -/
def Cand (many : Int) (s : List Atm) (a : Atm) (x : List Atm) : Prop := ∃ l b r, s = l ++ b :: r ∧ a = nrenA many (flA [] b.2) b ∧ x = (l ++ r).map (nrenA many (flA [] b.2))
structure Step (many : Int) (S : List (List Atm)) (a : Atm) (T : List (List Atm)) : Prop where
  mem : ∃ s ∈ S, ∃ x, Cand many s a x
  min : ∀ s ∈ S, ∀ b x, Cand many s b x → leB alt a b = true
  sound : ∀ x ∈ T, ∃ s ∈ S, Cand many s a x
  compl : ∀ s ∈ S, ∀ x, Cand many s a x → x ∈ T
structure NM (many : Int) (a : Atm) (many' : Int) : Prop where
  le : many ≤ many'
  lt : ∀ t ∈ a.2, t.1 = "var" → t.2 < many'
  eq : many' = many ∨ ∃ t ∈ a.2, t.1 = "var" ∧ many' = t.2 + 1
inductive Greedy : Int → List (List Atm) → List Atm → Prop
  | nil {many S} : Greedy many S []
  | cons {many S a T many' out} : Step many S a T → NM many a many' → Greedy many' T out → Greedy many S (a :: out)
def Vlt (many : Int) (s : List Atm) : Prop := ∀ b ∈ s, ∀ t ∈ b.2, t.1 = "var" → t.2 < many

theorem nvar (many : Int) (F : List Int) (t : Tm) (h : (nren many F t).1 = "var") (lo : t.1 = "var" → t.2 < many) (hF : True) : (nren many F t).2 < many + (F.length : Nat) := by
  unfold nren at h ⊢
  split
  · rename_i c
    have := List.idxOf_lt_length_iff.mpr c.2
    show many + (F.idxOf t.2 : Nat) < _
    omega
  · rename_i c
    rw [if_neg c] at h
    have := lo h
    omega
/-- the number behind -/
theorem nm_eq {many many' : Int} {b : Atm} (lo : ∀ t ∈ b.2, t.1 = "var" → t.2 < many) (h : NM many (nrenA many (flA [] b.2) b) many') : many' = many + ((flA [] b.2).length : Nat) := by
  have up : many' ≤ many + ((flA [] b.2).length : Nat) := by
    rcases h.eq with e | ⟨t, ht, hv, e⟩
    · omega
    · obtain ⟨u, hu, rfl⟩ := List.mem_map.mp ht
      have := nvar many (flA [] b.2) u hv (lo u hu) trivial
      omega
  have dn : many + ((flA [] b.2).length : Nat) ≤ many' := by
    cases q : (flA [] b.2).length with
    | zero => have := h.le; omega
    | succ n =>
      have hk : n < (flA [] b.2).length := by omega
      have hm : (flA [] b.2)[n] ∈ flA [] b.2 := List.getElem_mem hk
      have h1 := (flA_mem b.2 [] _).mp hm
      have h2 : fT (flA [] b.2)[n] ∈ b.2 := h1.resolve_left (by simp)
      have h3 : nren many (flA [] b.2) (fT (flA [] b.2)[n]) = vT (many + (n : Nat)) := by
        unfold nren
        rw [if_pos ⟨rfl, hm⟩, List.Nodup.idxOf_getElem (flA_nodup _ _ List.nodup_nil) _ hk]
      have := h.lt _ (List.mem_map.mpr ⟨_, h2, h3⟩) rfl
      show many + ((n + 1 : Nat) : Int) ≤ many'
      have : many + (n : Nat) < many' := this
      omega
  omega
theorem nren_ren {many : Int} {r : Int → Int} {F : List Int} (h : ∀ i ∈ F, r i = many + (F.idxOf i : Nat)) (t : Tm) : ren r (nren many F t) = ren r t := by
  unfold nren
  split
  · rename_i c
    unfold ren
    rw [if_neg (show ¬ ("var" : Str) = "free" by decide), if_pos c.1, h _ c.2]
  · rfl
theorem nrenA_ren {many : Int} {r : Int → Int} {F : List Int} (h : ∀ i ∈ F, r i = many + (F.idxOf i : Nat)) (a : Atm) : renA r (nrenA many F a) = renA r a := by
  unfold renA nrenA
  rw [List.map_map]
  exact congrArg (Prod.mk a.1) (List.map_congr_left fun t _ => nren_ren h t)
theorem map_nrenA_ren {many : Int} {r : Int → Int} {F : List Int} (h : ∀ i ∈ F, r i = many + (F.idxOf i : Nat)) (s : List Atm) : (s.map (nrenA many F)).map (renA r) = s.map (renA r) := by
  rw [List.map_map]
  exact List.map_congr_left fun t _ => nrenA_ren h t
theorem nren_free {many : Int} {F : List Int} {t : Tm} {i : Int} (h : nren many F t = (fT i)) : t = (fT i) ∧ i ∉ F := by
  unfold nren at h
  split at h
  · exact absurd (show ("var" : Str) = "free" from congrArg Prod.fst h) (by decide)
  · rename_i c
    subst h
    exact ⟨rfl, fun z => c ⟨rfl, z⟩⟩
theorem fr_next {many : Int} {F : List Int} {s : List Atm} {i : Int} (h : Fr (s.map (nrenA many F)) i) : Fr s i ∧ i ∉ F := by
  obtain ⟨b, hb, hi⟩ := h
  obtain ⟨c, hc, rfl⟩ := List.mem_map.mp hb
  obtain ⟨t, ht, e⟩ := List.mem_map.mp hi
  obtain ⟨e1, e2⟩ := nren_free e
  subst e1
  exact ⟨⟨c, hc, ht⟩, e2⟩
theorem fr_next' {many : Int} {F : List Int} {s : List Atm} {i : Int} (h : Fr s i) (hi : i ∉ F) : Fr (s.map (nrenA many F)) i := by
  obtain ⟨b, hb, ht⟩ := h
  refine ⟨_, List.mem_map.mpr ⟨b, hb, rfl⟩, List.mem_map.mpr ⟨_, ht, ?_⟩⟩
  unfold nren
  rw [if_neg (fun z => hi z.2)]
theorem vlt_next {many : Int} {F : List Int} {s : List Atm} (h : Vlt many s) : Vlt (many + (F.length : Nat)) (s.map (nrenA many F)) := by
  intro b hb t ht hv
  obtain ⟨c, hc, rfl⟩ := List.mem_map.mp hb
  obtain ⟨u, hu, rfl⟩ := List.mem_map.mp ht
  exact nvar many F u hv (h c hc u hu) trivial
theorem sort_head {xs : List Atm} {a0 : Atm} {rest : List Atm} (h : sortB alt xs = a0 :: rest) : ∃ l r, xs = l ++ a0 :: r ∧ rest = sortB alt (l ++ r) := by
  have hp := sortB_perm (lt := alt) xs
  have hm : a0 ∈ xs := hp.mem_iff.mp (by rw [h]; exact List.mem_cons_self)
  obtain ⟨l, r, e⟩ := List.append_of_mem hm
  refine ⟨l, r, e, ?_⟩
  have hs := sortB_sorted aso xs
  rw [h] at hs
  rw [h, e] at hp
  have p2 : (a0 :: rest).Perm (a0 :: (l ++ r)) := hp.trans List.perm_middle
  exact aso.sorted_unique (p2.cons_inv.trans (sortB_perm _).symm) (List.pairwise_cons.mp hs).2 (sortB_sorted aso _)
theorem map_split {α β : Type} {f : α → β} {s : List α} {l : List β} {a : β} {r : List β} (h : s.map f = l ++ a :: r) : ∃ l' b r', s = l' ++ b :: r' ∧ l = l'.map f ∧ a = f b ∧ r = r'.map f := by
  obtain ⟨l', t, e, e1, e2⟩ := List.map_eq_append_iff.mp h
  obtain ⟨b, r', e3, e4, e5⟩ := List.map_eq_cons_iff.mp e2
  exact ⟨l', b, r', by rw [e, e3], e1.symm, e4.symm, e5.symm⟩
theorem le_cons {a a0 : Atm} {x y : List Atm} (h : leB alt a a0 = true) (k : a0 = a → leB (lexB alt) x y = true) : leB (lexB alt) (a :: x) (a0 :: y) = true := by
  unfold leB at *
  show (!(if a0 = a then lexB alt y x else alt a0 a)) = true
  by_cases e : a0 = a
  · rw [if_pos e]; exact k e
  · rw [if_neg e]; exact h
theorem lower {many : Int} {S : List (List Atm)} {out : List Atm} (G : Greedy many S out) : ∀ s ∈ S, s.length = out.length → Vlt many s → ∀ r : Int → Int,
    (∀ i j, Fr s i → Fr s j → r i = r j → i = j) → (∀ i, Fr s i → many ≤ r i) → leB (lexB alt) out (sortB alt (s.map (renA r))) = true := by
  induction G with
  | nil =>
    intro s _ hl _ r _ _
    cases s with
    | nil =>
      show leB (lexB alt) [] (sortB alt []) = true
      have : sortB alt ([] : List Atm) = [] := by unfold sortB; simp
      rw [this]; rfl
    | cons _ _ => cases hl
  | @cons many S a T many' out st nm G ih =>
    intro s hs hl hv r inj lo
    cases q : sortB alt (s.map (renA r)) with
    | nil =>
      have := (sortB_perm (lt := alt) (s.map (renA r))).length_eq
      rw [q, List.length_map, hl] at this
      cases this
    | cons a0 rest =>
      obtain ⟨l, r', e, er⟩ := sort_head q
      obtain ⟨l', b, r'', es, e1, e2, e3⟩ := map_split e
      have cand : Cand many s (nrenA many (flA [] b.2) b) ((l' ++ r'').map (nrenA many (flA [] b.2))) := ⟨l', b, r'', es, rfl, rfl⟩
      have frb : ∀ i, fT i ∈ b.2 → Fr s i := fun i h => ⟨b, by rw [es]; simp, h⟩
      obtain ⟨m1, m2⟩ := num_min many r b.2 [] (fun _ h => nomatch h) List.nodup_nil (fun i j hi hj => inj i j (frb i (hi.resolve_left (by simp))) (frb j (hj.resolve_left (by simp)))) (fun i hi => lo i (frb i hi))
      have le0 : leB alt (nrenA many (flA [] b.2) b) a0 = true := by
        rw [e2]
        unfold leB at m1 ⊢
        unfold nrenA renA
        show (!(if b.1 = b.1 then lexB tlt (b.2.map (ren r)) (b.2.map (nren many (flA [] b.2))) else _)) = true
        rw [if_pos rfl]; exact m1
      refine le_cons (aso.le_trans (st.min s hs _ _ cand) le0) fun ea => ?_
      have eq1 : a = nrenA many (flA [] b.2) b := aso.le_antisymm (st.min s hs _ _ cand) (by rw [← ea]; exact le0)
      have agree : ∀ i ∈ flA [] b.2, r i = many + ((flA [] b.2).idxOf i : Nat) := by
        refine m2 ?_
        have : nrenA many (flA [] b.2) b = renA r b := by rw [← eq1, ← ea, e2]
        exact congrArg Prod.snd this
      have hT := st.compl s hs _ (by rw [eq1]; exact cand)
      have hvb : ∀ t ∈ b.2, t.1 = "var" → t.2 < many := hv b (by rw [es]; simp)
      have hm' : many' = many + ((flA [] b.2).length : Nat) := nm_eq hvb (by rw [← eq1]; exact nm)
      have sub : ∀ i, Fr (l' ++ r'') i → Fr s i := fun i ⟨c, hc, h⟩ => ⟨c, by rw [es]; rcases List.mem_append.mp hc with h | h <;> simp [h], h⟩
      have := ih _ hT (by
          rw [List.length_map]
          have := hl
          rw [es] at this
          simp at this ⊢
          omega) (by
          rw [hm']
          exact vlt_next fun c hc => hv c (by rw [es]; rcases List.mem_append.mp hc with h | h <;> simp [h])) r (fun i j hi hj => inj i j (sub i (fr_next hi).1) (sub j (fr_next hj).1)) (fun i hi => by
          obtain ⟨h1, h2⟩ := fr_next hi
          have lo1 := lo i (sub i h1)
          apply Decidable.byContradiction
          intro hlt
          have hk : (r i - many).toNat < (flA [] b.2).length := by omega
          have hmm : (flA [] b.2)[(r i - many).toNat] ∈ flA [] b.2 := List.getElem_mem hk
          have h3 := agree _ hmm
          rw [List.Nodup.idxOf_getElem (flA_nodup _ _ List.nodup_nil) _ hk] at h3
          have h4 : r (flA [] b.2)[(r i - many).toNat] = r i := by omega
          have h5 := inj _ i (frb _ (((flA_mem b.2 [] _).mp hmm).resolve_left (by simp))) (sub i h1) h4
          rw [h5] at hmm
          exact h2 hmm)
      rw [map_nrenA_ren agree] at this
      rw [er, e1, e3, ← List.map_append]
      exact this
/-- the free ones, each once -/
def frs (s : List Atm) : List Int := flA [] (s.flatMap (·.2))
theorem frs_mem {s : List Atm} {i : Int} : i ∈ frs s ↔ Fr s i := by
  unfold frs Fr
  rw [flA_mem]
  simp [List.mem_flatMap]
theorem frs_nodup (s : List Atm) : (frs s).Nodup := flA_nodup _ _ List.nodup_nil
theorem frs_len {many : Int} {s l r : List Atm} {b : Atm} (e : s = l ++ b :: r) : (frs s).length = (flA [] b.2).length + (frs ((l ++ r).map (nrenA many (flA [] b.2)))).length := by
  have p : (frs s).Perm (flA [] b.2 ++ frs ((l ++ r).map (nrenA many (flA [] b.2)))) := by
    refine (List.perm_ext_iff_of_nodup (frs_nodup s) ?_).mpr fun i => ?_
    · rw [List.nodup_append]
      refine ⟨flA_nodup _ _ List.nodup_nil, frs_nodup _, fun a ha c hc z => ?_⟩
      subst z
      exact (fr_next (frs_mem.mp hc)).2 ha
    · rw [frs_mem, List.mem_append, frs_mem, flA_mem]
      constructor
      · rintro ⟨c, hc, h⟩
        by_cases q : i ∈ flA [] b.2
        · exact .inl ((flA_mem _ _ _).mp q)
        · refine .inr (fr_next' ⟨c, ?_, h⟩ q)
          rw [e] at hc
          rcases List.mem_append.mp hc with hc | hc
          · exact List.mem_append_left _ hc
          · rcases List.mem_cons.mp hc with rfl | hc
            · exact absurd ((flA_mem _ _ _).mpr (.inr h)) q
            · exact List.mem_append_right _ hc
      · rintro ((h | h) | h)
        · cases h
        · exact ⟨b, by rw [e]; simp, h⟩
        · obtain ⟨⟨c, hc, h⟩, _⟩ := fr_next h
          exact ⟨c, by rw [e]; rcases List.mem_append.mp hc with h | h <;> simp [h], h⟩
  rw [p.length_eq, List.length_append]
theorem ren_congr {r r' : Int → Int} {s : List Atm} (h : ∀ i, Fr s i → r i = r' i) : s.map (renA r) = s.map (renA r') := by
  refine List.map_congr_left fun a ha => ?_
  unfold renA
  refine congrArg (Prod.mk a.1) (List.map_congr_left fun t ht => ?_)
  unfold ren
  split
  · rename_i c
    have : t = fT t.2 := Prod.ext c rfl
    rw [h t.2 ⟨a, ha, this ▸ ht⟩]
  · rfl
theorem sort_cons {a : Atm} {xs ys : List Atm} (p : xs.Perm (a :: ys)) (h : ∀ y ∈ ys, leB alt a y = true) : sortB alt xs = a :: sortB alt ys := by
  refine aso.sorted_unique ((sortB_perm xs).trans (p.trans ((sortB_perm ys).symm.cons a))) (sortB_sorted aso xs) (List.pairwise_cons.mpr ⟨fun y hy => ?_, sortB_sorted aso ys⟩)
  exact h y ((sortB_perm ys).mem_iff.mp hy)
theorem attained {many : Int} {S : List (List Atm)} {out : List Atm} (G : Greedy many S out) : S ≠ [] → (∀ s ∈ S, s.length = out.length) → (∀ s ∈ S, Vlt many s) →
    ∃ s ∈ S, ∃ r : Int → Int, (∀ i j, Fr s i → Fr s j → r i = r j → i = j) ∧ (∀ i, Fr s i → many ≤ r i ∧ r i < many + ((frs s).length : Nat)) ∧ out = sortB alt (s.map (renA r)) := by
  induction G with
  | nil =>
    intro hne hl _
    obtain ⟨s, hs⟩ := List.exists_mem_of_ne_nil _ hne
    have e : s = [] := List.length_eq_zero_iff.mp (hl s hs)
    subst e
    exact ⟨[], hs, id, fun _ _ ⟨_, h, _⟩ => (nomatch h), fun _ ⟨_, h, _⟩ => (nomatch h), by show [] = sortB alt []; unfold sortB; simp⟩
  | @cons many S a T many' out st nm G ih =>
    intro hne hl hv
    obtain ⟨s0, hs0, x0, c0⟩ := st.mem
    have hT : T ≠ [] := fun z => by
      have := st.compl s0 hs0 x0 c0
      rw [z] at this
      cases this
    have lenT : ∀ x ∈ T, x.length = out.length := fun x hx => by
      obtain ⟨s, hs, l, b, r, e, _, e2⟩ := st.sound x hx
      have := hl s hs
      rw [e] at this
      rw [e2, List.length_map]
      simp at this ⊢
      omega
    have nmE : ∀ s ∈ S, ∀ l b r, s = l ++ b :: r → a = nrenA many (flA [] b.2) b → many' = many + ((flA [] b.2).length : Nat) := fun s hs l b r e ea =>
      nm_eq (hv s hs b (by rw [e]; simp)) (by rw [← ea]; exact nm)
    have vT : ∀ x ∈ T, Vlt many' x := fun x hx => by
      obtain ⟨s, hs, l, b, r, e, ea, e2⟩ := st.sound x hx
      rw [e2, nmE s hs l b r e ea]
      exact vlt_next fun c hc => hv s hs c (by rw [e]; rcases List.mem_append.mp hc with h | h <;> simp [h])
    obtain ⟨x, hx, r', inj', rng', eo⟩ := ih hT lenT vT
    obtain ⟨s, hs, l, b, r, e, ea, ex⟩ := st.sound x hx
    have hm := nmE s hs l b r e ea
    have hlen := frs_len (many := many) e
    rw [← ex] at hlen
    have frx : ∀ i, Fr s i → i ∉ flA [] b.2 → Fr x i := fun i ⟨c, hc, h⟩ q => by
      rw [ex]
      refine fr_next' ⟨c, ?_, h⟩ q
      rw [e] at hc
      rcases List.mem_append.mp hc with hc | hc
      · exact List.mem_append_left _ hc
      · rcases List.mem_cons.mp hc with rfl | hc
        · exact absurd ((flA_mem _ _ _).mpr (.inr h)) q
        · exact List.mem_append_right _ hc
    refine ⟨s, hs, fun i => if i ∈ flA [] b.2 then many + ((flA [] b.2).idxOf i : Nat) else r' i, fun i j hi hj q => ?_, fun i hi => ?_, ?_⟩
    · by_cases c1 : i ∈ flA [] b.2 <;> by_cases c2 : j ∈ flA [] b.2 <;> simp only [c1, c2, if_true, if_false] at q
      · have hk : (flA [] b.2).idxOf i = (flA [] b.2).idxOf j := by omega
        have e1 := List.getElem_idxOf (List.idxOf_lt_length_iff.mpr c1)
        have e2 := List.getElem_idxOf (List.idxOf_lt_length_iff.mpr c2)
        rw [← e1, ← e2]
        simp only [hk]
      · have := (rng' j (frx j hj c2)).1
        have := List.idxOf_lt_length_iff.mpr c1
        omega
      · have := (rng' i (frx i hi c1)).1
        have := List.idxOf_lt_length_iff.mpr c2
        omega
      · exact inj' i j (frx i hi c1) (frx j hj c2) q
    · dsimp only
      by_cases c1 : i ∈ flA [] b.2
      · rw [if_pos c1]
        have := List.idxOf_lt_length_iff.mpr c1
        omega
      · rw [if_neg c1]
        have := rng' i (frx i hi c1)
        omega
    · generalize hr : (fun i => if i ∈ flA [] b.2 then many + ((flA [] b.2).idxOf i : Nat) else r' i) = rr
      have agree : ∀ i ∈ flA [] b.2, rr i = many + ((flA [] b.2).idxOf i : Nat) := fun i hi => by rw [← hr]; exact if_pos hi
      have hb : renA rr b = a := by
        rw [ea]
        unfold renA nrenA
        refine congrArg (Prod.mk b.1) (List.map_congr_left fun t ht => ?_)
        unfold ren nren
        by_cases c1 : t.1 = "free"
        · have : t = fT t.2 := Prod.ext c1 rfl
          have hm2 : t.2 ∈ flA [] b.2 := (flA_mem _ _ _).mpr (.inr (this ▸ ht))
          rw [if_pos c1, if_pos ⟨c1, hm2⟩, agree _ hm2]
        · rw [if_neg c1, if_neg (fun z => c1 z.1)]
      have inj : ∀ i j, Fr s i → Fr s j → rr i = rr j → i = j := fun i j hi hj q => by
        rw [← hr] at q
        by_cases c1 : i ∈ flA [] b.2 <;> by_cases c2 : j ∈ flA [] b.2 <;> simp only [c1, c2, if_true, if_false] at q
        · have hk : (flA [] b.2).idxOf i = (flA [] b.2).idxOf j := by omega
          have e1 := List.getElem_idxOf (List.idxOf_lt_length_iff.mpr c1)
          have e2 := List.getElem_idxOf (List.idxOf_lt_length_iff.mpr c2)
          rw [← e1, ← e2]
          simp only [hk]
        · have := (rng' j (frx j hj c2)).1
          have := List.idxOf_lt_length_iff.mpr c1
          omega
        · have := (rng' i (frx i hi c1)).1
          have := List.idxOf_lt_length_iff.mpr c2
          omega
        · exact inj' i j (frx i hi c1) (frx j hj c2) q
      have lo : ∀ i, Fr s i → many ≤ rr i := fun i hi => by
        rw [← hr]
        dsimp only
        by_cases c1 : i ∈ flA [] b.2
        · rw [if_pos c1]; omega
        · rw [if_neg c1]
          have := rng' i (frx i hi c1)
          omega
      have e1 : x.map (renA r') = (l ++ r).map (renA rr) := by
        rw [ren_congr (r := r') (r' := rr) (s := x) fun i hi => ?_]
        · rw [ex, map_nrenA_ren agree]
        · rw [ex] at hi
          rw [← hr]
          exact (if_neg (fr_next hi).2).symm
      rw [eo, e1]
      refine (sort_cons ?_ fun y hy => ?_).symm
      · rw [e, List.map_append, List.map_cons, hb, List.map_append]
        exact List.perm_middle
      · obtain ⟨c, hc, rfl⟩ := List.mem_map.mp hy
        obtain ⟨l2, r2, e2⟩ := List.append_of_mem (show c ∈ s by rw [e]; rcases List.mem_append.mp hc with h | h <;> simp [h])
        have cand : Cand many s (nrenA many (flA [] c.2) c) ((l2 ++ r2).map (nrenA many (flA [] c.2))) := ⟨l2, c, r2, e2, rfl, rfl⟩
        have frc : ∀ i, fT i ∈ c.2 → Fr s i := fun i h => ⟨c, by rw [e2]; simp, h⟩
        refine aso.le_trans (st.min s hs _ _ cand) ?_
        obtain ⟨m1, _⟩ := num_min many rr c.2 [] (fun _ h => nomatch h) List.nodup_nil (fun i j hi hj => inj i j (frc i (hi.resolve_left (by simp))) (frc j (hj.resolve_left (by simp)))) (fun i hi => lo i (frc i hi))
        unfold leB at m1 ⊢
        unfold nrenA renA
        show (!(if c.1 = c.1 then lexB tlt (c.2.map (ren rr)) (c.2.map (nren many (flA [] c.2))) else _)) = true
        rw [if_pos rfl]; exact m1

/-! ### queries -/
abbrev Qy := List Tm × List Atm
abbrev qlt : Qy → Qy → Bool := pairB (lexB tlt) (lexB alt)
def dQ (q : Qy) : D := .tup [dTms q.1, dBody q.2]
theorem enc_q : Enc dQ qlt 6 := enc_pair enc_tms enc_body
theorem qso : SO qlt := enc_q.so
def fre (t : Tm) : Tm := if t.1 = "var" then fT t.2 else t
def freA (a : Atm) : Atm := (a.1, a.2.map fre)
def trn (r : Int → Int) (t : Tm) : Tm := if t.1 = "var" then vT (r t.2) else t
def trnA (r : Int → Int) (a : Atm) : Atm := (a.1, a.2.map (trn r))
def trnQ (r : Int → Int) (q : Qy) : Qy := (q.1.map (trn r), sortB alt (q.2.map (trnA r)))
/-- the variables are 0 .. m - 1, each in the body -/
structure QW (m : Nat) (q : Qy) : Prop where
  hk : ∀ t ∈ q.1, t.1 ≠ "free"
  bk : ∀ a ∈ q.2, ∀ t ∈ a.2, t.1 ≠ "free"
  hv : ∀ i, vT i ∈ q.1 → 0 ≤ i ∧ i < m
  bv : ∀ i, (∃ a ∈ q.2, vT i ∈ a.2) ↔ 0 ≤ i ∧ i < m
theorem tm_var {t : Tm} (h : t.1 = "var") : t = vT t.2 := Prod.ext h rfl
theorem fv_ne : ¬ ("free" : Str) = "var" := by decide
theorem ren_fre {r : Int → Int} {t : Tm} (h : t.1 ≠ "free") : ren r (fre t) = trn r t := by
  unfold fre trn
  by_cases c : t.1 = "var"
  · rw [if_pos c, if_pos c]
    unfold ren
    rw [if_pos rfl]
  · rw [if_neg c, if_neg c]
    unfold ren
    rw [if_neg h]
theorem fre_free {t : Tm} {i : Int} (h : t.1 ≠ "free") (e : fre t = fT i) : t = vT i := by
  unfold fre at e
  split at e
  · rename_i c
    have : t.2 = i := congrArg Prod.snd e
    rw [tm_var c, this]
  · exact absurd (congrArg Prod.fst e) h
theorem fre_var (i : Int) : fre (vT i) = fT i := if_pos rfl
section
variable {m : Nat} {q : Qy}
theorem QW.fh (w : QW m q) (i : Int) : fT i ∈ q.1.map fre ↔ vT i ∈ q.1 := by
  rw [List.mem_map]
  exact ⟨fun ⟨t, ht, e⟩ => fre_free (w.hk t ht) e ▸ ht, fun h => ⟨_, h, fre_var i⟩⟩
theorem QW.fb (w : QW m q) (i : Int) : Fr (q.2.map freA) i ↔ 0 ≤ i ∧ i < m := by
  rw [← w.bv i]
  constructor
  · rintro ⟨b, hb, h⟩
    obtain ⟨a, ha, rfl⟩ := List.mem_map.mp hb
    obtain ⟨t, ht, e⟩ := List.mem_map.mp h
    exact ⟨a, ha, fre_free (w.bk a ha t ht) e ▸ ht⟩
  · rintro ⟨a, ha, h⟩
    exact ⟨_, List.mem_map.mpr ⟨a, ha, rfl⟩, List.mem_map.mpr ⟨_, h, fre_var i⟩⟩
theorem QW.renh (w : QW m q) (r : Int → Int) : (q.1.map fre).map (ren r) = q.1.map (trn r) := by
  rw [List.map_map]
  exact List.map_congr_left fun t ht => ren_fre (w.hk t ht)
theorem QW.renb (w : QW m q) (r : Int → Int) : (q.2.map freA).map (renA r) = q.2.map (trnA r) := by
  rw [List.map_map]
  refine List.map_congr_left fun a ha => ?_
  show (a.1, (a.2.map fre).map (ren r)) = (a.1, a.2.map (trn r))
  rw [List.map_map]
  exact congrArg (Prod.mk a.1) (List.map_congr_left fun t ht => ren_fre (w.bk a ha t ht))
def F0 (q : Qy) : List Int := flA [] (q.1.map fre)
def S0 (q : Qy) : List Atm := (q.2.map freA).map (nrenA 0 (F0 q))
def LF (q : Qy) (out : List Atm) : Qy := ((q.1.map fre).map (nren 0 (F0 q)), out)
theorem QW.f0 (w : QW m q) {i : Int} (h : i ∈ F0 q) : 0 ≤ i ∧ i < m := w.hv i ((w.fh i).mp (((flA_mem _ _ _).mp h).resolve_left (by simp)))
/-- what is not among the numbered is numbered later -/
theorem pig {many : Int} {r : Int → Int} {F : List Int} (nd : F.Nodup) (ag : ∀ i ∈ F, r i = many + (F.idxOf i : Nat)) {i : Int} (hi : i ∉ F) (inj : ∀ j ∈ F, r j = r i → j = i) (lo : many ≤ r i) : many + (F.length : Nat) ≤ r i := by
  apply Decidable.byContradiction
  intro hlt
  have hk : (r i - many).toNat < F.length := by omega
  have hm : F[(r i - many).toNat] ∈ F := List.getElem_mem hk
  have h1 := ag _ hm
  rw [List.Nodup.idxOf_getElem nd _ hk] at h1
  have h4 := inj _ hm (by omega)
  rw [h4] at hm
  exact hi hm
theorem le_pairB {α β : Type} [DecidableEq α] {l1 : α → α → Bool} {l2 : β → β → Bool} {a b : α} {x y : β} (h : leB l1 a b = true) (k : a = b → leB l2 x y = true) : leB (pairB l1 l2) (a, x) (b, y) = true := by
  unfold leB pairB at *
  show (!(if b = a then l2 y x else l1 b a)) = true
  by_cases e : b = a
  · rw [if_pos e]; exact k e.symm
  · rw [if_neg e]; exact h
theorem LF_low (w : QW m q) {out : List Atm} (G : Greedy (F0 q).length [S0 q] out) (hl : out.length = q.2.length) (r : Int → Int) (inj : ∀ i j : Int, 0 ≤ i ∧ i < m → 0 ≤ j ∧ j < m → r i = r j → i = j) (lo : ∀ i : Int, 0 ≤ i ∧ i < m → 0 ≤ r i) :
    leB qlt (LF q out) (trnQ r q) = true := by
  have hh : ∀ i, fT i ∈ q.1.map fre → 0 ≤ i ∧ i < m := fun i h => w.hv i ((w.fh i).mp h)
  obtain ⟨m1, m2⟩ := num_min 0 r (q.1.map fre) [] (fun _ h => nomatch h) List.nodup_nil (fun i j hi hj => inj i j (hh i (hi.resolve_left (by simp))) (hh j (hj.resolve_left (by simp)))) (fun i hi => lo i (hh i hi))
  rw [w.renh] at m1 m2
  refine le_pairB m1 fun e => ?_
  have ag : ∀ i ∈ F0 q, r i = 0 + ((F0 q).idxOf i : Nat) := m2 e
  have frs : ∀ i, Fr (S0 q) i → (0 ≤ i ∧ i < m) ∧ i ∉ F0 q := fun i h => ⟨(w.fb i).mp (fr_next h).1, (fr_next h).2⟩
  have := lower G (S0 q) List.mem_cons_self (by unfold S0; rw [List.length_map, List.length_map, hl]) (by
      have : Vlt 0 (q.2.map freA) := fun b hb t ht hv => by
        obtain ⟨a, ha, rfl⟩ := List.mem_map.mp hb
        obtain ⟨u, hu, rfl⟩ := List.mem_map.mp ht
        unfold fre at hv
        split at hv
        · exact absurd hv fv_ne
        · rename_i c
          exact absurd hv c
      have := vlt_next (F := F0 q) this
      rw [Int.zero_add] at this
      exact this) r (fun i j hi hj => inj i j (frs i hi).1 (frs j hj).1) (fun i hi => by
      have := pig (flA_nodup _ _ List.nodup_nil) ag (frs i hi).2 (fun j hj => inj j i (w.f0 hj) (frs i hi).1) (lo i (frs i hi).1)
      unfold F0 at *
      omega)
  unfold S0 at this
  rw [map_nrenA_ren ag, w.renb] at this
  exact this
theorem LF_att (w : QW m q) {out : List Atm} (G : Greedy (F0 q).length [S0 q] out) (hl : out.length = q.2.length) :
    ∃ r : Int → Int, (∀ i j : Int, 0 ≤ i ∧ i < m → 0 ≤ j ∧ j < m → r i = r j → i = j) ∧ (∀ i : Int, 0 ≤ i ∧ i < m → 0 ≤ r i ∧ r i < m) ∧ LF q out = trnQ r q := by
  have v0 : Vlt 0 (q.2.map freA) := fun b hb t ht hv => by
    obtain ⟨a, ha, rfl⟩ := List.mem_map.mp hb
    obtain ⟨u, hu, rfl⟩ := List.mem_map.mp ht
    unfold fre at hv
    split at hv
    · exact absurd hv fv_ne
    · rename_i c
      exact absurd hv c
  have v1 := vlt_next (F := F0 q) v0
  rw [Int.zero_add] at v1
  obtain ⟨s, hs, r0, inj0, rng0, eo⟩ := attained G (by simp) (fun s hs => by rw [List.mem_singleton.mp hs]; unfold S0; rw [List.length_map, List.length_map, hl]) (fun s hs => by rw [List.mem_singleton.mp hs]; exact v1)
  rw [List.mem_singleton.mp hs] at inj0 rng0 eo
  have nd := flA_nodup (q.1.map fre) [] List.nodup_nil
  have hm : (F0 q).length + (frs (S0 q)).length = m := by
    have p : (F0 q ++ frs (S0 q)).Perm ((List.range m).map fun k : Nat => (k : Int)) := by
      refine (List.perm_ext_iff_of_nodup ?_ ?_).mpr fun i => ?_
      · rw [List.nodup_append]
        refine ⟨nd, frs_nodup _, fun a ha c hc z => ?_⟩
        subst z
        exact (fr_next (frs_mem.mp hc)).2 ha
      · exact List.nodup_iff_pairwise_ne.mpr (List.pairwise_map.mpr ((List.nodup_iff_pairwise_ne.mp List.nodup_range).imp fun {a b} h e => h (by omega)))
      · rw [List.mem_append, frs_mem, List.mem_map]
        constructor
        · intro h
          have : 0 ≤ i ∧ i < m := h.elim w.f0 fun h => (w.fb i).mp (fr_next h).1
          exact ⟨i.toNat, List.mem_range.mpr (by omega), by omega⟩
        · rintro ⟨k, hk, rfl⟩
          have hk := List.mem_range.mp hk
          by_cases c : (k : Int) ∈ F0 q
          · exact .inl c
          · exact .inr (fr_next' ((w.fb _).mpr (by omega)) c)
    have := p.length_eq
    rw [List.length_append, List.length_map, List.length_range] at this
    exact this
  have frx : ∀ i : Int, 0 ≤ i ∧ i < m → i ∉ F0 q → Fr (S0 q) i := fun i hi c => fr_next' ((w.fb i).mpr hi) c
  refine ⟨fun i => if i ∈ F0 q then ((F0 q).idxOf i : Nat) else r0 i, fun i j hi hj e => ?_, fun i hi => ?_, ?_⟩
  · by_cases c1 : i ∈ F0 q <;> by_cases c2 : j ∈ F0 q <;> simp only [c1, c2, if_true, if_false] at e
    · have hk : (F0 q).idxOf i = (F0 q).idxOf j := by omega
      have e1 := List.getElem_idxOf (List.idxOf_lt_length_iff.mpr c1)
      have e2 := List.getElem_idxOf (List.idxOf_lt_length_iff.mpr c2)
      rw [← e1, ← e2]
      simp only [hk]
    · have := (rng0 j (frx j hj c2)).1
      have := List.idxOf_lt_length_iff.mpr c1
      omega
    · have := (rng0 i (frx i hi c1)).1
      have := List.idxOf_lt_length_iff.mpr c2
      omega
    · exact inj0 i j (frx i hi c1) (frx j hj c2) e
  · dsimp only
    by_cases c1 : i ∈ F0 q
    · rw [if_pos c1]
      have := List.idxOf_lt_length_iff.mpr c1
      omega
    · rw [if_neg c1]
      have := rng0 i (frx i hi c1)
      omega
  · generalize hr : (fun i => if i ∈ F0 q then (((F0 q).idxOf i : Nat) : Int) else r0 i) = rr
    have ag : ∀ i ∈ F0 q, rr i = 0 + ((F0 q).idxOf i : Nat) := fun i hi => by rw [← hr, Int.zero_add]; exact if_pos hi
    refine Prod.ext ?_ ?_
    · show (q.1.map fre).map (nren 0 (F0 q)) = q.1.map (trn rr)
      rw [← w.renh]
      refine List.map_congr_left fun t ht => ?_
      unfold ren nren
      by_cases c : t.1 = "free"
      · have e : t = fT t.2 := Prod.ext c rfl
        have hm2 : t.2 ∈ F0 q := (flA_mem _ _ _).mpr (.inr (e ▸ ht))
        rw [if_pos c, if_pos ⟨c, hm2⟩, ag _ hm2]
      · rw [if_neg c, if_neg (fun z => c z.1)]
    · show out = sortB alt (q.2.map (trnA rr))
      rw [eo, ← w.renb]
      have : (S0 q).map (renA r0) = (q.2.map freA).map (renA rr) := by
        rw [ren_congr (r := r0) (r' := rr) (s := S0 q) fun i hi => ?_]
        · unfold S0
          exact map_nrenA_ren ag _
        · rw [← hr]
          exact (if_neg (fr_next hi).2).symm
      rw [this]
end

/-! ### orders -/
def iotaI (m : Nat) : List Int := (List.range m).map fun k : Nat => (k : Int)
theorem iota_mem {m : Nat} {i : Int} : i ∈ iotaI m ↔ 0 ≤ i ∧ i < m := by
  unfold iotaI
  rw [List.mem_map]
  exact ⟨fun ⟨k, hk, e⟩ => by have := List.mem_range.mp hk; omega, fun h => ⟨i.toNat, List.mem_range.mpr (by omega), by omega⟩⟩
theorem iota_nd (m : Nat) : (iotaI m).Nodup := List.nodup_iff_pairwise_ne.mpr (List.pairwise_map.mpr ((List.nodup_iff_pairwise_ne.mp List.nodup_range).imp fun {a b} h e => h (by omega)))
theorem iota_len (m : Nat) : (iotaI m).length = m := by unfold iotaI; rw [List.length_map, List.length_range]
def IsOrd (m : Nat) (o : List Int) : Prop := o.Perm (iotaI m)
def ofn (o : List Int) (i : Int) : Int := o.getD i.toNat 0
def inv (o : List Int) (i : Int) : Int := (o.idxOf i : Nat)
section
variable {m : Nat} {o : List Int}
theorem IsOrd.len (h : IsOrd m o) : o.length = m := h.length_eq.trans (iota_len m)
theorem IsOrd.mem (h : IsOrd m o) {i : Int} : i ∈ o ↔ 0 ≤ i ∧ i < m := h.mem_iff.trans iota_mem
theorem IsOrd.nd (h : IsOrd m o) : o.Nodup := h.nodup_iff.mpr (iota_nd m)
theorem IsOrd.get (h : IsOrd m o) {i : Int} (hi : 0 ≤ i ∧ i < m) : ∃ hk : i.toNat < o.length, ofn o i = o[i.toNat] := by
  have hk : i.toNat < o.length := by rw [h.len]; omega
  refine ⟨hk, ?_⟩
  unfold ofn
  rw [List.getD_eq_getElem?_getD, List.getElem?_eq_getElem hk]; rfl
theorem IsOrd.rng (h : IsOrd m o) {i : Int} (hi : 0 ≤ i ∧ i < m) : 0 ≤ ofn o i ∧ ofn o i < m := by
  obtain ⟨hk, e⟩ := h.get hi
  rw [e]
  exact h.mem.mp (List.getElem_mem hk)
theorem IsOrd.inv_of (h : IsOrd m o) {i : Int} (hi : 0 ≤ i ∧ i < m) : inv o (ofn o i) = i := by
  obtain ⟨hk, e⟩ := h.get hi
  rw [e]
  unfold inv
  rw [List.Nodup.idxOf_getElem h.nd _ hk]
  omega
theorem IsOrd.of_inv (h : IsOrd m o) {i : Int} (hi : 0 ≤ i ∧ i < m) : ofn o (inv o i) = i := by
  have hm := h.mem.mpr hi
  have hk := List.idxOf_lt_length_iff.mpr hm
  unfold ofn inv
  rw [Int.toNat_natCast, List.getD_eq_getElem?_getD, List.getElem?_eq_getElem hk]
  exact List.getElem_idxOf hk
theorem IsOrd.inv_rng (h : IsOrd m o) {i : Int} (hi : 0 ≤ i ∧ i < m) : 0 ≤ inv o i ∧ inv o i < m := by
  have hk := List.idxOf_lt_length_iff.mpr (h.mem.mpr hi)
  rw [h.len] at hk
  unfold inv
  omega
theorem IsOrd.inj (h : IsOrd m o) (i j : Int) (hi : 0 ≤ i ∧ i < m) (hj : 0 ≤ j ∧ j < m) (e : ofn o i = ofn o j) : i = j := by rw [← h.inv_of hi, ← h.inv_of hj, e]
theorem IsOrd.inv_inj (h : IsOrd m o) (i j : Int) (hi : 0 ≤ i ∧ i < m) (hj : 0 ≤ j ∧ j < m) (e : inv o i = inv o j) : i = j := by rw [← h.of_inv hi, ← h.of_inv hj, e]
/-- a list without doubles within one that is not longer is the same, in another order -/
theorem perm_of_sub : ∀ {a b : List Int}, a.Nodup → (∀ x ∈ a, x ∈ b) → b.length ≤ a.length → a.Perm b
  | [], b, _, _, hl => by rw [List.length_eq_zero_iff.mp (Nat.le_zero.mp hl)]
  | x :: a, b, nd, sub, hl => by
    obtain ⟨l, r, rfl⟩ := List.append_of_mem (sub x List.mem_cons_self)
    have nd' := List.nodup_cons.mp nd
    have := perm_of_sub (b := l ++ r) nd'.2 (fun y hy => by
      have := sub y (List.mem_cons_of_mem _ hy)
      rcases List.mem_append.mp this with h | h
      · exact List.mem_append_left _ h
      · rcases List.mem_cons.mp h with h | h
        · subst h; exact absurd hy nd'.1
        · exact List.mem_append_right _ h) (by simp at hl ⊢; omega)
    exact (this.cons x).trans List.perm_middle.symm
theorem ord_of {r : Int → Int} (inj : ∀ i j : Int, 0 ≤ i ∧ i < m → 0 ≤ j ∧ j < m → r i = r j → i = j) (rng : ∀ i : Int, 0 ≤ i ∧ i < m → 0 ≤ r i ∧ r i < m) : ∃ o, IsOrd m o ∧ ∀ i : Int, 0 ≤ i ∧ i < m → ofn o i = r i := by
  refine ⟨(iotaI m).map r, perm_of_sub ?_ (fun x hx => ?_) (by rw [List.length_map]; exact Nat.le_refl _), fun i hi => ?_⟩
  · refine List.nodup_iff_pairwise_ne.mpr (List.pairwise_map.mpr (List.Pairwise.imp_of_mem (fun {a b} ha hb h e => h (inj a b (iota_mem.mp ha) (iota_mem.mp hb) e)) (List.nodup_iff_pairwise_ne.mp (iota_nd m))))
  · obtain ⟨i, hi, rfl⟩ := List.mem_map.mp hx
    exact iota_mem.mpr (rng i (iota_mem.mp hi))
  · have e : (iotaI m)[i.toNat]? = some i := by
      unfold iotaI
      rw [List.getElem?_map, List.getElem?_range (by omega), Option.map_some]
      exact congrArg some (by omega)
    unfold ofn
    rw [List.getD_eq_getElem?_getD, List.getElem?_map, e]; rfl
end

/-! ### one form for all renamings -/
theorem trn_trn (s r : Int → Int) (t : Tm) : trn s (trn r t) = trn (s ∘ r) t := by
  unfold trn
  by_cases c : t.1 = "var"
  · rw [if_pos c, if_pos c, if_pos rfl]; rfl
  · rw [if_neg c, if_neg c, if_neg c]
theorem trnA_trnA (s r : Int → Int) (a : Atm) : trnA s (trnA r a) = trnA (s ∘ r) a := by
  unfold trnA
  rw [List.map_map]
  exact congrArg (Prod.mk a.1) (List.map_congr_left fun t _ => trn_trn s r t)
theorem trnQ_trnQ (s r : Int → Int) (q : Qy) : trnQ s (trnQ r q) = trnQ (s ∘ r) q := by
  refine Prod.ext ?_ ?_
  · show (q.1.map (trn r)).map (trn s) = q.1.map (trn (s ∘ r))
    rw [List.map_map]
    exact List.map_congr_left fun t _ => trn_trn s r t
  · show sortB alt ((sortB alt (q.2.map (trnA r))).map (trnA s)) = sortB alt (q.2.map (trnA (s ∘ r)))
    refine (aso.sort_perm ((sortB_perm _).map _)).trans ?_
    rw [List.map_map]
    exact congrArg (sortB alt) (List.map_congr_left fun a _ => trnA_trnA s r a)
theorem trnQ_perm (r : Int → Int) {h : List Tm} {b b' : List Atm} (p : b.Perm b') : trnQ r (h, b) = trnQ r (h, b') := Prod.ext rfl (aso.sort_perm (p.map _))
section
variable {m : Nat} {q : Qy}
theorem QW.congr (w : QW m q) {r s : Int → Int} (e : ∀ i : Int, 0 ≤ i ∧ i < m → r i = s i) : trnQ r q = trnQ s q := by
  refine Prod.ext (List.map_congr_left fun t ht => ?_) (congrArg (sortB alt) (List.map_congr_left fun a ha => congrArg (Prod.mk a.1) (List.map_congr_left fun t ht => ?_)))
  · unfold trn
    by_cases c : t.1 = "var"
    · rw [if_pos c, if_pos c, e _ (w.hv _ (tm_var c ▸ ht))]
    · rw [if_neg c, if_neg c]
  · unfold trn
    by_cases c : t.1 = "var"
    · rw [if_pos c, if_pos c, e _ ((w.bv _).mp ⟨a, ha, tm_var c ▸ ht⟩)]
    · rw [if_neg c, if_neg c]
theorem trnQ_id (q : Qy) : trnQ (fun i => i) q = (q.1, sortB alt q.2) := by
  have e : ∀ t : Tm, trn (fun i => i) t = t := fun t => by
    unfold trn
    by_cases c : t.1 = "var"
    · rw [if_pos c]; exact (tm_var c).symm
    · rw [if_neg c]
  have e2 : trn (fun i => i) = id := funext e
  have e3 : trnA (fun i => i) = id := funext fun a => by unfold trnA; rw [e2, List.map_id]; rfl
  unfold trnQ
  rw [e2, e3, List.map_id, List.map_id]
theorem mem_trn {r : Int → Int} {ts : List Tm} {i : Int} : vT i ∈ ts.map (trn r) ↔ ∃ j, vT j ∈ ts ∧ r j = i := by
  rw [List.mem_map]
  constructor
  · rintro ⟨t, ht, e⟩
    unfold trn at e
    split at e
    · rename_i c
      exact ⟨t.2, tm_var c ▸ ht, congrArg Prod.snd e⟩
    · rename_i c
      exact absurd (congrArg Prod.fst e) c
  · rintro ⟨j, hj, rfl⟩
    exact ⟨_, hj, if_pos rfl⟩
theorem trn_nf {r : Int → Int} {t : Tm} (h : t.1 ≠ "free") : (trn r t).1 ≠ "free" := by
  unfold trn
  split
  · exact fun z => fv_ne z.symm
  · exact h
theorem QW.turn (w : QW m q) {o : List Int} (ho : IsOrd m o) {b : List Atm} (p : b.Perm (q.2.map (trnA (ofn o)))) : QW m (q.1.map (trn (ofn o)), b) := by
  refine ⟨fun t ht => ?_, fun a ha t ht => ?_, fun i hi => ?_, fun i => ?_⟩
  · obtain ⟨u, hu, rfl⟩ := List.mem_map.mp ht
    exact trn_nf (w.hk u hu)
  · obtain ⟨c, hc, rfl⟩ := List.mem_map.mp (p.mem_iff.mp ha)
    obtain ⟨u, hu, rfl⟩ := List.mem_map.mp ht
    exact trn_nf (w.bk c hc u hu)
  · obtain ⟨j, hj, rfl⟩ := mem_trn.mp hi
    exact ho.rng (w.hv j hj)
  · constructor
    · rintro ⟨a, ha, hi⟩
      obtain ⟨c, hc, rfl⟩ := List.mem_map.mp (p.mem_iff.mp ha)
      obtain ⟨j, hj, rfl⟩ := mem_trn.mp hi
      exact ho.rng ((w.bv j).mp ⟨c, hc, hj⟩)
    · intro hi
      obtain ⟨c, hc, h⟩ := (w.bv (inv o i)).mpr (ho.inv_rng hi)
      exact ⟨_, p.mem_iff.mpr (List.mem_map.mpr ⟨c, hc, rfl⟩), mem_trn.mpr ⟨_, h, ho.of_inv hi⟩⟩
end
/-- L is the least form of q -/
structure Least (m : Nat) (q L : Qy) : Prop where
  w : QW m q
  low : ∀ o, IsOrd m o → leB qlt L (trnQ (ofn o) q) = true
  att : ∃ o, IsOrd m o ∧ L = trnQ (ofn o) q
theorem least_of {m : Nat} {q : Qy} (w : QW m q) {out : List Atm} (G : Greedy (F0 q).length [S0 q] out) (hl : out.length = q.2.length) : Least m q (LF q out) := by
  refine ⟨w, fun o ho => LF_low w G hl _ ho.inj fun i hi => (ho.rng hi).1, ?_⟩
  obtain ⟨r, inj, rng, e⟩ := LF_att w G hl
  obtain ⟨o, ho, eo⟩ := ord_of inj rng
  exact ⟨o, ho, e.trans (w.congr fun i hi => (eo i hi).symm)⟩
theorem Least.min {m : Nat} {q L M : Qy} (h : Least m q L) {os : List (List Int)} (h1 : ∀ o ∈ os, IsOrd m o) (h2 : ∀ o, IsOrd m o → o ∈ os) (hM : M ∈ os.map fun o => trnQ (ofn o) q) (hm : ∀ y ∈ os.map fun o => trnQ (ofn o) q, leB qlt M y = true) : M = L := by
  obtain ⟨o, ho, e⟩ := h.att
  obtain ⟨o', ho', rfl⟩ := List.mem_map.mp hM
  exact qso.le_antisymm (hm _ (List.mem_map.mpr ⟨o, h2 o ho, e.symm⟩)) (h.low o' (h1 o' ho'))
theorem ord_comp {m : Nat} {o p : List Int} (ho : IsOrd m o) (hp : IsOrd m p) : ∃ s, IsOrd m s ∧ ∀ i : Int, 0 ≤ i ∧ i < m → ofn s i = ofn p (ofn o i) :=
  ord_of (r := fun i => ofn p (ofn o i)) (fun i j hi hj e => ho.inj i j hi hj (hp.inj _ _ (ho.rng hi) (ho.rng hj) e)) fun i hi => hp.rng (ho.rng hi)
theorem ord_inv {m : Nat} {o : List Int} (ho : IsOrd m o) : ∃ s, IsOrd m s ∧ ∀ i : Int, 0 ≤ i ∧ i < m → ofn s i = inv o i :=
  ord_of (r := inv o) ho.inv_inj fun i hi => ho.inv_rng hi
/-- a renaming has the same least form -/
theorem Least.same {m : Nat} {q q' L L' : Qy} (h : Least m q L) (h' : Least m q' L') {o : List Int} (ho : IsOrd m o) (e : trnQ (ofn o) q = (q'.1, sortB alt q'.2)) : L = L' := by
  have key : ∀ s : Int → Int, trnQ s q' = trnQ (s ∘ ofn o) q := fun s => by
    rw [← trnQ_trnQ, e]
    exact trnQ_perm s (sortB_perm q'.2).symm
  have one : leB qlt L L' = true := by
    obtain ⟨p, hp, e'⟩ := h'.att
    obtain ⟨s, hs, es⟩ := ord_comp ho hp
    have := h.low s hs
    rw [h.w.congr (s := ofn p ∘ ofn o) es, ← key, ← e'] at this
    exact this
  have two : leB qlt L' L = true := by
    obtain ⟨p, hp, e'⟩ := h.att
    obtain ⟨v, hv, ev⟩ := ord_inv ho
    obtain ⟨s, hs, es⟩ := ord_comp hv hp
    have : trnQ (ofn s) q' = L := by
      rw [key, e']
      refine h.w.congr fun i hi => ?_
      show ofn s (ofn o i) = ofn p i
      rw [es _ (ho.rng hi), ev _ (ho.rng hi), ho.inv_of hi]
    rw [← this]
    exact h'.low s hs
  exact qso.le_antisymm one two
theorem Least.qw {m : Nat} {q L : Qy} (h : Least m q L) : QW m L := by
  obtain ⟨o, ho, rfl⟩ := h.att
  exact h.w.turn ho (sortB_perm _)
theorem QW.uniq {m m' : Nat} {q : Qy} (h : QW m q) (h' : QW m' q) : m = m' := by
  have key : ∀ i : Int, (0 ≤ i ∧ i < m) ↔ (0 ≤ i ∧ i < m') := fun i => (h.bv i).symm.trans (h'.bv i)
  have a := key m
  have b := key m'
  omega
theorem Least.ren {m m' : Nat} {q q' L : Qy} (h : Least m q L) (h' : Least m' q' L) : m = m' ∧ ∃ o, IsOrd m o ∧ trnQ (ofn o) q = (q'.1, sortB alt q'.2) := by
  have e := QW.uniq h.qw h'.qw
  subst e
  obtain ⟨o, ho, e1⟩ := h.att
  obtain ⟨p, hp, e2⟩ := h'.att
  obtain ⟨v, hv, ev⟩ := ord_inv hp
  obtain ⟨s, hs, es⟩ := ord_comp ho hv
  refine ⟨rfl, s, hs, ?_⟩
  rw [h.w.congr (s := ofn v ∘ ofn o) (fun i hi => es i hi), ← trnQ_trnQ, ← e1, e2, trnQ_trnQ, h'.w.congr (s := fun i => i) (fun i hi => ?_), trnQ_id]
  show ofn v (ofn p i) = i
  rw [ev _ (hp.rng hi), hp.inv_of hi]

/-! ### the law's own numbering -/
theorem flA_app : ∀ (xs ys : List Tm) (F : List Int), flA F (xs ++ ys) = flA (flA F xs) ys
  | [], _, _ => rfl
  | x :: xs, ys, F => by
    show (if x.1 = "free" ∧ x.2 ∉ F then flA (F ++ [x.2]) (xs ++ ys) else flA F (xs ++ ys)) = flA (if x.1 = "free" ∧ x.2 ∉ F then flA (F ++ [x.2]) xs else flA F xs) ys
    split <;> exact flA_app xs ys _
theorem flA_snoc (F : List Int) (ts : List Tm) (t : Tm) : flA F (ts ++ [t]) = if t.1 = "free" ∧ t.2 ∉ flA F ts then flA F ts ++ [t.2] else flA F ts := by
  rw [flA_app]
  rfl
theorem flA_len : ∀ (ts : List Tm) (F : List Int), (flA F ts).length ≤ F.length + ts.length
  | [], F => Nat.le_refl _
  | t :: ts, F => by
    unfold flA
    split
    · have := flA_len ts (F ++ [t.2])
      rw [List.length_append, List.length_singleton] at this
      rw [List.length_cons]; omega
    · have := flA_len ts F
      rw [List.length_cons]; omega
def tms (b : List Atm) : List Tm := b.flatMap (·.2)
def ordV (b : List Atm) : List Int := flA [] ((tms b).map fre)
def NF (b : List Atm) : Prop := ∀ a ∈ b, ∀ t ∈ a.2, t.1 ≠ "free"
theorem fre_step {t : Tm} (h : t.1 ≠ "free") (F : List Int) : ((fre t).1 = "free" ∧ (fre t).2 ∉ F) ↔ (t.1 = "var" ∧ t.2 ∉ F) := by
  unfold fre
  by_cases c : t.1 = "var"
  · rw [if_pos c]
    exact ⟨fun q => ⟨c, q.2⟩, fun q => ⟨rfl, q.2⟩⟩
  · rw [if_neg c]
    exact ⟨fun q => absurd q.1 h, fun q => absurd q.1 c⟩
theorem fre_snd (t : Tm) : (fre t).2 = t.2 := by unfold fre; split <;> rfl
theorem flA_fre {t : Tm} (h : t.1 ≠ "free") (F : List Int) (ts : List Tm) : flA F ((ts ++ [t]).map fre) = if t.1 = "var" ∧ t.2 ∉ flA F (ts.map fre) then flA F (ts.map fre) ++ [t.2] else flA F (ts.map fre) := by
  rw [List.map_append, List.map_cons, List.map_nil, flA_snoc, fre_snd]
  by_cases c : t.1 = "var" ∧ t.2 ∉ flA F (ts.map fre)
  · have := (fre_step h _).mpr c
    rw [fre_snd] at this
    rw [if_pos c, if_pos this]
  · rw [if_neg c, if_neg (fun z => c ((fre_step h _).mp (by rw [fre_snd]; exact z)))]
theorem ordV_mem {b : List Atm} (nf : NF b) {i : Int} : i ∈ ordV b ↔ ∃ a ∈ b, vT i ∈ a.2 := by
  unfold ordV tms
  rw [flA_mem]
  constructor
  · rintro (h | h)
    · cases h
    · obtain ⟨t, ht, e⟩ := List.mem_map.mp h
      obtain ⟨a, ha, hta⟩ := List.mem_flatMap.mp ht
      exact ⟨a, ha, fre_free (nf a ha t hta) e ▸ hta⟩
  · rintro ⟨a, ha, h⟩
    exact .inr (List.mem_map.mpr ⟨vT i, List.mem_flatMap.mpr ⟨a, ha, h⟩, fre_var i⟩)
theorem ordV_nd (b : List Atm) : (ordV b).Nodup := flA_nodup _ _ List.nodup_nil
theorem ordV_len (b : List Atm) : (ordV b).length ≤ (tms b).length := by
  have := flA_len ((tms b).map fre) []
  rw [List.length_map, List.length_nil, Nat.zero_add] at this
  exact this
theorem QW.m_ordV {m : Nat} {q : Qy} (w : QW m q) : (ordV q.2).length = m := by
  have p : (ordV q.2).Perm (iotaI m) := (List.perm_ext_iff_of_nodup (ordV_nd _) (iota_nd m)).mpr fun i => by rw [ordV_mem w.bk, iota_mem, w.bv]
  rw [p.length_eq, iota_len]
def numQ (h : List Tm) (b : List Atm) : Qy := (h.map (trn (inv (ordV b))), b.map (trnA (inv (ordV b))))
theorem numQ_ok {h : List Tm} {b : List Atm} (nf : NF b) (nh : ∀ t ∈ h, t.1 ≠ "free") (hh : ∀ i, vT i ∈ h → i ∈ ordV b) : QW (ordV b).length (numQ h b) := by
  have rng : ∀ i ∈ ordV b, 0 ≤ inv (ordV b) i ∧ inv (ordV b) i < ((ordV b).length : Nat) := fun i hi => by
    have := List.idxOf_lt_length_iff.mpr hi
    unfold inv
    omega
  refine ⟨fun t ht => ?_, fun a ha t ht => ?_, fun i hi => ?_, fun i => ?_⟩
  · obtain ⟨u, hu, rfl⟩ := List.mem_map.mp ht
    exact trn_nf (nh u hu)
  · obtain ⟨c, hc, rfl⟩ := List.mem_map.mp ha
    obtain ⟨u, hu, rfl⟩ := List.mem_map.mp ht
    exact trn_nf (nf c hc u hu)
  · obtain ⟨j, hj, rfl⟩ := mem_trn.mp hi
    exact rng j (hh j hj)
  · constructor
    · rintro ⟨a, ha, hi⟩
      obtain ⟨c, hc, rfl⟩ := List.mem_map.mp ha
      obtain ⟨j, hj, rfl⟩ := mem_trn.mp hi
      exact rng j ((ordV_mem nf).mpr ⟨c, hc, hj⟩)
    · intro hi
      have hk : i.toNat < (ordV b).length := by omega
      have hm : (ordV b)[i.toNat] ∈ ordV b := List.getElem_mem hk
      obtain ⟨c, hc, h⟩ := (ordV_mem nf).mp hm
      refine ⟨_, List.mem_map.mpr ⟨c, hc, rfl⟩, mem_trn.mpr ⟨_, h, ?_⟩⟩
      unfold inv
      rw [List.Nodup.idxOf_getElem (ordV_nd b) _ hk]
      omega
theorem sub_len : ∀ {a b : List Int}, a.Nodup → (∀ x ∈ a, x ∈ b) → a.length ≤ b.length
  | [], _, _, _ => Nat.zero_le _
  | x :: a, b, nd, sub => by
    obtain ⟨l, r, rfl⟩ := List.append_of_mem (sub x List.mem_cons_self)
    have nd' := List.nodup_cons.mp nd
    have := sub_len (b := l ++ r) nd'.2 (fun y hy => by
      have := sub y (List.mem_cons_of_mem _ hy)
      rcases List.mem_append.mp this with h | h
      · exact List.mem_append_left _ h
      · rcases List.mem_cons.mp h with h | h
        · subst h; exact absurd hy nd'.1
        · exact List.mem_append_right _ h)
    simp at this ⊢
    omega
/-- variables of 0 .. 3 alone -/
def V4 (ts : List Tm) : Prop := ∀ i, vT i ∈ ts → 0 ≤ i ∧ i < 4
theorem ordV_4 {b : List Atm} (nf : NF b) (h : ∀ a ∈ b, V4 a.2) : (ordV b).length ≤ 4 := by
  have := sub_len (b := iotaI 4) (ordV_nd b) fun i hi => by
    obtain ⟨a, ha, h1⟩ := (ordV_mem nf).mp hi
    exact iota_mem.mpr (h a ha i h1)
  rw [iota_len] at this
  exact this
/-! ### all orders -/
def ins (p : Nat) (k : Int) (o : List Int) : List Int := o.take p ++ [k] ++ o.drop p
theorem iota_succ (k : Nat) : iotaI (k + 1) = iotaI k ++ [(k : Int)] := by
  unfold iotaI
  rw [List.range_succ, List.map_append]; rfl
theorem ins_ord {k p : Nat} {o : List Int} (h : IsOrd k o) : IsOrd (k + 1) (ins p k o) := by
  unfold IsOrd ins
  rw [iota_succ, List.append_assoc]
  refine (List.perm_middle (l₁ := o.take p) (a := (k : Int)) (l₂ := o.drop p)).trans ?_
  rw [List.take_append_drop]
  exact (h.cons _).trans (List.perm_append_singleton _ _).symm
def ords : Nat → List (List Int)
  | 0 => [[]]
  | k + 1 => (ords k).flatMap fun o => (List.range (k + 1)).map fun p => ins p k o
theorem ords_ord : ∀ (k : Nat) (o : List Int), o ∈ ords k ↔ IsOrd k o
  | 0, o => by
    unfold ords
    rw [List.mem_singleton]
    exact ⟨fun e => by subst e; exact List.Perm.refl _, fun h => List.length_eq_zero_iff.mp h.len⟩
  | k + 1, o => by
    unfold ords
    rw [List.mem_flatMap]
    constructor
    · rintro ⟨o', ho', h⟩
      obtain ⟨p, _, rfl⟩ := List.mem_map.mp h
      exact ins_ord ((ords_ord k o').mp ho')
    · intro h
      have hk : (k : Int) ∈ o := h.mem.mpr (by omega)
      obtain ⟨l, r, rfl⟩ := List.append_of_mem hk
      have p : (l ++ r).Perm (iotaI k) := by
        have q : ((k : Int) :: (l ++ r)).Perm ((k : Int) :: iotaI k) := List.perm_middle.symm.trans (h.trans (by rw [iota_succ]; exact List.perm_append_singleton _ _))
        exact q.cons_inv
      have hl := h.len
      rw [List.length_append, List.length_cons] at hl
      refine ⟨l ++ r, (ords_ord k _).mpr p, List.mem_map.mpr ⟨l.length, List.mem_range.mpr (by omega), ?_⟩⟩
      unfold ins
      rw [List.take_left, List.drop_left, List.append_assoc]; rfl
theorem ords_len : ∀ k : Nat, (ords k).length ≤ 4 ^ k ∨ 4 < k
  | 0 => .inl (Nat.le_refl 1)
  | k + 1 => by
    rcases ords_len k with h | h
    · by_cases c : 4 < k + 1
      · exact .inr c
      · left
        have e : ∀ os : List (List Int), (os.flatMap fun o => (List.range (k + 1)).map fun p => ins p (k : Int) o).length = os.length * (k + 1) := fun os => by
          induction os with
          | nil => simp
          | cons o os ih =>
            rw [List.flatMap_cons, List.length_append, ih, List.length_map, List.length_range, List.length_cons, Nat.succ_mul]; omega
        unfold ords
        rw [e, Nat.pow_succ]
        exact Nat.mul_le_mul h (by omega)
    · exact .inr (by omega)
theorem cutL_take {α : Type} (xs : List α) (p : Nat) : cutL xs none (some (p : Int)) = xs.take p := by
  unfold cutL
  rw [HT.sIx_nat, HT.sIx_none, List.drop_zero, Nat.sub_zero]
  rcases Nat.le_total p xs.length with h | h
  · rw [Nat.min_eq_left h]
  · rw [Nat.min_eq_right h, List.take_length, List.take_of_length_le h]
theorem cutL_drop {α : Type} (xs : List α) (p : Nat) : cutL xs (some (p : Int)) none = xs.drop p := by
  unfold cutL
  rw [HT.sIx_nat, HT.sIx_none]
  rcases Nat.le_total p xs.length with h | h
  · rw [Nat.min_eq_left h]
    exact List.take_of_length_le (by rw [List.length_drop]; exact Nat.le_refl _)
  · rw [Nat.min_eq_right h, List.drop_of_length_le h, List.drop_length]; simp
end LK36

/-! K36M: the mathematics of law k36. -/
namespace LK36
open PySem L2 DL
def pot (a b c : Int) : D := .lst [.int a, .int b, .int c]
/-- a box of draws -/
def Box (d : D) : Prop := ∃ a b c : Int, d = pot a b c ∧ (c = 0 ∨ (0 ≤ a ∧ a ≤ 10 ^ 9))
theorem atI_z {xs : List D} {q : Int} (h0 : 0 ≤ q) (h : q.toNat < xs.length) : atI xs q = some xs[q.toNat] := by
  obtain ⟨j, rfl⟩ := Int.eq_ofNat_of_zero_le h0
  have h' : j < xs.length := h
  rw [atI_nn, List.getElem?_eq_getElem h']
  rfl
theorem atI_q {xs : List D} {k : Nat} (h : k < xs.length) : atI xs (k : Int) = some xs[k] := by rw [atI_nn, List.getElem?_eq_getElem h]
theorem dTm_eq (t : Tm) : dTm t = .tup [.str t.1, .int t.2] := rfl
theorem v_eq_tm {a b : Tm} {P : D → Prop} {t : Tg P} : AP1 (gEq (dTm a) (dTm b)) P t = P (.bl (decide (a = b))) := propext (iff_of_eq (gEq_dat enc_tm.dat (by decide) a b P))
theorem v_eq_q {a b : Qy} {P : D → Prop} {t : Tg P} : AP1 (gEq (dQ a) (dQ b)) P t = P (.bl (decide (a = b))) := propext (iff_of_eq (gEq_dat enc_q.dat (by decide) a b P))
theorem v_eq_q2 {a : Qy} {b : List Tm} {c : List Atm} {P : D → Prop} {t : Tg P} : AP1 (gEq (dQ a) (.tup [dTms b, .tup (c.map dAtm)])) P t = P (.bl (decide (a = (b, c)))) := propext (iff_of_eq (gEq_dat enc_q.dat (by decide) a (b, c) P))
theorem v_ix_tm0 {a : Tm} {P : D → Prop} {t : Tg P} : AP1 (gIx (dTm a) (.int 0)) P t = P (.str a.1) := propext (iff_of_eq ((ev_gIx_tup _ _ _).trans (by rw [atI_zero]; rfl)))
theorem v_ix_tm1 {a : Tm} {P : D → Prop} {t : Tg P} : AP1 (gIx (dTm a) (.int 1)) P t = P (.int a.2) := propext (iff_of_eq ((ev_gIx_tup _ _ _).trans (by rw [atI_one]; rfl)))
theorem v_ix_at0 {a : Atm} {P : D → Prop} {t : Tg P} : AP1 (gIx (dAtm a) (.int 0)) P t = P (.str a.1) := propext (iff_of_eq ((ev_gIx_tup _ _ _).trans (by rw [atI_zero]; rfl)))
theorem v_ix_at1 {a : Atm} {P : D → Prop} {t : Tg P} : AP1 (gIx (dAtm a) (.int 1)) P t = P (dTms a.2) := propext (iff_of_eq ((ev_gIx_tup _ _ _).trans (by rw [atI_one]; rfl)))
theorem v_ix_q0 {a : Qy} {P : D → Prop} {t : Tg P} : AP1 (gIx (dQ a) (.int 0)) P t = P (dTms a.1) := propext (iff_of_eq ((ev_gIx_tup _ _ _).trans (by rw [atI_zero]; rfl)))
theorem v_ix_q1 {a : Qy} {P : D → Prop} {t : Tg P} : AP1 (gIx (dQ a) (.int 1)) P t = P (dBody a.2) := propext (iff_of_eq ((ev_gIx_tup _ _ _).trans (by rw [atI_one]; rfl)))
theorem v_tup_tms {ts : List Tm} {P : List D → Prop} {t : Tg P} : AP1 (tupD (dTms ts)) P t = P (ts.map dTm) := propext (iff_of_eq rfl)
theorem v_tup_body {b : List Atm} {P : List D → Prop} {t : Tg P} : AP1 (tupD (dBody b)) P t = P (b.map dAtm) := propext (iff_of_eq rfl)
theorem v_tuple_tms {ts : List Tm} {P : D → Prop} {t : Tg P} : AP1 (gTuple [.lst (ts.map dTm)]) P t = P (dTms ts) := propext (iff_of_eq rfl)
theorem v_tuple_body {ts : List Atm} {P : D → Prop} {t : Tg P} : AP1 (gTuple [.lst (ts.map dAtm)]) P t = P (dBody ts) := propext (iff_of_eq rfl)
theorem v_len_body {b : List Atm} {P : D → Prop} {t : Tg P} : AP1 (gLen [dBody b]) P t = P (.int b.length) := propext (iff_of_eq ((ev_gLen_tup _ _).trans (by rw [List.length_map])))
theorem v_len_tms {b : List Tm} {P : D → Prop} {t : Tg P} : AP1 (gLen [dTms b]) P t = P (.int b.length) := propext (iff_of_eq ((ev_gLen_tup _ _).trans (by rw [List.length_map])))
theorem v_gd_tm (f : FG) (g : FG) (a : Tm) (ρ : List Sl) (P : List Sl → Prop) {t : Tg P} : AP1 (gdTup 2 (gdCons f (gdCons g gdNil)) (dTm a) ρ) P t = AP1 (f (.str a.1) ρ) (fun ρ1 => AP1 (g (.int a.2) ρ1) P .mk) .mk := propext (iff_of_eq (by
  show ((2 : Nat) = 2 ∧ gdCons f (gdCons g gdNil) [.str a.1, .int a.2] ρ P) = _
  rw [ev_gdCons]
  simp only [ev_gdCons, ev_gdNil, true_and]
  rfl))
theorem v_gd_at (f : FG) (g : FG) (a : Atm) (ρ : List Sl) (P : List Sl → Prop) {t : Tg P} : AP1 (gdTup 2 (gdCons f (gdCons g gdNil)) (dAtm a) ρ) P t = AP1 (f (.str a.1) ρ) (fun ρ1 => AP1 (g (dTms a.2) ρ1) P .mk) .mk := propext (iff_of_eq (by
  show ((2 : Nat) = 2 ∧ gdCons f (gdCons g gdNil) [.str a.1, dTms a.2] ρ P) = _
  rw [ev_gdCons]
  simp only [ev_gdCons, ev_gdNil, true_and]
  rfl))
theorem v_gd_q (f : FG) (g : FG) (a : Qy) (ρ : List Sl) (P : List Sl → Prop) {t : Tg P} : AP1 (gdTup 2 (gdCons f (gdCons g gdNil)) (dQ a) ρ) P t = AP1 (f (dTms a.1) ρ) (fun ρ1 => AP1 (g (dBody a.2) ρ1) P .mk) .mk := propext (iff_of_eq (by
  show ((2 : Nat) = 2 ∧ gdCons f (gdCons g gdNil) [dTms a.1, dBody a.2] ρ P) = _
  rw [ev_gdCons]
  simp only [ev_gdCons, ev_gdNil, true_and]
  rfl))
theorem p18 : (10 : Int) ^ Int.toNat 18 = 1000000000000000000 := by decide
theorem p29 : (10 : Int) ^ Int.toNat 29 = 100000000000000000000000000000 := by decide
theorem v_is_tup {xs : List D} {P : D → Prop} {t : Tg P} : AP1 (gIs (.tup xs) .non) P t = P (.bl false) := propext (iff_of_eq rfl)
theorem v_is_int {i : Int} {P : D → Prop} {t : Tg P} : AP1 (gIs (.int i) .non) P t = P (.bl false) := propext (iff_of_eq rfl)
theorem v_is_str {i : Str} {P : D → Prop} {t : Tg P} : AP1 (gIs (.str i) .non) P t = P (.bl false) := propext (iff_of_eq rfl)
theorem v_is_atm {i : Atm} {P : D → Prop} {t : Tg P} : AP1 (gIs (dAtm i) .non) P t = P (.bl false) := propext (iff_of_eq rfl)
theorem v_is_non {P : D → Prop} {t : Tg P} : AP1 (gIs .non .non) P t = P (.bl true) := propext (iff_of_eq rfl)
theorem v_list_tms {ts : List Tm} {P : D → Prop} {t : Tg P} : AP1 (gList [dTms ts]) P t = P (.lst (ts.map dTm)) := propext (iff_of_eq (ev_gList_tup _ _))
theorem v_list_body {ts : List Atm} {P : D → Prop} {t : Tg P} : AP1 (gList [dBody ts]) P t = P (.lst (ts.map dAtm)) := propext (iff_of_eq (ev_gList_tup _ _))
theorem v_eq_atm {a b : Atm} {P : D → Prop} {t : Tg P} : AP1 (gEq (dAtm a) (dAtm b)) P t = P (.bl (decide (a = b))) := propext (iff_of_eq (gEq_dat enc_atm.dat (by decide) a b P))
theorem v_sl_body {s : List Atm} {lo hi : Option Int} {P : D → Prop} {t : Tg P} : AP1 (gSl (dBody s) lo hi) P t = P (.tup (cutD (s.map dAtm) lo hi)) := propext (iff_of_eq rfl)
def wD (ns : List Str) (A : List (Str × Int)) (nums : List Int) : D := .lst [.lst (ns.map .str), .dK (A.map fun p => .inr p.1) (A.map fun p => .int p.2), .lst (nums.map .int), .str "", .lst []]
theorem v_ix_w2 {ns : List Str} {A : List (Str × Int)} {nums : List Int} {P : D → Prop} {t : Tg P} : AP1 (gIx (wD ns A nums) (.int 2)) P t = P (.lst (nums.map .int)) := propext (iff_of_eq ((ev_gIx_lst _ _ _).trans (by rw [atI_two]; rfl)))
theorem w_g_renamed {ds : List D} {P : D → Prop} : g_renamed ds P = AP1 (g_renamed ds) P .mk := propext (iff_of_eq rfl)
theorem w_g_freed {ds : List D} {P : D → Prop} : g_freed ds P = AP1 (g_freed ds) P .mk := propext (iff_of_eq rfl)
theorem w_g_numbering {ds : List D} {P : D → Prop} : g_numbering ds P = AP1 (g_numbering ds) P .mk := propext (iff_of_eq rfl)
theorem w_g_law_box {ds : List D} {P : D → Prop} : g_law_box ds P = AP1 (g_law_box ds) P .mk := propext (iff_of_eq rfl)
theorem w_g_law_take {c : D} {ds : List D} {P : D → D → Prop} : g_law_take c ds P = AP2 (g_law_take c ds) P .mk := propext (iff_of_eq rfl)
theorem w_g_law_ordered {ds : List D} {P : D → Prop} : g_law_ordered ds P = AP1 (g_law_ordered ds) P .mk := propext (iff_of_eq rfl)
theorem w_g_law_placed {ds : List D} {P : D → Prop} : g_law_placed ds P = AP1 (g_law_placed ds) P .mk := propext (iff_of_eq rfl)
theorem w_g_law_turned {ds : List D} {P : D → Prop} : g_law_turned ds P = AP1 (g_law_turned ds) P .mk := propext (iff_of_eq rfl)
theorem w_g_law_orders {ds : List D} {P : D → Prop} : g_law_orders ds P = AP1 (g_law_orders ds) P .mk := propext (iff_of_eq rfl)
theorem w_g_law_alike_kind {ds : List D} {P : D → Prop} : g_law_alike_kind ds P = AP1 (g_law_alike_kind ds) P .mk := propext (iff_of_eq rfl)
theorem w_g_renamed_atoms {ds : List D} {P : D → Prop} : g_renamed_atoms ds P = AP1 (g_renamed_atoms ds) P .mk := propext (iff_of_eq rfl)
theorem w_g_freed_atoms {ds : List D} {P : D → Prop} : g_freed_atoms ds P = AP1 (g_freed_atoms ds) P .mk := propext (iff_of_eq rfl)
theorem w_g_law_spread {c : D} {ds : List D} {P : D → D → Prop} : g_law_spread c ds P = AP2 (g_law_spread c ds) P .mk := propext (iff_of_eq rfl)
theorem w_g_law_many {ds : List D} {P : D → Prop} : g_law_many ds P = AP1 (g_law_many ds) P .mk := propext (iff_of_eq rfl)
theorem w_g_law_numbered {ds : List D} {P : D → Prop} : g_law_numbered ds P = AP1 (g_law_numbered ds) P .mk := propext (iff_of_eq rfl)
theorem w_g_law_renamed {ds : List D} {P : D → Prop} : g_law_renamed ds P = AP1 (g_law_renamed ds) P .mk := propext (iff_of_eq rfl)
theorem w_g_law_shuffled {c : D} {ds : List D} {P : D → D → Prop} : g_law_shuffled c ds P = AP2 (g_law_shuffled c ds) P .mk := propext (iff_of_eq rfl)
theorem w_g_least_next {ds : List D} {P : D → Prop} : g_least_next ds P = AP1 (g_least_next ds) P .mk := propext (iff_of_eq rfl)
theorem w_g_law_world {c : D} {ds : List D} {P : D → D → Prop} : g_law_world c ds P = AP2 (g_law_world c ds) P .mk := propext (iff_of_eq rfl)
theorem w_g_law_query {c : D} {ds : List D} {P : D → D → Prop} : g_law_query c ds P = AP2 (g_law_query c ds) P .mk := propext (iff_of_eq rfl)
theorem w_g_law_least {ds : List D} {P : D → Prop} : g_law_least ds P = AP1 (g_law_least ds) P .mk := propext (iff_of_eq rfl)
theorem w_g_law_twin {c : D} {ds : List D} {P : D → D → Prop} : g_law_twin c ds P = AP2 (g_law_twin c ds) P .mk := propext (iff_of_eq rfl)
theorem w_g_law_changed {c : D} {ds : List D} {P : D → D → Prop} : g_law_changed c ds P = AP2 (g_law_changed c ds) P .mk := propext (iff_of_eq rfl)
theorem w_g_law_is_renaming {ds : List D} {P : D → Prop} : g_law_is_renaming ds P = AP1 (g_law_is_renaming ds) P .mk := propext (iff_of_eq rfl)
theorem w_g_least_form {ds : List D} {P : D → Prop} : g_least_form ds P = AP1 (g_least_form ds) P .mk := propext (iff_of_eq rfl)
theorem w_g_law_same {n : Nat} {ds : List D} {P : D → Prop} : g_law_same n ds P = AP1 (g_law_same n ds) P .mk := propext (iff_of_eq rfl)
theorem w_g_law {ds : List D} {P : D → Prop} : g_law ds P = AP1 (g_law ds) P .mk := propext (iff_of_eq rfl)
local macro_rules | `(tactic| walk_at "ev") => `(tactic| (try simp -dsimp only [↓w_fVar, ↓w_fC, ↓w_fOp, ↓w_fTst, ↓w_fAnd, ↓w_fOr, ↓w_fNot, ↓w_fAndV, ↓w_fOrV, ↓w_fNotV, ↓w_fIf, ↓w_fUn, ↓w_fNil, ↓w_fCons, ↓w_fTup, ↓w_fLst, ↓w_fCall, ↓w_fVarF, ↓w_fPure, ↓w_fPureT, ↓w_fNext, ↓w_fSeq, ↓w_fBrk, ↓w_fCnt, ↓w_fDrop, ↓w_fRet, ↓w_fRetF, ↓w_fRetN, ↓w_fIfS, ↓w_fSet, ↓w_fSetF, ↓w_gdName, ↓w_gdNil, ↓w_gdCons, ↓w_gdTup, ↓w_fSeqI, ↓w_fLstI, ↓w_fTupI, ↓w_fRng1, ↓w_fRng2, ↓w_fZip, ↓w_fFor, ↓w_fYes, ↓w_fLc, ↓w_fCallP, ↓w_fCallI, ↓w_fPN, ↓w_fPS, ↓w_fSl, ↓w_fDGet, ↓w_fDIn, ↓w_fDGet2, ↓w_fSetO, ↓w_fApp, ↓w_fExt, ↓w_fDPut, ↓w_fListO, ↓w_fCallK, ↓w_fChain, ↓w_fDicI, ↓w_fLstRg1, ↓w_fLstRg2, ↓w_fAsgG, ↓w_fDisp, ↓w_fIxO, ↓w_fDGetO, ↓w_fFld, ↓w_fFldO, ↓w_fFldSet, ↓w_fMake, ↓w_fMeth, ↓w_fMethK, ↓w_fTru, ↓w_fNever, ↓w_fLc2, ↓w_fCallKw, ↓w_fLcO, ↓w_fCallM, ↓w_fDisp1N, ↓w_fEnum, ↓w_fIndex, ↓w_fCallIT, ↓a_ev_retP_nx, ↓a_ev_retP_rt, ↓a_ev_retP_rf, ↓a_ev_retF_rf, ↓a_ev_retI_nx, ↓a_ev_retI_rt, ↓a_ev_retI_rf, ↓a_ev_andThen_nx, ↓a_ev_andThen_rt, ↓a_ev_andThen_rf, ↓a_ev_andThen_bk, ↓a_ev_andThen_ct, ↓w_gAdd, ↓w_gMul, ↓w_gEq, ↓w_gNe, ↓w_gLt, ↓w_gIs, ↓w_gIsNot, ↓w_gIx, ↓w_gSub, ↓w_gMod, ↓w_gDiv, ↓w_gPow, ↓w_gLe, ↓w_gGt, ↓w_gGe, ↓w_gInB, ↓w_gI, ↓w_gC, ↓w_gNeg, ↓w_gSl, ↓w_gLen, ↓w_gAll, ↓w_gAny, ↓w_gSum, ↓w_gTuple, ↓w_gList, ↓w_gInt, ↓w_gAbs, ↓w_gIsi, ↓w_gSortT, ↓w_gSortD, ↓w_gSumL, ↓w_gInt2, ↓w_asB, ↓w_asI, ↓w_lstD, ↓w_tupD, ↓w_seqD, ↓w_lstO, ↓w_keysD, ↓w_dlook, ↓w_dput, ↓w_ownD, ↓w_rng1, ↓w_rng2, ↓w_zip2, ↓w_slotO, ↓w_gFld, ↓w_gSetF, ↓w_recvT, ↓w_gBinO, ↓w_gMinDef, ↓w_gLeT, ↓w_gInO, ↓w_optP, ↓w_forGo, ↓w_lcGo, ↓w_ownsL, ↓w_gO, ↓w_lc2Go, ↓w_g_renamed, ↓w_g_freed, ↓w_g_numbering, ↓w_g_law_box, ↓w_g_law_take, ↓w_g_law_ordered, ↓w_g_law_placed, ↓w_g_law_turned, ↓w_g_law_orders, ↓w_g_law_alike_kind, ↓w_g_renamed_atoms, ↓w_g_freed_atoms, ↓w_g_law_spread, ↓w_g_law_many, ↓w_g_law_numbered, ↓w_g_law_renamed, ↓w_g_law_shuffled, ↓w_g_least_next, ↓w_g_law_world, ↓w_g_law_query, ↓w_g_law_least, ↓w_g_law_twin, ↓w_g_law_changed, ↓w_g_law_is_renaming, ↓w_g_least_form, ↓w_g_law_same, ↓w_g_law, permL, sl0, slI, DL.isNon, wipeS, seqL_lst, seqL_tup, seqL_rol, seqL_tupI, Option.bind_some, atI_zero, atI_one, atI_two, List.map_cons, List.map_nil, List.replicate_succ, List.replicate_zero, List.cons_append, List.nil_append, List.append_nil, List.getElem?_cons_zero, List.getElem?_cons_succ, List.getElem?_nil, List.set_cons_zero, List.set_cons_succ, List.set_nil, List.length_cons, List.length_nil, List.length_map, List.isEmpty_nil, List.isEmpty_cons, List.isEmpty_map, List.filterMap_cons, List.filterMap_nil, reduceCtorEq, if_true, if_false, Bool.false_eq_true, Bool.not_true, Bool.not_false, Bool.not_eq_true, Bool.not_eq_eq_eq_not, and_true, true_and, and_false, false_and, eq_self, decide_true, decide_false, Option.some.injEq, D.tup.injEq, D.int.injEq, D.bl.injEq, D.lst.injEq, List.cons.injEq, exists_eq_left', exists_eq_left, or_true, or_false, true_or, false_or, Bool.or_false, Bool.false_or, Bool.or_true, Bool.true_or, Bool.and_true, Bool.and_false, Bool.true_and, Bool.false_and, Nat.reduceAdd, Nat.reduceLeDiff, Nat.zero_add, ↓reduceIte, Option.isSome_some, Option.isSome_none, Bool.false_bne, Bool.true_bne, Bool.and_self, Bool.or_self, Int.reduceEq, Int.reduceLT, Int.reduceLE, Nat.reduceEqDiff, Nat.reduceLT, Int.cast_ofNat_Int, c_fVar, c_fC, c_fOp, c_fTst, c_fAnd, c_fOr, c_fNot, c_fAndV, c_fOrV, c_fNotV, c_fIf, c_fUn, c_fNil, c_fCons, c_fTup, c_fLst, c_fCall, c_fVarF, c_fPure, c_fPureT, c_fNext, c_fSeq, c_fBrk, c_fCnt, c_fDrop, c_fRet, c_fRetF, c_fRetN, c_fIfS, c_fSet, c_fSetF, c_gdName, c_fSeqI, c_fLstI, c_fTupI, c_fRng1, c_fRng2, c_fZip, c_fFor, c_fYes, c_fLc, c_fCallP, c_fCallI, c_fPN, c_fPS, c_fSl, c_fDGet, c_fDIn, c_fDGet2, c_fSetO, c_fApp, c_fExt, c_fDPut, c_fListO, c_fCallK, c_fChain, c_fDicI, c_fLstRg1, c_fLstRg2, c_fAsgG, c_fDisp, c_fIxO, c_fDGetO, c_fFld, c_fFldO, c_fFldSet, c_fMake, c_fMeth, c_fMethK, c_fTru, c_fNever, c_fLc2, c_fCallKw, c_fLcO, c_fCallM, c_fDisp1N, c_fEnum, c_fIndex, c_fCallIT, a_gIsi_eq, a_ev_gIx_lst, a_ev_gIx_tup, a_ev_gIx_rol, a_gAll_eq, a_gAny_eq, a_ev_asB_bl, ev_ixN_30, ev_ixN_31, ev_ixN_32, a_ev_asI_int, a_ev_gAdd_int, a_ev_gAdd_tup, a_ev_gAdd_lst, a_ev_gAdd_str, a_ev_gMul_int, a_ev_gMul_tup, a_ev_gMul_lst, a_ev_gMul_str, a_ev_gI_int, a_ev_gC_int, a_ev_gLt_int, a_ev_gNeg_int, a_ev_gIs_bl, a_ev_gIsNot_bl, a_ev_gInt_int, a_ev_gInt_bl, a_ev_gInt2_int, a_ev_gAbs_int, a_ev_gTuple_lst, a_ev_gTuple_rol, a_ev_gTuple_tup, a_ev_gList_dT, a_ev_gList_dK, a_ev_gLen_str, a_ev_gLen_dT, a_ev_gLen_dK, a_ev_lstD_lst, a_ev_lstD_rol, a_ev_tupD_tup, a_ev_lstO_lst, a_ev_gSl_lst, a_ev_gSl_rol, a_ev_gSl_tup, ev_frz_own, ev_frz_val, ev_frz_non, ev_scal_int, ev_scal_bl, ev_scal_str, ev_scal_non, a_ev_rng1_int, a_ev_rng2_int, a_ev_zip2_lst, a_ev_zip2_tup, a_ev_slotO_own, a_ev_gdCons, a_ev_gdNil, a_ev_gLen_lst, a_ev_gLen_tup, a_ev_gLen_rol, a_ev_gEq_int, a_ev_gNe_int, a_ev_gEq_str, a_ev_gNe_str, a_ev_gIs_nonnon, a_ev_seqD_lst, a_ev_seqD_tup, a_ev_seqD_rol, ev_asK_str, ev_asK_int, ev_isDict_dK, ev_isDict_dT, a_ev_gEq_bl, a_ev_gNe_bl, a_ev_gAdd_tupI1, a_ev_gAdd_tupI2, a_ev_gLen_tupI, a_ev_gLen_lstI, a_ev_tupD_tupI, a_ev_lstD_lstI, a_ev_seqD_tupI, a_ev_seqD_lstI, a_ev_gIx_tupI, a_ev_gIx_lstI, a_ev_lstO_lstI, a_ev_gTuple_ints, ev_pow15, ev_atI_last, a_ev_gList_lst, a_ev_gList_tup, a_ev_gList_rol, a_ev_gList_tupI, a_ev_gSl_tupI, a_ev_gLt_tupI, a_ev_gSumL, a_ev_keysD_dT, a_ev_keysD_dK, c_dlook_dT, c_ownsL_nil, c_ownsL_cons, c_retM_nx, c_retM_rt, c_retM_rf, e_setOwns_nil, e_setOwns_cons, c_gO, e_slM, c_dlook_dK, c_dput_dT, c_dput_dK, c_asTK_tupI, c_optP_some, c_slotQ_val, c_slotQ_own, c_ownD, c_gdTup, c_BR_true, c_BR_false, isi_int_int, isi_int_bool, isi_int_tuple, isi_int_list, isi_int_str, isi_bl_int, isi_bl_bool, isi_bl_tuple, isi_bl_list, isi_bl_str, isi_non_int, isi_non_bool, isi_non_tuple, isi_non_list, isi_non_str, isi_str_int, isi_str_bool, isi_str_tuple, isi_str_list, isi_str_str, isi_lst_int, isi_lst_bool, isi_lst_tuple, isi_lst_list, isi_lst_str, isi_tup_int, isi_tup_bool, isi_tup_tuple, isi_tup_list, isi_tup_str, isi_dK_int, isi_dK_bool, isi_dK_tuple, isi_dK_list, isi_dK_str, isi_tupI_tuple, isi_tupI_list, isi_tupI_int, isi_lstI_list, isi_lstI_tuple, v_ix_w2, v_eq_atm, v_sl_body, v_eq_q2, v_list_tms, v_list_body, v_in_int, v_is_tup, v_is_int, v_is_str, v_is_atm, v_is_non, v_eq_tm, v_eq_q, v_ix_tm0, v_ix_tm1, v_ix_at0, v_ix_at1, v_ix_q0, v_ix_q1, v_tup_tms, v_tup_body, v_tuple_tms, v_tuple_body, v_len_body, v_len_tms, v_gd_tm, v_gd_at, v_gd_q, p18, p29]; try simp -dsimp only [AP1_eq, AP2_eq, BR_eq]))
/-! ### equal things are the same -/
def nice : Nat → D → Prop
  | 0, _ => False
  | n + 1, .tup xs => xs.length ≤ 100000 ∧ ∀ x ∈ xs, nice n x
  | _ + 1, .int _ => True
  | _ + 1, .str _ => True
  | _ + 1, _ => False
theorem L_kind (x : D) (P : D → Prop) (h : (∃ xs, x = .tup xs) ∨ (∃ i, x = .int i) ∨ (∃ s, x = .str s)) (hP : P (.bl true)) : g_law_alike_kind [x, x] P := by
  unfold g_law_alike_kind b_law_alike_kind
  rcases h with ⟨xs, rfl⟩ | ⟨i, rfl⟩ | ⟨s, rfl⟩
  · walk_at "ev"
    exact hP
  · walk_at "ev"
    exact hP
  · walk_at "ev"
    exact hP
theorem L_same : ∀ (n : Nat) (x : D) (P : D → Prop), nice n x → P (.bl true) → g_law_same n [x, x] P
  | 0, _, _, h, _ => h.elim
  | n + 1, .tup xs, P, h, hP => by
    obtain ⟨hl, hx⟩ := h
    unfold g_law_same b_law_same fSeqJ
    walk_at "ev"
    refine L_kind _ _ (.inl ⟨_, rfl⟩) ?_
    walk_at "ev"
    refine ⟨by omega, by omega, ?_⟩
    rw [Int.toNat_natCast]
    refine lc_rangeI (fun j acc ρ => acc = [] ∧ ρ = [.val (.tup xs), .val (.tup xs), .non]) 0 _ _ ⟨rfl, rfl⟩ (fun j acc ρ hj hI k k1 => ?_) (fun acc ρ hI => ?_)
    · obtain ⟨rfl, rfl⟩ := hI
      rw [Int.zero_add]
      walk_at "ev"
      rw [atI_q hj]
      walk_at "ev"
      rw [atI_q hj]
      walk_at "ev"
      refine L_same n _ _ (hx _ (List.getElem_mem hj)) ?_
      walk_at "ev"
      exact k1 _ _ ⟨rfl, rfl⟩
    · obtain ⟨rfl, rfl⟩ := hI
      walk_at "ev"
      exact hP
  | n + 1, .int i, P, h, hP => by
    unfold g_law_same b_law_same fSeqJ
    walk_at "ev"
    refine L_kind _ _ (.inr (.inl ⟨_, rfl⟩)) ?_
    walk_at "ev"
    exact hP
  | n + 1, .str i, P, h, hP => by
    unfold g_law_same b_law_same fSeqJ
    walk_at "ev"
    refine L_kind _ _ (.inr (.inr ⟨_, rfl⟩)) ?_
    walk_at "ev"
    exact hP
  | n + 1, .non, P, h, hP => h.elim
  | n + 1, .bl _, P, h, hP => h.elim
  | n + 1, .lst _, P, h, hP => h.elim
  | n + 1, .ty _, P, h, hP => h.elim
  | n + 1, .ref _, P, h, hP => h.elim
  | n + 1, .rol _, P, h, hP => h.elim
  | n + 1, .dT _ _, P, h, hP => h.elim
  | n + 1, .dK _ _, P, h, hP => h.elim
  | n + 1, .dN _ _, P, h, hP => h.elim
  | n + 1, .obj _ _ _, P, h, hP => h.elim
  | n + 1, .cls _, P, h, hP => h.elim
/-! ### draws -/
theorem L_take (d : D) (m : Int) (P : D → D → Prop) (hd : Box d) (hm : 0 < m) (hm2 : m ≤ 10 ^ 15) (h : ∀ r d', 0 ≤ r → r < m → Box d' → P (.int r) d') : g_law_take d [.int m] P := by
  obtain ⟨a, b, c, rfl, hc⟩ := hd
  unfold g_law_take b_law_take pot
  walk_at "ev"
  refine bool_if (fun e => ?_) (fun e => ?_)
  · have e := of_decide_eq_true e
    walk_at "ev"
    exact ⟨hm, cdivW hm (by omega), h _ _ (Int.emod_nonneg _ (by omega)) (Int.emod_lt_of_pos _ hm) ⟨_, _, _, rfl, .inl e⟩⟩
  · have e := of_decide_eq_false e
    have ha := hc.resolve_left e
    walk_at "ev"
    have b1 := Int.emod_lt_of_pos (a * ((b + 1) * 69621 + 48271)) (show (0 : Int) < 2147483647 by decide)
    have b2 := Int.emod_nonneg (a * ((b + 1) * 69621 + 48271)) (show (2147483647 : Int) ≠ 0 by decide)
    exact ⟨cmul_r _ (by decide), cmul_l _ (by omega), cmul_r _ (by omega), cmul_r _ (by decide), cdivW (by decide) (by decide), hm, h _ _ (Int.emod_nonneg _ (by omega)) (Int.emod_lt_of_pos _ hm) ⟨_, _, _, rfl, .inr ha⟩⟩
theorem L_box (ns : List Int) (k : Int) (P : D → Prop) (hl : ns.length ≤ 63) (hk : 0 ≤ k) (h : ∀ d, Box d → P d) : g_law_box [.rol (ns.map .int), .int k] P := by
  unfold g_law_box b_law_box
  walk_at "ev"
  refine bool_if (fun e => ?_) (fun e => ?_)
  · walk_at "ev"
    exact h _ ⟨_, _, _, rfl, .inl rfl⟩
  · walk_at "ev"
    refine seqJ (fun ρ => ρ = [.val (.rol (ns.map .int)), .val (.int k), .non]) (fun Q q1 q2 q3 q4 q5 => ?_) (fun ρ hI => ?_)
    · walk_at "ev"
      refine bool_if (fun e => ?_) (fun e => ?_)
      · have e := of_decide_eq_true e
        have hk' : k.toNat < ns.length := by omega
        have e2 : atI (ns.map D.int) k = some (.int ns[k.toNat]) := by
          obtain ⟨j, rfl⟩ := Int.eq_ofNat_of_zero_le hk
          exact atI_mapN _ (List.getElem?_eq_getElem (by omega))
        walk_at "ev"
        rw [e2]
        walk_at "ev"
        refine ⟨cpow10 (by decide) (by decide), bool_if (fun e => ?_) (fun e => ?_)⟩
        · walk_at "ev"
          rw [e2]
          walk_at "ev"
          exact q5 _ _ (h _ ⟨_, _, _, rfl, .inl rfl⟩)
        · walk_at "ev"
          exact q1 _ rfl
      · walk_at "ev"
        exact q1 _ rfl
    · subst hI
      walk_at "ev"
      rw [cutD_map]
      walk_at "ev"
      generalize (cutL ns none (some 63)).sum = s
      refine seqJ (fun ρ => ∃ x : Int, ρ = [.val (.rol (ns.map .int)), .val (.int k), .val (.int x)]) (fun Q q1 q2 q3 q4 q5 => ?_) (fun ρ hI => ?_)
      · walk_at "ev"
        refine bool_if (fun e => ?_) (fun e => ?_)
        · have e := of_decide_eq_true e
          have e2 : atI (ns.map D.int) k = some (.int ns[k.toNat]) := by
            obtain ⟨j, rfl⟩ := Int.eq_ofNat_of_zero_le hk
            exact atI_mapN _ (List.getElem?_eq_getElem (by omega))
          walk_at "ev"
          rw [e2]
          walk_at "ev"
          exact q1 _ ⟨_, rfl⟩
        · walk_at "ev"
          exact q1 _ ⟨_, rfl⟩
      · obtain ⟨x, rfl⟩ := hI
        walk_at "ev"
        have b1 := Int.emod_lt_of_pos x (show (0 : Int) < 999999937 by decide)
        have b2 := Int.emod_nonneg x (show (999999937 : Int) ≠ 0 by decide)
        exact ⟨cmul_l _ (by decide), h _ ⟨_, _, _, rfl, .inr (by omega)⟩⟩
/-! ### the world -/
theorem L_spread (d : D) (menu : List D) (P : D → D → Prop) (hd : Box d) (hm : menu.length = 7) (h : ∀ x y z d', x ∈ menu → y ∈ menu → z ∈ menu → Box d' → P (.lst [x, y, z]) d') : g_law_spread d [.lst menu] P := by
  unfold g_law_spread b_law_spread
  walk_at "ev"
  refine L_take d 7 _ hd (by decide) (by decide) fun r d1 h1 h2 hd1 => ?_
  walk_at "ev"
  refine L_take d1 6 _ hd1 (by decide) (by decide) fun r2 d2 h3 h4 hd2 => ?_
  walk_at "ev"
  have rg : ∀ x : Int, (x % 7).toNat < menu.length := fun x => by
    have b1 := Int.emod_lt_of_pos x (show (0 : Int) < 7 by decide)
    have b2 := Int.emod_nonneg x (show (7 : Int) ≠ 0 by decide)
    omega
  refine lc_range 3 (fun i => menu[((r + (i : Int) * (1 + r2)) % 7).toNat]'(rg _)) (by decide) (fun i hi k hk => ?_) ?_
  · walk_at "ev"
    have e2 := atI_z (Int.emod_nonneg (r + (i : Int) * (1 + r2)) (show (7 : Int) ≠ 0 by decide)) (rg (r + (i : Int) * (1 + r2)))
    refine ⟨cmul_r _ (by omega), ?_⟩
    rw [e2]
    walk_at "ev"
    exact hk _ rfl
  · walk_at "ev"
    exact h _ _ _ _ (List.getElem_mem _) (List.getElem_mem _) (List.getElem_mem _) hd2
structure WOk (ns : List Str) (A : List (Str × Int)) (nums : List Int) : Prop where
  l1 : ns.length = 3
  l2 : nums.length = 3
  sz : ∀ n ∈ ns, ∃ v, getA A n = some v ∧ 0 ≤ v ∧ v ≤ 3
theorem inr_inj : ∀ a b : Str, (Sum.inr a : Key) = Sum.inr b → a = b := fun a b h => Sum.inr.inj h
theorem L_world (d : D) (P : D → D → Prop) (hd : Box d) (h : ∀ ns A nums d', WOk ns A nums → Box d' → P (wD ns A nums) d') : g_law_world d [.str "", .lst []] P := by
  unfold g_law_world b_law_world
  walk_at "ev"
  refine L_spread d _ _ hd rfl fun x y z d1 hx hy hz hd1 => ?_
  have hs : ∀ x ∈ ([.str "road", .str "b", .str "ab", .str "owner'", .str "zz", .str "aaaaaaaa", .str "c"] : List D), ∃ s, x = .str s := by
    intro x hx
    simp only [List.mem_cons, List.not_mem_nil, or_false] at hx
    rcases hx with rfl | rfl | rfl | rfl | rfl | rfl | rfl <;> exact ⟨_, rfl⟩
  obtain ⟨a, rfl⟩ := hs x hx
  obtain ⟨b, rfl⟩ := hs y hy
  obtain ⟨c, rfl⟩ := hs z hz
  walk_at "ev"
  refine ⟨cpow10 (by decide) (by decide), L_spread d1 _ _ hd1 rfl fun x y z d2 hx hy hz hd2 => ?_⟩
  have hs : ∀ x ∈ ([.int 0, .int 1, .int (-2), .int 3, .int 2, .int (100000000000000000000000000000 + 7), .int (-1)] : List D), ∃ s, x = .int s := by
    intro x hx
    simp only [List.mem_cons, List.not_mem_nil, or_false] at hx
    rcases hx with rfl | rfl | rfl | rfl | rfl | rfl | rfl <;> exact ⟨_, rfl⟩
  obtain ⟨u, rfl⟩ := hs x hx
  obtain ⟨v, rfl⟩ := hs y hy
  obtain ⟨w, rfl⟩ := hs z hz
  clear hs hx hy hz
  walk_at "ev"
  refine for_invT D.str (fun j ρ => ∃ (A : List (Str × Int)) (d3 : D) (q : Sl), Box d3 ∧ A.length ≤ j ∧ (A.map (·.1)).Nodup ∧ (∀ n ∈ [a, b, c].take j, ∃ v, getA A n = some v ∧ 0 ≤ v ∧ v ≤ 3) ∧ ρ = [.own d3, .val (.str ""), .val (.lst []), .val (.lst [.str a, .str b, .str c]), .val (.lst [.int u, .int v, .int w]), .own (.dK (A.map fun p => .inr p.1) (A.map fun p => .int p.2)), q]) [a, b, c] _
    ⟨[], d2, _, hd2, Nat.le_refl _, List.nodup_nil, fun n hn => (nomatch hn), rfl⟩ (fun j n ρ q hI k k1 k2 k3 k4 => ?_) (fun ρ hI => ?_)
  · obtain ⟨A, d3, q', hd3, hl, nd, hA, rfl⟩ := hI
    have hj := (List.getElem?_eq_some_iff.mp q).1
    walk_at "ev"
    refine L_take d3 7 _ hd3 (by decide) (by decide) fun r d4 h1 h2 hd4 => ?_
    walk_at "ev"
    have e := atI_z (xs := [.int 1, .int 2, .int 3, .int 0, .int 2, .int 1, .int 2]) h1 (by show r.toNat < 7; omega)
    have hv : ∃ v : Int, ([.int 1, .int 2, .int 3, .int 0, .int 2, .int 1, .int 2] : List D)[r.toNat]'(by show r.toNat < 7; omega) = .int v ∧ 0 ≤ v ∧ v ≤ 3 := by
      have : ∀ (k : Nat) (hk : k < 7), ∃ v : Int, ([.int 1, .int 2, .int 3, .int 0, .int 2, .int 1, .int 2] : List D)[k]'hk = .int v ∧ 0 ≤ v ∧ v ≤ 3 := by
        intro k hk
        match k, hk with
        | 0, _ => exact ⟨1, rfl, by decide⟩
        | 1, _ => exact ⟨2, rfl, by decide⟩
        | 2, _ => exact ⟨3, rfl, by decide⟩
        | 3, _ => exact ⟨0, rfl, by decide⟩
        | 4, _ => exact ⟨2, rfl, by decide⟩
        | 5, _ => exact ⟨1, rfl, by decide⟩
        | 6, _ => exact ⟨2, rfl, by decide⟩
        | k + 7, h => omega
      exact this _ (by omega)
    obtain ⟨v, ev, hv⟩ := hv
    rw [e, ev]
    walk_at "ev"
    have hj3 : j < 3 := hj
    have e1 := putK_A (κ := Key) .inr inr_inj n v A
    have e2 := putV_A (κ := Key) .inr D.int inr_inj n v A nd
    refine ⟨by omega, ?_⟩
    rw [e1, e2]
    refine (k1 _ ⟨setA A n v, d4, _, hd4, Nat.le_trans (len_setA A n v) (by omega), nodup_setA nd, fun m hm => ?_, rfl⟩).1
    rw [getA_setA]
    rcases (mem_take_q q).mp hm with hm | hm
    · split
      · exact ⟨v, rfl, hv⟩
      · exact hA m hm
    · rw [if_pos hm]
      exact ⟨v, rfl, hv⟩
  · obtain ⟨A, d3, q', hd3, hl, nd, hA, rfl⟩ := hI
    walk_at "ev"
    exact h [a, b, c] A [u, v, w] d3 ⟨rfl, rfl, hA⟩ hd3
/-! ### numbering of the law's own -/
theorem L_ordered (d : D) (b : List Atm) (P : D → Prop) (hd : d = .lst (b.map dAtm) ∨ d = dBody b) (nf : NF b) (hb : (tms b).length ≤ 1000) (h : P (.lst ((ordV b).map .int))) : g_law_ordered [d] P := by
  unfold g_law_ordered b_law_ordered
  have es : ∀ Q : List D → Prop, seqD d Q = Q (b.map dAtm) := fun Q => by rcases hd with rfl | rfl <;> rfl
  walk_at "ev"
  rw [es]
  refine for_invT dAtm (fun j ρ => ∃ (x y : Sl), ρ = [.val d, .own (.lst ((ordV (b.take j)).map .int)), x, y]) b _
    ⟨_, _, rfl⟩ (fun j a ρ q hI k k1 k2 k3 k4 => ?_) (fun ρ hI => ?_)
  · obtain ⟨x, y, rfl⟩ := hI
    have ha := List.mem_of_getElem? q
    have et : tms (b.take (j + 1)) = tms (b.take j) ++ a.2 := by
      unfold tms
      rw [take_q q, List.flatMap_append]; simp
    have hlen : ((tms (b.take j)) ++ a.2).length ≤ 1000 := by
      rw [← et]
      refine Nat.le_trans ?_ hb
      have : tms b = tms (b.take (j + 1)) ++ tms (b.drop (j + 1)) := by
        unfold tms
        rw [← List.flatMap_append, List.take_append_drop]
      rw [this, List.length_append]; omega
    walk_at "ev"
    refine for_invT dTm (fun i ρ => ∃ (y : Sl), ρ = [.val d, .own (.lst ((flA [] ((tms (b.take j) ++ a.2.take i).map fre)).map .int)), .val (dAtm a), y]) a.2 _ ⟨_, by rw [List.take_zero, List.append_nil]; rfl⟩ (fun i t ρ q2 hI k k1' k2 k3 k4 => ?_) (fun ρ hI => ?_)
    · obtain ⟨y, rfl⟩ := hI
      have ht := nf a ha t (List.mem_of_getElem? q2)
      have hi := (List.getElem?_eq_some_iff.mp q2).1
      have step := flA_fre ht [] (tms (b.take j) ++ a.2.take i)
      rw [List.append_assoc, ← take_q q2] at step
      have hL : (flA [] ((tms (b.take j) ++ a.2.take i).map fre)).length < 100000 := by
        have := flA_len ((tms (b.take j) ++ a.2.take i).map fre) []
        rw [List.length_map, List.length_nil, List.length_append, List.length_take] at this
        rw [List.length_append] at hlen
        omega
      revert step hL
      generalize flA [] ((tms (b.take j) ++ a.2.take i).map fre) = F
      intro step hL
      have fin : ∀ F', F' = (if t.1 = "var" ∧ t.2 ∉ F then F ++ [t.2] else F) → ∀ y, k (.nx [.val d, .own (.lst (F'.map .int)), .val (dAtm a), y]) := fun F' e y => (k1' _ ⟨y, by rw [step, ← e]⟩).1
      walk_at "ev"
      refine bool_if (fun e => ?_) (fun e => ?_)
      · have e := of_decide_eq_true e
        walk_at "ev"
        refine bool_ifF (fun e2 => ?_) (fun e2 => ?_)
        · walk_at "ev"
          refine ⟨hL, ?_⟩
          have := fin (F ++ [t.2]) (by rw [if_pos ⟨e, of_decide_eq_false e2⟩]) (.val (dTm t))
          rw [List.map_append] at this
          exact this
        · walk_at "ev"
          exact fin F (by rw [if_neg (fun z => z.2 (of_decide_eq_true e2))]) _
      · have e := of_decide_eq_false e
        walk_at "ev"
        exact fin F (by rw [if_neg (fun z => e z.1)]) _
    · obtain ⟨y, rfl⟩ := hI
      rw [List.take_length]
      walk_at "ev"
      exact (k1 _ ⟨_, _, by unfold ordV; rw [et]⟩).1
  · obtain ⟨x, y, rfl⟩ := hI
    rw [List.take_length]
    walk_at "ev"
    exact h
theorem L_many (d : D) (b : List Atm) (P : D → Prop) (hd : d = .lst (b.map dAtm) ∨ d = dBody b) (nf : NF b) (hb : (tms b).length ≤ 1000) (h : P (.int (ordV b).length)) : g_law_many [d] P := by
  unfold g_law_many b_law_many
  walk_at "ev"
  refine L_ordered d b _ hd nf hb ?_
  walk_at "ev"
  exact h
theorem L_placed (t : Tm) (o : List Int) (P : D → Prop) (ht : t.1 = "var" → t.2 ∈ o) (h : P (dTm (trn (inv o) t))) : g_law_placed [dTm t, .lst (o.map .int)] P := by
  unfold g_law_placed b_law_placed
  walk_at "ev"
  refine bool_if (fun e => ?_) (fun e => ?_)
  · have e := of_decide_eq_true e
    walk_at "ev"
    show gIndex (o.map .int) (.int t.2) _
    unfold gIndex
    rw [intsD_eq]
    walk_at "ev"
    refine ⟨ht e, ?_⟩
    walk_at "ev"
    unfold trn at h
    rw [if_pos e] at h
    exact h
  · have e := of_decide_eq_false e
    walk_at "ev"
    unfold trn at h
    rw [if_neg e] at h
    exact h
theorem L_turned (ts : List Tm) (m : Nat) (o : List Int) (P : D → Prop) (ho : IsOrd m o) (ht : ∀ i, vT i ∈ ts → 0 ≤ i ∧ i < m) (hl : ts.length ≤ 1000) (h : P (dTms (ts.map (trn (ofn o))))) : g_law_turned [dTms ts, .lst (o.map .int)] P := by
  unfold g_law_turned b_law_turned
  walk_at "ev"
  refine for_invT dTm (fun j ρ => ∃ (y : Sl), ρ = [.val (dTms ts), .val (.lst (o.map .int)), .own (.lst (((ts.take j).map (trn (ofn o))).map dTm)), y]) ts _ ⟨_, rfl⟩ (fun j t ρ q hI k k1 k2 k3 k4 => ?_) (fun ρ hI => ?_)
  · obtain ⟨y, rfl⟩ := hI
    have htm := List.mem_of_getElem? q
    have hj := (List.getElem?_eq_some_iff.mp q).1
    have hL : ((ts.take j).map (trn (ofn o))).length < 100000 := by rw [List.length_map, List.length_take]; omega
    have step : (ts.take (j + 1)).map (trn (ofn o)) = (ts.take j).map (trn (ofn o)) ++ [trn (ofn o) t] := by rw [take_q q, List.map_append]; rfl
    rw [step] at k1
    revert k1 hL
    generalize (ts.take j).map (trn (ofn o)) = F
    intro k1 hL
    rw [List.map_append] at k1
    walk_at "ev"
    refine bool_if (fun e => ?_) (fun e => ?_)
    · have e := of_decide_eq_true e
      have hr := ht t.2 (tm_var e ▸ htm)
      obtain ⟨hk, e2⟩ := ho.get hr
      have e3 : atI (o.map D.int) t.2 = some (.int (ofn o t.2)) := by
        rw [e2, atI_z hr.1 (by rw [List.length_map]; exact hk), List.getElem_map]
      walk_at "ev"
      rw [e3]
      walk_at "ev"
      refine ⟨hL, ?_⟩
      have e4 : trn (ofn o) t = vT (ofn o t.2) := by unfold trn; rw [if_pos e]
      rw [e4] at k1
      exact (k1 _ ⟨_, rfl⟩).1
    · have e := of_decide_eq_false e
      walk_at "ev"
      refine ⟨hL, ?_⟩
      have e4 : trn (ofn o) t = t := by unfold trn; rw [if_neg e]
      rw [e4] at k1
      exact (k1 _ ⟨_, rfl⟩).1
  · obtain ⟨y, rfl⟩ := hI
    rw [List.take_length]
    walk_at "ev"
    exact h
theorem L_numbered (h : List Tm) (b : List Atm) (P : D → Prop) (nf : NF b) (hb : (tms b).length ≤ 1000) (hl : b.length ≤ 1000) (hh : h.length ≤ 1000) (hv : ∀ i, vT i ∈ h → i ∈ ordV b) (hP : P (dQ (numQ h b))) : g_law_numbered [.lst (h.map dTm), .lst (b.map dAtm)] P := by
  unfold g_law_numbered b_law_numbered
  walk_at "ev"
  refine L_ordered _ b _ (.inl rfl) nf hb ?_
  walk_at "ev"
  refine for_invT dAtm (fun j ρ => ∃ (y : Sl), ρ = [.val (.lst (h.map dTm)), .val (.lst (b.map dAtm)), .val (.lst ((ordV b).map .int)), .own (.lst (((b.take j).map (trnA (inv (ordV b)))).map dAtm)), y, .non]) b _ ⟨_, rfl⟩ (fun j a ρ q hI k k1 k2 k3 k4 => ?_) (fun ρ hI => ?_)
  · obtain ⟨y, rfl⟩ := hI
    have ha := List.mem_of_getElem? q
    have hj := (List.getElem?_eq_some_iff.mp q).1
    have hta : a.2.length ≤ 1000 := by
      refine Nat.le_trans ?_ hb
      obtain ⟨l, r, e⟩ := List.append_of_mem ha
      rw [e]; unfold tms; simp; omega
    have hL : ((b.take j).map (trnA (inv (ordV b)))).length < 100000 := by rw [List.length_map, List.length_take]; omega
    have step : (b.take (j + 1)).map (trnA (inv (ordV b))) = (b.take j).map (trnA (inv (ordV b))) ++ [trnA (inv (ordV b)) a] := by rw [take_q q, List.map_append]; rfl
    rw [step] at k1
    revert k1 hL
    generalize (b.take j).map (trnA (inv (ordV b))) = F
    intro k1 hL
    rw [List.map_append] at k1
    walk_at "ev"
    refine lc_mapT dTm (fun t => dTm (trn (inv (ordV b)) t)) a.2 [] (by rw [List.length_nil]; omega) (fun t ht k hk => ?_) ?_
    · walk_at "ev"
      refine L_placed t (ordV b) _ (fun e => (ordV_mem nf).mpr ⟨a, ha, tm_var e ▸ ht⟩) ?_
      exact hk _ rfl
    · walk_at "ev"
      refine ⟨hL, ?_⟩
      have e : D.tup (a.2.map fun t => dTm (trn (inv (ordV b)) t)) = dTms (a.2.map (trn (inv (ordV b)))) := by unfold dTms; rw [List.map_map]; rfl
      rw [e]
      exact (k1 _ ⟨_, rfl⟩).1
  · obtain ⟨y, rfl⟩ := hI
    rw [List.take_length]
    walk_at "ev"
    refine lc_mapT dTm (fun t => dTm (trn (inv (ordV b)) t)) h [] (by rw [List.length_nil]; omega) (fun t ht k hk => ?_) ?_
    · walk_at "ev"
      refine L_placed t (ordV b) _ (fun e => hv _ (tm_var e ▸ ht)) ?_
      exact hk _ rfl
    · walk_at "ev"
      have e : D.tup (h.map fun t => dTm (trn (inv (ordV b)) t)) = dTms (h.map (trn (inv (ordV b)))) := by unfold dTms; rw [List.map_map]; rfl
      rw [e]
      exact hP
/-! ### orders -/
theorem cut_int_l (o : List Int) (p : Nat) : cutD (o.map .int) none (some (p : Int)) = (o.take p).map .int := by rw [cutD_map, cutL_take]
theorem cut_int_r (o : List Int) (p : Nat) : cutD (o.map .int) (some (p : Int)) none = (o.drop p).map .int := by rw [cutD_map, cutL_drop]
theorem ins_map (o : List Int) (p : Nat) (k : Int) : (o.take p).map D.int ++ [D.int k] ++ (o.drop p).map D.int = (ins p k o).map D.int := by unfold ins; rw [List.map_append, List.map_append]; rfl
theorem L_orders (m : Nat) (P : D → Prop) (hm : m ≤ 4) (h : P (.lst ((ords m).map lstI))) : g_law_orders [.int m] P := by
  unfold g_law_orders b_law_orders
  walk_at "ev"
  refine ⟨by omega, by omega, ?_⟩
  rw [Int.toNat_natCast]
  refine for_range (fun j ρ => ∃ (x y z u : Sl), ρ = [.val (.int m), .val (.lst ((ords j).map lstI)), x, y, z, u]) 0 m _ ⟨_, _, _, _, rfl⟩ (fun j ρ hj hI k k1 k2 k3 k4 => ?_) (fun ρ hI => ?_)
  · obtain ⟨x, y, z, u, rfl⟩ := hI
    rw [Int.zero_add]
    have hol := (ords_len j).resolve_right (by omega)
    have hol : (ords j).length ≤ 256 := Nat.le_trans hol (Nat.le_trans (Nat.pow_le_pow_right (by decide) (show j ≤ 4 by omega)) (by decide))
    walk_at "ev"
    refine for_invT lstI (fun i ρ => ∃ (z u : Sl), ρ = [.val (.int m), .val (.lst ((ords j).map lstI)), .val (.int j), .own (.lst ((((ords j).take i).flatMap fun o => (List.range (j + 1)).map fun p => ins p (j : Int) o).map lstI)), z, u]) (ords j) _ ⟨_, _, rfl⟩ (fun i o ρ q hI k k1' k2 k3 k4 => ?_) (fun ρ hI => ?_)
    · obtain ⟨z, u, rfl⟩ := hI
      have ho := (ords_ord j o).mp (List.mem_of_getElem? q)
      have hi := (List.getElem?_eq_some_iff.mp q).1
      have step : ((ords j).take (i + 1)).flatMap (fun o => (List.range (j + 1)).map fun p => ins p (j : Int) o) = (((ords j).take i).flatMap fun o => (List.range (j + 1)).map fun p => ins p (j : Int) o) ++ (List.range (j + 1)).map fun p => ins p (j : Int) o := by
        rw [take_q q, List.flatMap_append]; simp
      rw [step] at k1'
      have hL : (((ords j).take i).flatMap fun o => (List.range (j + 1)).map fun p => ins p (j : Int) o).length ≤ 256 * 5 := by
        have e : ∀ os : List (List Int), (os.flatMap fun o => (List.range (j + 1)).map fun p => ins p (j : Int) o).length = os.length * (j + 1) := fun os => by
          induction os with
          | nil => simp
          | cons o os ih =>
            rw [List.flatMap_cons, List.length_append, ih, List.length_map, List.length_range, List.length_cons, Nat.succ_mul]; omega
        rw [e, List.length_take]
        exact Nat.mul_le_mul (by omega) (by omega)
      revert k1' hL
      generalize ((ords j).take i).flatMap (fun o => (List.range (j + 1)).map fun p => ins p (j : Int) o) = F
      intro k1' hL
      walk_at "ev"
      refine ⟨by omega, by omega, ?_⟩
      rw [show ((j : Int) + 1).toNat = j + 1 by omega]
      have e0 : F ++ (List.range 0).map (fun p => ins p (j : Int) o) = F := by simp
      refine for_range (fun p ρ => ∃ (u : Sl), ρ = [.val (.int m), .val (.lst ((ords j).map lstI)), .val (.int j), .own (.lst ((F ++ (List.range p).map fun p => ins p (j : Int) o).map lstI)), .val (lstI o), u]) 0 (j + 1) _ ⟨_, by rw [e0]⟩ (fun p ρ hp hI k k1 k2 k3 k4 => ?_) (fun ρ hI => ?_)
      · obtain ⟨u, rfl⟩ := hI
        rw [Int.zero_add]
        have e1 : F ++ (List.range (p + 1)).map (fun p => ins p (j : Int) o) = (F ++ (List.range p).map fun p => ins p (j : Int) o) ++ [ins p (j : Int) o] := by rw [List.range_succ, List.map_append, ← List.append_assoc]; rfl
        rw [e1] at k1
        clear e1
        have hG : (F ++ (List.range p).map fun p => ins p (j : Int) o).length < 100000 := by rw [List.length_append, List.length_map, List.length_range]; omega
        revert k1 hG
        generalize F ++ (List.range p).map (fun p => ins p (j : Int) o) = G
        intro k1 hG
        have hol := ho.len
        unfold lstI
        walk_at "ev"
        rw [cut_int_l, cut_int_r]
        walk_at "ev"
        refine ⟨by rw [List.length_take]; omega, by rw [List.length_append, List.length_map, List.length_take, List.length_singleton, List.length_drop]; omega, hG, ?_⟩
        rw [ins_map]
        rw [List.map_append] at k1
        exact (k1 _ ⟨_, rfl⟩).1
      · obtain ⟨u, rfl⟩ := hI
        exact (k1' _ ⟨_, _, rfl⟩).1
    · obtain ⟨z, u, rfl⟩ := hI
      rw [List.take_length]
      walk_at "ev"
      exact (k1 _ ⟨_, _, _, _, rfl⟩).1
  · obtain ⟨x, y, z, u, rfl⟩ := hI
    walk_at "ev"
    exact h

theorem L_renamed_q (q : Qy) (m : Nat) (o : List Int) (P : D → Prop) (w : QW m q) (ho : IsOrd m o) (hh : q.1.length ≤ 1000) (hb : q.2.length ≤ 1000) (ht : ∀ a ∈ q.2, a.2.length ≤ 1000) (h : P (dQ (trnQ (ofn o) q))) : g_law_renamed [dQ q, .lst (o.map .int)] P := by
  unfold g_law_renamed b_law_renamed
  walk_at "ev"
  refine lc_mapT dAtm (fun a => dAtm (trnA (ofn o) a)) q.2 [] (by rw [List.length_nil]; omega) (fun a ha k hk => ?_) ?_
  · walk_at "ev"
    refine L_turned a.2 m o _ ho (fun i hi => (w.bv i).mp ⟨a, ha, hi⟩) (ht a ha) ?_
    walk_at "ev"
    exact hk _ rfl
  · walk_at "ev"
    refine L_turned q.1 m o _ ho w.hv hh ?_
    walk_at "ev"
    have e : (q.2.map fun a => dAtm (trnA (ofn o) a)) = (q.2.map (trnA (ofn o))).map dAtm := by rw [List.map_map]; rfl
    rw [e, gSortD_enc enc_atm (by decide) (fun xs => .inl fun d hd => by
      obtain ⟨x, hx, rfl⟩ := List.mem_map.mp hd
      obtain ⟨a, _, rfl⟩ := List.mem_map.mp hx
      exact ⟨_, _, rfl⟩) _ _ (.inl rfl)]
    walk_at "ev"
    exact h
/-- queries as the law draws them -/
structure QOk (m : Nat) (q : Qy) : Prop where
  w : QW m q
  m4 : m ≤ 4
  h3 : q.1.length ≤ 3
  b4 : q.2.length ≤ 4
  b1 : 1 ≤ q.2.length
  t3 : ∀ a ∈ q.2, a.2.length ≤ 3
theorem tms_len : ∀ {b : List Atm} {n : Nat}, (∀ a ∈ b, a.2.length ≤ n) → (tms b).length ≤ b.length * n
  | [], _, _ => Nat.zero_le _
  | a :: b, n, h => by
    have := tms_len (b := b) (n := n) fun x hx => h x (List.mem_cons_of_mem _ hx)
    have := h a List.mem_cons_self
    unfold tms at *
    rw [List.flatMap_cons, List.length_append, List.length_cons, Nat.succ_mul]; omega
theorem QOk.tms {m : Nat} {q : Qy} (h : QOk m q) : (LK36.tms q.2).length ≤ 1000 := by
  have := tms_len h.t3
  have := h.b4
  omega
theorem L_many_q (q : Qy) (m : Nat) (P : D → Prop) (h : QOk m q) (hP : P (.int m)) : g_law_many [dBody q.2] P := by
  refine L_many _ q.2 P (.inr rfl) h.w.bk h.tms ?_
  rw [h.w.m_ordV]
  exact hP
theorem ords_le {m : Nat} (h : m ≤ 4) : (ords m).length ≤ 256 := Nat.le_trans ((ords_len m).resolve_right (by omega)) (Nat.le_trans (Nat.pow_le_pow_right (by decide) h) (by decide))
theorem L_least (q L : Qy) (m : Nat) (P : D → Prop) (h : QOk m q) (hL : Least m q L) (hP : P (dQ L)) : g_law_least [dQ q] P := by
  unfold g_law_least b_law_least
  walk_at "ev"
  refine L_many_q q m _ h ?_
  walk_at "ev"
  refine L_orders m _ h.m4 ?_
  walk_at "ev"
  have hl := ords_le h.m4
  refine lc_mapT lstI (fun o => dQ (trnQ (ofn o) q)) (ords m) [] (by rw [List.length_nil]; omega) (fun o ho k hk => ?_) ?_
  · walk_at "ev"
    refine L_renamed_q q m o _ h.w ((ords_ord m o).mp ho) (by have := h.h3; omega) (by have := h.b4; omega) (fun a ha => by have := h.t3 a ha; omega) ?_
    exact hk _ rfl
  · walk_at "ev"
    have e : ((ords m).map fun o => dQ (trnQ (ofn o) q)) = ((ords m).map fun o => trnQ (ofn o) q).map dQ := by rw [List.map_map]; rfl
    rw [e]
    refine gMinL_enc enc_q (by decide) _ ?_ _ fun M hM hm => ?_
    · obtain ⟨o, ho, _⟩ := hL.att
      exact List.ne_nil_of_mem (List.mem_map.mpr ⟨o, (ords_ord m o).mpr ho, rfl⟩)
    · have := hL.min (fun o ho => (ords_ord m o).mp ho) (fun o ho => (ords_ord m o).mpr ho) hM hm
      subst this
      walk_at "ev"
      exact hP
theorem L_shuffled (d : D) (m : Nat) (P : D → D → Prop) (hd : Box d) (hm : m ≤ 100) (h : ∀ o d', IsOrd m o → Box d' → P (.lst (o.map .int)) d') : g_law_shuffled d [.int m] P := by
  unfold g_law_shuffled b_law_shuffled
  walk_at "ev"
  refine ⟨by omega, by omega, ?_⟩
  rw [Int.toNat_natCast]
  refine for_range (fun j ρ => ∃ (o : List Int) (d' : D) (x y : Sl), IsOrd j o ∧ Box d' ∧ ρ = [.own d', .val (.int m), .val (.lst (o.map .int)), x, y]) 0 m _ ⟨[], d, _, _, List.Perm.refl _, hd, rfl⟩ (fun j ρ hj hI k k1 k2 k3 k4 => ?_) (fun ρ hI => ?_)
  · obtain ⟨o, d', x, y, ho, hd', rfl⟩ := hI
    rw [Int.zero_add]
    walk_at "ev"
    refine L_take d' _ _ hd' (by omega) (by omega) fun r d2 h1 h2 hd2 => ?_
    obtain ⟨p, rfl⟩ := Int.eq_ofNat_of_zero_le h1
    have hol := ho.len
    walk_at "ev"
    rw [cut_int_l, cut_int_r]
    walk_at "ev"
    refine ⟨by rw [List.length_take]; omega, by rw [List.length_append, List.length_map, List.length_take, List.length_singleton, List.length_drop]; omega, ?_⟩
    rw [ins_map]
    exact (k1 _ ⟨ins p j o, d2, _, _, ins_ord ho, hd2, rfl⟩).1
  · obtain ⟨o, d', x, y, ho, hd', rfl⟩ := hI
    walk_at "ev"
    exact h o d' ho hd'
theorem gSort_atms (d : D) (xs : List Atm) (P : D → Prop) (hd : d = .lst (xs.map dAtm) ∨ d = dBody xs) : gSortD [d] P = P (.lst ((sortB alt xs).map dAtm)) :=
  gSortD_enc enc_atm (by decide) (fun xs => .inl fun d hd => by
      obtain ⟨x, hx, rfl⟩ := List.mem_map.mp hd
      obtain ⟨a, _, rfl⟩ := List.mem_map.mp hx
      exact ⟨_, _, rfl⟩) d xs hd P
def gA (b : List Atm) (p : Int) : Atm := b.getD p.toNat (("" : Str), [])
theorem gIx_body (b : List Atm) {p : Int} (P : D → Prop) (h0 : 0 ≤ p) (h : p < b.length) : gIx (dBody b) (.int p) P = P (dAtm (gA b p)) := by
  unfold dBody
  have hp : p.toNat < b.length := by omega
  rw [ev_gIx_tup, atI_z h0 (by rw [List.length_map]; omega), List.getElem_map]
  unfold gA
  rw [List.getD_eq_getElem?_getD, List.getElem?_eq_getElem hp]
  rfl
theorem gA_mem {b : List Atm} {p : Int} (h0 : 0 ≤ p) (h : p < b.length) : gA b p ∈ b := by
  unfold gA
  have hp : p.toNat < b.length := by omega
  rw [List.getD_eq_getElem?_getD, List.getElem?_eq_getElem hp]
  exact List.getElem_mem hp
theorem gA_all (b : List Atm) : (iotaI b.length).map (gA b) = b := by
  refine List.ext_getElem? fun i => ?_
  rw [List.getElem?_map]
  by_cases h : i < b.length
  · unfold iotaI
    rw [List.getElem?_map, List.getElem?_range h, List.getElem?_eq_getElem h]
    show some (gA b (i : Nat)) = some b[i]
    unfold gA
    rw [Int.toNat_natCast, List.getD_eq_getElem?_getD, List.getElem?_eq_getElem h]
    rfl
  · rw [List.getElem?_eq_none (by rw [iota_len]; omega), List.getElem?_eq_none (by omega)]
    rfl
theorem L_twin (d : D) (q : Qy) (m : Nat) (P : D → D → Prop) (hd : Box d) (h : QOk m q) (hP : ∀ q' o d', QOk m q' → IsOrd m o → q'.1 = q.1.map (trn (ofn o)) → q'.2.Perm (q.2.map (trnA (ofn o))) → Box d' → P (dQ q') d') : g_law_twin d [dQ q] P := by
  unfold g_law_twin b_law_twin
  walk_at "ev"
  refine L_many_q q m _ h ?_
  walk_at "ev"
  refine L_shuffled d m _ hd (by have := h.m4; omega) fun o d1 ho hd1 => ?_
  walk_at "ev"
  refine L_shuffled d1 q.2.length _ hd1 (by have := h.b4; omega) fun ps d2 hps hd2 => ?_
  walk_at "ev"
  have hb4 := h.b4
  have hpl := hps.len
  refine lc_mapT D.int (fun p => dAtm (trnA (ofn o) (gA q.2 p))) ps [] (by rw [List.length_nil]; omega) (fun p hp k hk => ?_) ?_
  · have hr := hps.mem.mp hp
    walk_at "ev"
    rw [gIx_body _ _ hr.1 hr.2]
    walk_at "ev"
    rw [gIx_body _ _ hr.1 hr.2]
    walk_at "ev"
    have hm := gA_mem hr.1 hr.2
    refine L_turned _ m o _ ho (fun i hi => (h.w.bv i).mp ⟨_, hm, hi⟩) (by have := h.t3 _ hm; omega) ?_
    walk_at "ev"
    exact hk _ rfl
  · walk_at "ev"
    refine L_turned q.1 m o _ ho h.w.hv (by have := h.h3; omega) ?_
    walk_at "ev"
    have e : D.tup (ps.map fun p => dAtm (trnA (ofn o) (gA q.2 p))) = dBody ((ps.map (gA q.2)).map (trnA (ofn o))) := by unfold dBody; rw [List.map_map, List.map_map]; rfl
    rw [e]
    have pm : (ps.map (gA q.2)).Perm q.2 := by
      have := hps.map (gA q.2)
      rw [gA_all] at this
      exact this
    have hq : QOk m (q.1.map (trn (ofn o)), (ps.map (gA q.2)).map (trnA (ofn o))) := by
      refine ⟨h.w.turn ho (pm.map _), h.m4, by rw [List.length_map]; exact h.h3, by rw [List.length_map, List.length_map]; omega, by have := h.b1; rw [List.length_map, List.length_map]; omega, fun a ha => ?_⟩
      obtain ⟨c, hc, rfl⟩ := List.mem_map.mp ha
      show (c.2.map _).length ≤ 3
      rw [List.length_map]
      exact h.t3 c (pm.mem_iff.mp hc)
    exact hP _ o d2 hq ho rfl (pm.map _) hd2
theorem ixN_z {n : Nat} {p : Int} (h0 : 0 ≤ p) (h : p < n) : ixN n p = some p.toNat := by
  unfold ixN
  rw [if_pos h0, if_pos (by omega)]
def subs (n : Tm) (o : List Int) (t : Tm) : Tm := if t.1 = "var" ∧ t.2 ∉ o then n else t
theorem L_changed (d : D) (q : Qy) (m : Nat) (nums : List Int) (P : D → D → Prop) (hd : Box d) (h : QOk m q) (hn : nums.length = 3) (hP : ∀ q' m' d', QOk m' q' → Box d' → P (dQ q') d') : g_law_changed d [dQ q, .lst (nums.map .int)] P := by
  have b1 := h.b1
  have b4 := h.b4
  unfold g_law_changed b_law_changed
  walk_at "ev"
  refine L_take d _ _ hd (by omega) (by omega) fun s d1 h1 h2 hd1 => ?_
  walk_at "ev"
  rw [hn]
  refine L_take d1 _ _ hd1 (by decide) (by decide) fun r d2 h3 h4 hd2 => ?_
  have er : atI (nums.map D.int) r = some (.int (nums[r.toNat]'(by omega))) := by rw [atI_z h3 (by rw [List.length_map]; omega), List.getElem_map]
  walk_at "ev"
  rw [er]
  generalize nums[r.toNat]'(by omega) = num
  walk_at "ev"
  refine L_take d2 _ _ hd2 (by decide) (by decide) fun p d3 h5 h6 hd3 => ?_
  walk_at "ev"
  refine seqJ (fun ρ => ∃ n : Tm, n.1 ≠ "free" ∧ (n.1 = "var" → 0 ≤ n.2 ∧ n.2 < 4) ∧ ρ = [.own d3, .val (dQ q), .val (.lst (nums.map .int)), .val (.int s), .val (dTm n), .val (.int p), .non, .non, .non, .non, .non]) (fun Q q1 q2 q3 q4 q5 => ?_) (fun ρ hI => ?_)
  · walk_at "ev"
    refine bool_if (fun e => ?_) (fun e => ?_)
    · have e := of_decide_eq_true e
      walk_at "ev"
      exact q1 _ ⟨vT p, by show ("var" : Str) ≠ "free"; decide, fun _ => ⟨h5, e⟩, rfl⟩
    · walk_at "ev"
      exact q1 _ ⟨(("num" : Str), num), by show ("num" : Str) ≠ "free"; decide, fun z => absurd (show ("num" : Str) = "var" from z) (by decide), rfl⟩
  obtain ⟨n, nf, nv, rfl⟩ := hI
  walk_at "ev"
  rw [gIx_body _ _ h1 h2]
  have hm := gA_mem h1 h2
  have ht3 := h.t3 _ hm
  walk_at "ev"
  generalize hts : (gA q.2 s).2 = ts at ht3 ⊢
  refine seqJ (fun ρ => ∃ (ts' : List Tm) (d4 : D), Box d4 ∧ ((ts = [] ∧ ts' = []) ∨ ∃ k, k < ts.length ∧ ts' = ts.set k n) ∧ ρ = [.own d4, .val (dQ q), .val (.lst (nums.map .int)), .val (.int s), .val (dTm n), .val (.int p), .own (.lst (ts'.map dTm)), .non, .non, .non, .non]) (fun Q q1 q2 q3 q4 q5 => ?_) (fun ρ hI => ?_)
  · walk_at "ev"
    refine bool_if (fun e => ?_) (fun e => ?_)
    · have e := of_decide_eq_true e
      walk_at "ev"
      refine L_take d3 _ _ hd3 (by omega) (by omega) fun k d4 h7 h8 hd4 => ?_
      walk_at "ev"
      rw [ixN_z h7 (by omega)]
      walk_at "ev"
      exact q1 _ ⟨ts.set k.toNat n, d4, hd4, .inr ⟨k.toNat, by omega, rfl⟩, by rw [List.map_set]⟩
    · have e := of_decide_eq_false e
      walk_at "ev"
      have : ts = [] := List.length_eq_zero_iff.mp (by omega)
      subst this
      exact q1 _ ⟨[], d3, hd3, .inl ⟨rfl, rfl⟩, rfl⟩
  obtain ⟨ts', d4, hd4, hR, rfl⟩ := hI
  have hsl : s.toNat < q.2.length := by omega
  walk_at "ev"
  rw [gIx_body _ _ h1 h2]
  walk_at "ev"
  rw [ixN_z h1 h2]
  walk_at "ev"
  have eb : (q.2.map dAtm).set s.toNat (.tup [.str (gA q.2 s).1, .tup (ts'.map dTm)]) = (q.2.set s.toNat ((gA q.2 s).1, ts')).map dAtm := by rw [List.map_set]; rfl
  rw [eb]
  have hl' : ts'.length ≤ 3 := by
    rcases hR with ⟨_, rfl⟩ | ⟨k, _, rfl⟩
    · exact Nat.zero_le _
    · rw [List.length_set]; exact ht3
  have hmem : ∀ t ∈ ts', t ∈ ts ∨ t = n := fun t ht => by
    rcases hR with ⟨_, rfl⟩ | ⟨k, _, rfl⟩
    · cases ht
    · exact List.mem_or_eq_of_mem_set ht
  have hat : ∀ a ∈ q.2.set s.toNat ((gA q.2 s).1, ts'), a ∈ q.2 ∨ a = ((gA q.2 s).1, ts') := fun a ha => List.mem_or_eq_of_mem_set ha
  have nfs : ∀ t ∈ ts, t.1 ≠ "free" := fun t ht => h.w.bk _ hm t (by rw [hts]; exact ht)
  have vrs : ∀ t ∈ ts, t.1 = "var" → 0 ≤ t.2 ∧ t.2 < m := fun t ht e => (h.w.bv _).mp ⟨_, hm, by rw [hts, ← tm_var e]; exact ht⟩
  have m4 := h.m4
  generalize hb' : q.2.set s.toNat ((gA q.2 s).1, ts') = b'
  rw [hb'] at hat
  have nf' : NF b' := fun a ha t ht => by
    rcases hat a ha with ha | rfl
    · exact h.w.bk a ha t ht
    · rcases hmem t ht with ht | rfl
      · exact nfs t ht
      · exact nf
  have v4' : ∀ a ∈ b', V4 a.2 := fun a ha i hi => by
    rcases hat a ha with ha | rfl
    · have := (h.w.bv i).mp ⟨a, ha, hi⟩
      omega
    · rcases hmem _ hi with ht | e
      · have := vrs _ ht rfl
        show 0 ≤ i ∧ i < 4
        have : 0 ≤ i ∧ i < (m : Int) := this
        omega
      · have := nv (by rw [← e])
        rw [← e] at this
        exact this
  have t3' : ∀ a ∈ b', a.2.length ≤ 3 := fun a ha => by
    rcases hat a ha with ha | rfl
    · exact h.t3 a ha
    · exact hl'
  have lb' : b'.length = q.2.length := by rw [← hb', List.length_set]
  have tb' : (tms b').length ≤ 1000 := by have := tms_len t3'; omega
  refine L_ordered _ b' _ (.inl rfl) nf' tb' ?_
  walk_at "ev"
  refine for_invT dTm (fun j ρ => ∃ (y : Sl), ρ = [.own d4, .val (dQ q), .val (.lst (nums.map .int)), .val (.int s), .val (dTm n), .val (.int p), .val (.lst (ts'.map dTm)), .val (.lst (b'.map dAtm)), .val (.lst ((ordV b').map .int)), .own (.lst (((q.1.take j).map (subs n (ordV b'))).map dTm)), y]) q.1 _ ⟨_, rfl⟩ (fun j t ρ qq hI k k1 k2 k3 k4 => ?_) (fun ρ hI => ?_)
  · obtain ⟨y, rfl⟩ := hI
    have hL : ((q.1.take j).map (subs n (ordV b'))).length < 100000 := by have := h.h3; rw [List.length_map, List.length_take]; omega
    have step : (q.1.take (j + 1)).map (subs n (ordV b')) = (q.1.take j).map (subs n (ordV b')) ++ [subs n (ordV b') t] := by rw [take_q qq, List.map_append]; rfl
    rw [step] at k1
    revert k1 hL
    generalize (q.1.take j).map (subs n (ordV b')) = F
    intro k1 hL
    rw [List.map_append] at k1
    walk_at "ev"
    refine bool_if (fun e => ?_) (fun e => ?_)
    · have e := of_decide_eq_true e
      walk_at "ev"
      refine bool_ifF (fun e2 => ?_) (fun e2 => ?_)
      · have e4 : subs n (ordV b') t = n := by unfold subs; rw [if_pos ⟨e, of_decide_eq_false e2⟩]
        rw [e4] at k1
        walk_at "ev"
        exact ⟨hL, (k1 _ ⟨_, rfl⟩).1⟩
      · have e4 : subs n (ordV b') t = t := by unfold subs; rw [if_neg (fun z => z.2 (of_decide_eq_true e2))]
        rw [e4] at k1
        walk_at "ev"
        exact ⟨hL, (k1 _ ⟨_, rfl⟩).1⟩
    · have e := of_decide_eq_false e
      have e4 : subs n (ordV b') t = t := by unfold subs; rw [if_neg (fun z => e z.1)]
      rw [e4] at k1
      walk_at "ev"
      exact ⟨hL, (k1 _ ⟨_, rfl⟩).1⟩
  · obtain ⟨y, rfl⟩ := hI
    rw [List.take_length]
    walk_at "ev"
    have hh3 := h.h3
    have nh : ∀ t ∈ q.1.map (subs n (ordV b')), t.1 ≠ "free" := fun t ht => by
      obtain ⟨u, hu, rfl⟩ := List.mem_map.mp ht
      unfold subs
      split
      · exact nf
      · exact h.w.hk u hu
    have hv : ∀ i, vT i ∈ q.1.map (subs n (ordV b')) → i ∈ ordV b' := fun i hi => by
      obtain ⟨u, hu, e⟩ := List.mem_map.mp hi
      unfold subs at e
      split at e
      · rename_i c
        have hne : ts' ≠ [] := fun z => by
          have e1 : ts = [] := by
            rcases hR with ⟨e, _⟩ | ⟨k, hk, e⟩
            · exact e
            · rw [e] at z
              have := congrArg List.length z
              rw [List.length_set] at this
              exact List.length_eq_zero_iff.mp this
          have e2 : b' = q.2 := by
            rw [← hb', z]
            have : gA q.2 s = ((gA q.2 s).1, []) := Prod.ext rfl (by rw [hts, e1])
            rw [← this]
            unfold gA
            rw [List.getD_eq_getElem?_getD, List.getElem?_eq_getElem hsl]
            exact List.set_getElem_self hsl
          have := h.w.hv u.2 (tm_var c.1 ▸ hu)
          obtain ⟨a, ha, h9⟩ := (h.w.bv _).mpr this
          exact c.2 ((ordV_mem nf').mpr ⟨a, by rw [e2]; exact ha, h9⟩)
        have hn' : n ∈ ts' := by
          rcases hR with ⟨_, e⟩ | ⟨k, hk, e⟩
          · exact absurd e hne
          · rw [e]; exact List.mem_set hk n
        refine (ordV_mem nf').mpr ⟨((gA q.2 s).1, ts'), ?_, by rw [← e]; exact hn'⟩
        rw [← hb']
        exact List.mem_set hsl _
      · rename_i c
        subst e
        exact Decidable.byContradiction fun z => c ⟨rfl, z⟩
    refine L_numbered _ b' _ nf' tb' (by omega) (by rw [List.length_map]; omega) hv ?_
    walk_at "ev"
    refine hP _ _ d4 ⟨numQ_ok nf' nh hv, ordV_4 nf' v4', ?_, ?_, ?_, fun a ha => ?_⟩ hd4
    · show ((q.1.map _).map _).length ≤ 3
      rw [List.length_map, List.length_map]; exact hh3
    · show (b'.map _).length ≤ 4
      rw [List.length_map]; omega
    · show 1 ≤ (b'.map _).length
      rw [List.length_map]; omega
    · obtain ⟨c, hc, rfl⟩ := List.mem_map.mp ha
      show (c.2.map _).length ≤ 3
      rw [List.length_map]
      exact t3' c hc

theorem pick4 (a b c e : Int) {r : Int} (h0 : 0 ≤ r) (h : r < 4) : ∃ v, atI [D.int a, .int b, .int c, .int e] r = some (.int v) ∧ (v = a ∨ v = b ∨ v = c ∨ v = e) := by
  have hr : r = 0 ∨ r = 1 ∨ r = 2 ∨ r = 3 := by omega
  rcases hr with rfl | rfl | rfl | rfl
  · exact ⟨a, rfl, .inl rfl⟩
  · exact ⟨b, rfl, .inr (.inl rfl)⟩
  · exact ⟨c, rfl, .inr (.inr (.inl rfl))⟩
  · exact ⟨e, rfl, .inr (.inr (.inr rfl))⟩
def TOk (ts : List Tm) : Prop := ∀ t ∈ ts, t.1 ≠ "free" ∧ (t.1 = "var" → 0 ≤ t.2 ∧ t.2 < 4)
theorem TOk.snoc {ts : List Tm} {t : Tm} (h : TOk ts) (h1 : t.1 ≠ "free") (h2 : t.1 = "var" → 0 ≤ t.2 ∧ t.2 < 4) : TOk (ts ++ [t]) := fun u hu => by
  rcases List.mem_append.mp hu with hu | hu
  · exact h u hu
  · rw [List.mem_singleton.mp hu]; exact ⟨h1, h2⟩
theorem num_nf (i : Int) : ((("num" : Str), i) : Tm).1 ≠ "free" := by show ("num" : Str) ≠ "free"; decide
theorem num_nv {p : Prop} (i : Int) (h : ((("num" : Str), i) : Tm).1 = "var") : p := absurd (show ("num" : Str) = "var" from h) (by decide)
theorem var_nf (i : Int) : (vT i).1 ≠ "free" := by show ("var" : Str) ≠ "free"; decide
theorem L_query (d : D) (ns : List Str) (A : List (Str × Int)) (nums : List Int) (P : D → D → Prop) (hd : Box d) (hw : WOk ns A nums) (hP : ∀ q m d', QOk m q → Box d' → P (dQ q) d') : g_law_query d [wD ns A nums, .int 4] P := by
  have l1 := hw.l1
  have l2 := hw.l2
  unfold g_law_query b_law_query wD
  walk_at "ev"
  refine L_take d _ _ hd (by decide) (by decide) fun n d1 h1 h2 hd1 => ?_
  walk_at "ev"
  refine ⟨by omega, by omega, ?_⟩
  have fold : ∀ x : D, x = .lst [.lst (ns.map .str), .dK (A.map fun p => .inr p.1) (A.map fun p => .int p.2), .lst (nums.map .int), .str "", .lst []] → x = wD ns A nums := fun x h => h
  generalize hW : (D.lst [.lst (ns.map .str), .dK (A.map fun p => .inr p.1) (A.map fun p => .int p.2), .lst (nums.map .int), .str "", .lst []]) = W
  refine for_range (fun j ρ => ∃ (F : List Atm) (d2 : D) (x1 x2 x3 x4 x5 : Sl), F.length = j ∧ (∀ a ∈ F, TOk a.2 ∧ a.2.length ≤ 3) ∧ Box d2 ∧ ρ = [.own d2, .val W, .val (.int 4), .own (.lst (F.map dAtm)), x1, .non, .non, x2, x3, x4, x5]) 0 _ _ ⟨[], d1, _, _, _, _, _, rfl, fun a ha => (nomatch ha), hd1, rfl⟩ (fun j ρ hj hI k k1 k2 k3 k4 => ?_) (fun ρ hI => ?_)
  · obtain ⟨F, d2, x1, x2, x3, x4, x5, hF, hA, hd2, rfl⟩ := hI
    rw [Int.zero_add, ← hW]
    walk_at "ev"
    refine L_take d2 _ _ hd2 (by decide) (by decide) fun r d3 h3 h4 hd3 => ?_
    walk_at "ev"
    obtain ⟨v, ev, hv⟩ := pick4 0 0 1 2 h3 h4
    rw [ev]
    walk_at "ev"
    have hv3 : 0 ≤ v ∧ v < 3 := by omega
    have en : atI (ns.map D.str) v = some (.str (ns[v.toNat]'(by omega))) := by rw [atI_z hv3.1 (by rw [List.length_map]; omega), List.getElem_map]
    rw [en]
    obtain ⟨w, ew, hw1, hw2⟩ := hw.sz _ (List.getElem_mem (show v.toNat < ns.length by omega))
    generalize ns[v.toNat]'(by omega) = nm at ew ⊢
    walk_at "ev"
    have el := look_A (κ := Key) .inr D.int inr_inj nm A
    rw [el, ew]
    walk_at "ev"
    refine ⟨by omega, by omega, ?_⟩
    rw [hW]
    refine for_range (fun i ρ => ∃ (G : List Tm) (d4 : D) (x4 x5 : Sl), G.length = i ∧ TOk G ∧ Box d4 ∧ ρ = [.own d4, .val W, .val (.int 4), .own (.lst (F.map dAtm)), .val (.int j), .non, .non, .val (.str nm), .own (.lst (G.map dTm)), x4, x5]) 0 _ _ ⟨[], d3, _, _, rfl, fun a ha => (nomatch ha), hd3, rfl⟩ (fun i ρ hi hI k k1' k2 k3 k4 => ?_) (fun ρ hI => ?_)
    · obtain ⟨G, d4, x4, x5, hG, hT, hd4, rfl⟩ := hI
      rw [Int.zero_add, ← hW]
      walk_at "ev"
      refine L_take d4 _ _ hd4 (by decide) (by decide) fun p d5 h5 h6 hd5 => ?_
      walk_at "ev"
      refine bool_if (fun e => ?_) (fun e => ?_)
      · walk_at "ev"
        refine ⟨by omega, ?_⟩
        rw [hW]
        have b1 := Int.emod_lt_of_pos (p + (i : Int) + (j : Int)) (show (0 : Int) < 4 by decide)
        have b2 := Int.emod_nonneg (p + (i : Int) + (j : Int)) (show (4 : Int) ≠ 0 by decide)
        exact (k1' _ ⟨G ++ [vT ((p + i + j) % 4)], d5, _, _, by rw [List.length_append, hG]; rfl, hT.snoc (var_nf _) (fun _ => ⟨b2, b1⟩), hd5, by rw [List.map_append]; rfl⟩).1
      · have e := of_decide_eq_false e
        have ep : atI (nums.map D.int) (p - 4) = some (.int (nums[(p - 4).toNat]'(by omega))) := by rw [atI_z (by omega) (by rw [List.length_map]; omega), List.getElem_map]
        walk_at "ev"
        rw [ep]
        generalize nums[(p - 4).toNat]'(by omega) = num
        walk_at "ev"
        refine ⟨by omega, ?_⟩
        rw [hW]
        exact (k1' _ ⟨G ++ [(("num" : Str), num)], d5, _, _, by rw [List.length_append, hG]; rfl, hT.snoc (num_nf _) (num_nv _), hd5, by rw [List.map_append]; rfl⟩).1
    · obtain ⟨G, d4, x4, x5, hG, hT, hd4, rfl⟩ := hI
      walk_at "ev"
      refine ⟨by omega, ?_⟩
      refine (k1 _ ⟨F ++ [(nm, G)], d4, _, _, _, _, _, by rw [List.length_append, hF]; rfl, fun a ha => ?_, hd4, by rw [List.map_append]; rfl⟩).1
      rcases List.mem_append.mp ha with ha | ha
      · exact hA a ha
      · rw [List.mem_singleton.mp ha]
        exact ⟨hT, by show G.length ≤ 3; omega⟩
  · obtain ⟨F, d2, x1, x2, x3, x4, x5, hF, hA, hd2, rfl⟩ := hI
    have hF4 : F.length ≤ 4 ∧ 1 ≤ F.length := by omega
    have nf : NF F := fun a ha t ht => ((hA a ha).1 t ht).1
    have v4 : ∀ a ∈ F, V4 a.2 := fun a ha i hi => ((hA a ha).1 _ hi).2 rfl
    have tb : (tms F).length ≤ 1000 := by have := tms_len (n := 3) fun a ha => (hA a ha).2; omega
    have o4 := ordV_4 nf v4
    walk_at "ev"
    refine L_ordered _ F _ (.inl rfl) nf tb ?_
    walk_at "ev"
    refine L_take d2 _ _ hd2 (by decide) (by decide) fun r d3 h3 h4 hd3 => ?_
    walk_at "ev"
    obtain ⟨v, ev, hv⟩ := pick4 1 2 0 3 h3 h4
    rw [ev]
    walk_at "ev"
    refine ⟨by omega, by omega, ?_⟩
    refine for_range (fun j ρ => ∃ (H : List Tm) (d4 : D) (x1 x5 : Sl), H.length = j ∧ TOk H ∧ (∀ i, vT i ∈ H → i ∈ ordV F) ∧ Box d4 ∧ ρ = [.own d4, .val W, .val (.int 4), .val (.lst (F.map dAtm)), x1, .val (.lst ((ordV F).map .int)), .own (.lst (H.map dTm)), x2, x3, x4, x5]) 0 _ _ ⟨[], d3, _, _, rfl, fun a ha => (nomatch ha), fun a ha => (nomatch ha), hd3, rfl⟩ (fun j ρ hj hI k k1 k2 k3 k4 => ?_) (fun ρ hI => ?_)
    · obtain ⟨H, d4, x1, x5, hH, hT, hO, hd4, rfl⟩ := hI
      rw [Int.zero_add]
      walk_at "ev"
      refine L_take d4 _ _ hd4 (by omega) (by omega) fun p d5 h5 h6 hd5 => ?_
      walk_at "ev"
      refine bool_if (fun e => ?_) (fun e => ?_)
      · have e := of_decide_eq_true e
        have ep : atI ((ordV F).map D.int) p = some (.int ((ordV F)[p.toNat]'(by omega))) := by rw [atI_z h5 (by rw [List.length_map]; omega), List.getElem_map]
        have hm : (ordV F)[p.toNat]'(by omega) ∈ ordV F := List.getElem_mem _
        walk_at "ev"
        rw [ep]
        generalize (ordV F)[p.toNat]'(by omega) = i at hm ⊢
        walk_at "ev"
        refine ⟨by omega, ?_⟩
        obtain ⟨a, ha, hi⟩ := (ordV_mem nf).mp hm
        refine (k1 _ ⟨H ++ [vT i], d5, _, _, by rw [List.length_append, hH]; rfl, hT.snoc (var_nf _) (fun _ => v4 a ha i hi), fun i' hi' => ?_, hd5, by rw [List.map_append]; rfl⟩).1
        rcases List.mem_append.mp hi' with h | h
        · exact hO i' h
        · have : i' = i := congrArg Prod.snd (List.mem_singleton.mp h)
          rw [this]; exact hm
      · have e := of_decide_eq_false e
        walk_at "ev"
        rw [← hW]
        walk_at "ev"
        refine L_take d5 _ _ hd5 (by decide) (by decide) fun r d6 h7 h8 hd6 => ?_
        have ep : atI (nums.map D.int) r = some (.int (nums[r.toNat]'(by omega))) := by rw [atI_z h7 (by rw [List.length_map]; omega), List.getElem_map]
        walk_at "ev"
        rw [ep]
        generalize nums[r.toNat]'(by omega) = num
        walk_at "ev"
        refine ⟨by omega, ?_⟩
        rw [hW]
        refine (k1 _ ⟨H ++ [(("num" : Str), num)], d6, _, _, by rw [List.length_append, hH]; rfl, hT.snoc (num_nf _) (num_nv _), fun i' hi' => ?_, hd6, by rw [List.map_append]; rfl⟩).1
        rcases List.mem_append.mp hi' with h | h
        · exact hO i' h
        · exact num_nv num (by rw [← List.mem_singleton.mp h])
    · obtain ⟨H, d4, x1, x5, hH, hT, hO, hd4, rfl⟩ := hI
      walk_at "ev"
      have hH3 : H.length ≤ 3 := by omega
      refine L_numbered H F _ nf tb (by omega) (by omega) hO ?_
      walk_at "ev"
      refine hP _ _ d4 ⟨numQ_ok nf (fun t ht => (hT t ht).1) hO, o4, ?_, ?_, ?_, fun a ha => ?_⟩ hd4
      · show (H.map _).length ≤ 3
        rw [List.length_map]; exact hH3
      · show (F.map _).length ≤ 4
        rw [List.length_map]; omega
      · show 1 ≤ (F.map _).length
        rw [List.length_map]; omega
      · obtain ⟨c, hc, rfl⟩ := List.mem_map.mp ha
        show (c.2.map _).length ≤ 3
        rw [List.length_map]
        exact (hA c hc).2
theorem L_is_renaming (q q' L L' : Qy) (m m' : Nat) (P : D → Prop) (h : QOk m q) (h' : QOk m' q') (hL : Least m q L) (hL' : Least m' q' L') (hP : P (.bl (decide (L = L')))) : g_law_is_renaming [dQ q, dQ q'] P := by
  unfold g_law_is_renaming b_law_is_renaming
  walk_at "ev"
  refine L_many_q q m _ h ?_
  walk_at "ev"
  refine L_many_q q' m' _ h' ?_
  walk_at "ev"
  refine bool_ifF (fun e => ?_) (fun e => ?_)
  · have e := of_decide_eq_false e
    have : L ≠ L' := fun z => by
      subst z
      have := (hL.ren hL').1
      exact e (by rw [this])
    rw [decide_eq_false this] at hP
    exact hP
  · have e := of_decide_eq_true e
    have e : m = m' := by omega
    subst e
    rw [gSort_atms _ q'.2 _ (.inr rfl)]
    walk_at "ev"
    refine L_many_q q m _ h ?_
    walk_at "ev"
    refine L_orders m _ h.m4 ?_
    walk_at "ev"
    have hl := ords_le h.m4
    refine lc_filt lstI (fun _ => .int 1) (fun o => decide (trnQ (ofn o) q = (q'.1, sortB alt q'.2))) (ords m) [] (by rw [List.length_nil]; omega) (fun o ho k k0 hk1 hk2 => ?_) ?_
    · walk_at "ev"
      refine L_renamed_q q m o _ h.w ((ords_ord m o).mp ho) (by have := h.h3; omega) (by have := h.b4; omega) (fun a ha => by have := h.t3 a ha; omega) ?_
      walk_at "ev"
      exact bool_if (fun e => hk1 e _ rfl) (fun e => hk2 e _ rfl)
    · walk_at "ev"
      have e : decide (0 < (((ords m).filter fun o => decide (trnQ (ofn o) q = (q'.1, sortB alt q'.2))).length : Int)) = decide (L = L') := by
        refine decide_eq_decide.mpr ⟨fun hz => ?_, fun hz => ?_⟩
        · have hp : 0 < ((ords m).filter fun o => decide (trnQ (ofn o) q = (q'.1, sortB alt q'.2))).length := by omega
          obtain ⟨o, ho⟩ := List.exists_mem_of_length_pos hp
          obtain ⟨h1, h2⟩ := List.mem_filter.mp ho
          exact hL.same hL' ((ords_ord m o).mp h1) (of_decide_eq_true h2)
        · subst hz
          obtain ⟨_, o, ho, e⟩ := hL.ren hL'
          have := List.length_pos_of_mem (List.mem_filter (p := fun o => decide (trnQ (ofn o) q = (q'.1, sortB alt q'.2))).mpr ⟨(ords_ord m o).mpr ho, decide_eq_true e⟩)
          omega
      rw [e]
      exact hP
/-! ### the program -/
theorem nkey_tm : NKey dTm 1 := nkey_pair nkey_str nkey_int
theorem nkey_body : NKey dBody 4 := nkey_tup (nkey_pair nkey_str (nkey_tup nkey_tm))
def dNm (many : Int) (F : List Int) : D := .dN ((F.map fT).map dTm) (F.map fun i => dTm (vT (many + (F.idxOf i : Nat))))
theorem look_fT (g : Int → D) (t : Tm) : ∀ F : List Int, look (F.map fT) (F.map g) t = if t.1 = "free" ∧ t.2 ∈ F then some (g t.2) else none
  | [] => by rw [if_neg (fun z => (nomatch z.2))]; rfl
  | i :: F => by
    show (if fT i = t then some (g i) else look (F.map fT) (F.map g) t) = _
    by_cases e : fT i = t
    · subst e
      rw [if_pos rfl, if_pos ⟨rfl, List.mem_cons_self⟩]
    · rw [if_neg e, look_fT g t F]
      by_cases c : t.1 = "free" ∧ t.2 ∈ F
      · rw [if_pos c, if_pos ⟨c.1, List.mem_cons_of_mem _ c.2⟩]
      · rw [if_neg c, if_neg]
        rintro ⟨c1, c2⟩
        rcases List.mem_cons.mp c2 with h | h
        · exact e (Prod.ext c1.symm h.symm)
        · exact c ⟨c1, h⟩
theorem dlook_Nm (many : Int) (F : List Int) (t : Tm) (P : Option D → Prop) : dlook (dNm many F) (dTm t) P = P (if t.1 = "free" ∧ t.2 ∈ F then some (dTm (vT (many + (F.idxOf t.2 : Nat)))) else none) := by
  unfold dNm
  rw [dlook_N nkey_tm (by decide) (fun _ => rfl), look_fT]
theorem L_pr_renamed (ts : List Tm) (many : Int) (F : List Int) (P : D → Prop) (hl : ts.length ≤ 1000) (h : P (dTms (ts.map (nren many F)))) : g_renamed [dTms ts, dNm many F] P := by
  unfold g_renamed b_renamed
  walk_at "ev"
  refine lc_mapT dTm (fun t => dTm (nren many F t)) ts [] (by rw [List.length_nil]; omega) (fun t ht k hk => ?_) ?_
  · walk_at "ev"
    refine ⟨rfl, ?_⟩
    rw [dlook_Nm]
    have e : (if t.1 = "free" ∧ t.2 ∈ F then some (dTm (vT (many + (F.idxOf t.2 : Nat)))) else none).getD (dTm t) = dTm (nren many F t) := by
      unfold nren
      by_cases c : t.1 = "free" ∧ t.2 ∈ F
      · rw [if_pos c, if_pos c]; rfl
      · rw [if_neg c, if_neg c]; rfl
    rw [e]
    exact hk _ rfl
  · walk_at "ev"
    have e : D.tup (ts.map fun t => dTm (nren many F t)) = dTms (ts.map (nren many F)) := by unfold dTms; rw [List.map_map]; rfl
    rw [e]
    exact h
theorem L_pr_freed (ts : List Tm) (P : D → Prop) (hl : ts.length ≤ 1000) (h : P (dTms (ts.map fre))) : g_freed [dTms ts] P := by
  unfold g_freed b_freed
  walk_at "ev"
  refine lc_mapT dTm (fun t => dTm (fre t)) ts [] (by rw [List.length_nil]; omega) (fun t ht k hk => ?_) ?_
  · walk_at "ev"
    refine bool_if (fun e => ?_) (fun e => ?_)
    · have e := of_decide_eq_true e
      walk_at "ev"
      have e2 : fre t = fT t.2 := if_pos e
      rw [e2] at hk
      exact hk _ rfl
    · have e := of_decide_eq_false e
      walk_at "ev"
      have e2 : fre t = t := if_neg e
      rw [e2] at hk
      exact hk _ rfl
  · walk_at "ev"
    have e : D.tup (ts.map fun t => dTm (fre t)) = dTms (ts.map fre) := by unfold dTms; rw [List.map_map]; rfl
    rw [e]
    exact h
theorem L_pr_renamed_atoms (b : List Atm) (many : Int) (F : List Int) (P : D → Prop) (hl : b.length ≤ 1000) (ht : ∀ a ∈ b, a.2.length ≤ 1000) (h : P (dBody (b.map (nrenA many F)))) : g_renamed_atoms [dBody b, dNm many F] P := by
  unfold g_renamed_atoms b_renamed_atoms
  walk_at "ev"
  refine lc_mapT dAtm (fun a => dAtm (nrenA many F a)) b [] (by rw [List.length_nil]; omega) (fun a ha k hk => ?_) ?_
  · walk_at "ev"
    refine L_pr_renamed a.2 many F _ (ht a ha) ?_
    walk_at "ev"
    exact hk _ rfl
  · walk_at "ev"
    have e : D.tup (b.map fun a => dAtm (nrenA many F a)) = dBody (b.map (nrenA many F)) := by unfold dBody; rw [List.map_map]; rfl
    rw [e]
    exact h
theorem L_pr_freed_atoms (b : List Atm) (P : D → Prop) (hl : b.length ≤ 1000) (ht : ∀ a ∈ b, a.2.length ≤ 1000) (h : P (dBody (b.map freA))) : g_freed_atoms [dBody b] P := by
  unfold g_freed_atoms b_freed_atoms
  walk_at "ev"
  refine lc_mapT dAtm (fun a => dAtm (freA a)) b [] (by rw [List.length_nil]; omega) (fun a ha k hk => ?_) ?_
  · walk_at "ev"
    refine L_pr_freed a.2 _ (ht a ha) ?_
    walk_at "ev"
    exact hk _ rfl
  · walk_at "ev"
    have e : D.tup (b.map fun a => dAtm (freA a)) = dBody (b.map freA) := by unfold dBody; rw [List.map_map]; rfl
    rw [e]
    exact h
theorem dNm_snoc (many : Int) (F : List Int) (i : Int) (hi : i ∉ F) : dNm many (F ++ [i]) = .dN ((F.map fT ++ [fT i]).map dTm) ((F.map fun i => dTm (vT (many + (F.idxOf i : Nat)))) ++ [dTm (vT (many + (F.length : Nat)))]) := by
  unfold dNm
  have e1 : (F ++ [i]).map (fun k => dTm (vT (many + ((F ++ [i]).idxOf k : Nat)))) = (F.map fun i => dTm (vT (many + (F.idxOf i : Nat)))) ++ [dTm (vT (many + (F.length : Nat)))] := by
    rw [List.map_append, List.map_cons, List.map_nil, idxOf_new hi]
    congr 1
    exact List.map_congr_left fun k hk => by rw [idxOf_pre hk]
  rw [e1, List.map_append, List.map_cons, List.map_nil]
theorem L_numbering (ts : List Tm) (many : Int) (P : D → Prop) (hl : ts.length ≤ 1000) (h : P (dNm many (flA [] ts))) : g_numbering [dTms ts, .int many] P := by
  unfold g_numbering b_numbering
  walk_at "ev"
  refine for_invT dTm (fun j ρ => ∃ (y : Sl), ρ = [.val (dTms ts), .val (.int many), .own (dNm many (flA [] (ts.take j))), y]) ts _ ⟨_, rfl⟩ (fun j t ρ q hI k k1 k2 k3 k4 => ?_) (fun ρ hI => ?_)
  · obtain ⟨y, rfl⟩ := hI
    have hj := (List.getElem?_eq_some_iff.mp q).1
    have hL : (flA [] (ts.take j)).length < 100000 := by
      have := flA_len (ts.take j) []
      rw [List.length_nil, List.length_take] at this
      omega
    rw [take_q q, flA_snoc] at k1
    revert k1 hL
    generalize flA [] (ts.take j) = F
    intro k1 hL
    walk_at "ev"
    refine bool_if (fun e => ?_) (fun e => ?_)
    · have e := of_decide_eq_true e
      walk_at "ev"
      rw [dlook_Nm]
      by_cases c : t.2 ∈ F
      · rw [if_pos ⟨e, c⟩]
        rw [if_neg (fun z => z.2 c)] at k1
        walk_at "ev"
        exact (k1 _ ⟨_, rfl⟩).1
      · rw [if_neg (fun z => c z.2)]
        rw [if_pos ⟨e, c⟩, dNm_snoc _ _ _ c] at k1
        have hlen : ∀ P : D → Prop, gLen [dNm many F] P = P (.int F.length) := fun P => by
          show P (.int (((F.map fT).map dTm).length : Nat)) = _
          rw [List.length_map, List.length_map]
        walk_at "ev"
        rw [hlen]
        walk_at "ev"
        unfold dNm
        refine dput_N nkey_tm (by decide) (fun _ => rfl) _ _ t _ _ (by rw [List.length_map]; exact hL) ?_
        have hne : t ∉ F.map fT := fun z => by
          obtain ⟨i, hi, e2⟩ := List.mem_map.mp z
          rw [← e2] at c
          exact c hi
        have e1 : putKs (F.map fT) t = F.map fT ++ [fT t.2] := by
          unfold putKs
          rw [if_neg hne]
          exact congrArg _ (congrArg (fun x => [x]) (Prod.ext e rfl))
        have e2 : putVs (F.map fT) (F.map fun i => dTm (vT (many + (F.idxOf i : Nat)))) t (.tup [.str "var", .int (many + F.length)]) = (F.map fun i => dTm (vT (many + (F.idxOf i : Nat)))) ++ [dTm (vT (many + (F.length : Nat)))] := by
          unfold putVs
          rw [if_neg hne]; rfl
        rw [e1, e2]
        walk_at "ev"
        exact (k1 _ ⟨_, rfl⟩).1
    · have e := of_decide_eq_false e
      walk_at "ev"
      rw [if_neg (fun z => e z.1)] at k1
      exact (k1 _ ⟨_, rfl⟩).1
  · obtain ⟨y, rfl⟩ := hI
    rw [List.take_length]
    walk_at "ev"
    exact h

/-! ### one step -/
def cnd (many : Int) (s : List Atm) (i : Nat) : Atm × List Atm := (nrenA many (flA [] (s.getD i ("", [])).2) (s.getD i ("", [])), (s.take i ++ s.drop (i + 1)).map (nrenA many (flA [] (s.getD i ("", [])).2)))
def cs (many : Int) (s : List Atm) : List (Atm × List Atm) := (List.range s.length).map (cnd many s)
theorem cs_cand {many : Int} {s : List Atm} {c : Atm × List Atm} : c ∈ cs many s ↔ Cand many s c.1 c.2 := by
  unfold cs Cand
  rw [List.mem_map]
  constructor
  · rintro ⟨i, hi, rfl⟩
    have hi := List.mem_range.mp hi
    have e : s.getD i ("", []) = s[i] := by rw [List.getD_eq_getElem?_getD, List.getElem?_eq_getElem hi]; rfl
    refine ⟨s.take i, s[i], s.drop (i + 1), ?_, ?_, ?_⟩
    · rw [List.getElem_cons_drop, List.take_append_drop]
    · unfold cnd; rw [e]
    · unfold cnd; rw [e]
  · rintro ⟨l, b, r, e, e1, e2⟩
    have hi : l.length < s.length := by rw [e]; simp
    refine ⟨l.length, List.mem_range.mpr hi, ?_⟩
    have eb : s.getD l.length ("", []) = b := by
      rw [List.getD_eq_getElem?_getD, e, List.getElem?_append_right (Nat.le_refl _), Nat.sub_self]; rfl
    have et : s.take l.length = l := by rw [e, List.take_left]
    have ed : s.drop (l.length + 1) = r := by rw [e, ← List.drop_drop, List.drop_left]; rfl
    unfold cnd
    rw [eb, et, ed, ← e1, ← e2]
structure InvC (C : List (Atm × List Atm)) (l : Option Atm) (T : List (List Atm)) : Prop where
  len : T.length ≤ C.length
  non : l = none → C = [] ∧ T = []
  som : ∀ a, l = some a → (∃ x, (a, x) ∈ C) ∧ (∀ c ∈ C, leB alt a c.1 = true) ∧ ∀ x, x ∈ T ↔ (a, x) ∈ C
theorem InvC.first {C : List (Atm × List Atm)} {l : Option Atm} {T : List (List Atm)} (h : InvC C l T) (c : Atm × List Atm) (hc : l = none ∨ ∃ a, l = some a ∧ alt c.1 a = true) : InvC (C ++ [c]) (some c.1) [c.2] := by
  have low : ∀ d ∈ C, d.1 ≠ c.1 ∧ leB alt c.1 d.1 = true := fun d hd => by
    rcases hc with e | ⟨a, e, hlt⟩
    · rw [(h.non e).1] at hd; cases hd
    · have := (h.som a e).2.1 d hd
      have lt := aso.lt_le hlt this
      exact ⟨fun z => (by rw [z, aso.irr] at lt; cases lt), by unfold leB; rw [aso.asymm lt]; rfl⟩
  refine ⟨by rw [List.length_append]; simp, fun e => (nomatch e), fun a e => ?_⟩
  cases e
  refine ⟨⟨c.2, List.mem_append_right _ List.mem_cons_self⟩, fun d hd => ?_, fun x => ?_⟩
  · rcases List.mem_append.mp hd with hd | hd
    · exact (low d hd).2
    · rw [List.mem_singleton.mp hd]; exact aso.le_refl _
  · rw [List.mem_singleton, List.mem_append, List.mem_singleton]
    constructor
    · intro e; exact .inr (by rw [e])
    · rintro (hd | e)
      · exact absurd rfl (low _ hd).1
      · exact (congrArg Prod.snd e)
theorem InvC.same {C : List (Atm × List Atm)} {a : Atm} {T : List (List Atm)} (h : InvC C (some a) T) (x : List Atm) : InvC (C ++ [(a, x)]) (some a) (putKs T x) := by
  obtain ⟨h1, h2, h3⟩ := h.som a rfl
  refine ⟨?_, fun e => (nomatch e), fun b e => ?_⟩
  · have := h.len
    unfold putKs
    split
    · rw [List.length_append]; omega
    · rw [List.length_append, List.length_append]; simp; exact this
  · cases e
    obtain ⟨y, hy⟩ := h1
    refine ⟨⟨y, List.mem_append_left _ hy⟩, fun d hd => ?_, fun z => ?_⟩
    · rcases List.mem_append.mp hd with hd | hd
      · exact h2 d hd
      · rw [List.mem_singleton.mp hd]; exact aso.le_refl _
    · rw [List.mem_append, List.mem_singleton, ← h3]
      unfold putKs
      by_cases c : x ∈ T
      · rw [if_pos c]
        exact ⟨.inl, fun q => q.elim id fun e => (show z = x from congrArg Prod.snd e) ▸ c⟩
      · rw [if_neg c, List.mem_append, List.mem_singleton]
        exact ⟨fun q => q.elim .inl fun e => .inr (by rw [e]), fun q => q.elim .inl fun e => .inr (congrArg Prod.snd e)⟩
theorem InvC.more {C : List (Atm × List Atm)} {a : Atm} {T : List (List Atm)} (h : InvC C (some a) T) (c : Atm × List Atm) (hc : alt c.1 a = false) (hne : c.1 ≠ a) : InvC (C ++ [c]) (some a) T := by
  obtain ⟨⟨y, hy⟩, h2, h3⟩ := h.som a rfl
  refine ⟨by rw [List.length_append]; have := h.len; omega, fun e => (nomatch e), fun b e => ?_⟩
  cases e
  refine ⟨⟨y, List.mem_append_left _ hy⟩, fun d hd => ?_, fun z => ?_⟩
  · rcases List.mem_append.mp hd with hd | hd
    · exact h2 d hd
    · rw [List.mem_singleton.mp hd]; unfold leB; rw [hc]; rfl
  · rw [List.mem_append, List.mem_singleton, h3]
    exact ⟨.inl, fun q => q.elim id fun e => absurd (congrArg Prod.fst e).symm hne⟩
def dSt (S : List (List Atm)) : D := .dN (S.map dBody) (S.map fun _ => .bl true)
def dO : Option Atm → D
  | none => .non
  | some a => dAtm a
theorem putV_true (T : List (List Atm)) (x : List Atm) : putVs T (T.map fun _ => D.bl true) x (.bl true) = (putKs T x).map fun _ => .bl true := by
  unfold putVs putKs
  by_cases c : x ∈ T
  · rw [if_pos c, if_pos c]
    clear c
    induction T with
    | nil => rfl
    | cons y T ih =>
      show (if y = x then D.bl true else D.bl true) :: replV T (T.map fun _ => D.bl true) x (.bl true) = D.bl true :: T.map fun _ => D.bl true
      rw [ih]
      split <;> rfl
  · rw [if_neg c, if_neg c, List.map_append]; rfl
theorem L_least_next (S : List (List Atm)) (n : Nat) (many : Int) (P : D → Prop) (hne : S ≠ []) (hn : 1 ≤ n ∧ n ≤ 4) (hS : S.length ≤ 256) (hl : ∀ s ∈ S, s.length = n) (ht : ∀ s ∈ S, ∀ a ∈ s, a.2.length ≤ 3)
    (h : ∀ a T, Step many S a T → T.length ≤ S.length * n → P (.tup [dAtm a, dSt T])) : g_least_next [dSt S, .int many] P := by
  unfold g_least_next b_least_next
  walk_at "ev"
  show forGo _ _ (S.map dBody) _ _
  refine for_invT dBody (fun j ρ => ∃ (l : Option Atm) (T : List (List Atm)) (x4 x5 x6 x7 x8 x9 x10 : Sl), InvC ((S.take j).flatMap (cs many)) l T ∧ ρ = [.val (dSt S), .val (.int many), .val (dO l), .own (dSt T), x4, x5, x6, x7, x8, x9, x10]) S _
    ⟨none, [], _, _, _, _, _, _, _, ⟨Nat.le_refl _, fun _ => ⟨rfl, rfl⟩, fun _ e => (nomatch e)⟩, rfl⟩ (fun j s ρ q hI k k1 k2 k3 k4 => ?_) (fun ρ hI => ?_)
  · obtain ⟨l, T, x4, x5, x6, x7, x8, x9, x10, hC, rfl⟩ := hI
    have hs := List.mem_of_getElem? q
    have hj := (List.getElem?_eq_some_iff.mp q).1
    have hsl := hl s hs
    have step : (S.take (j + 1)).flatMap (cs many) = (S.take j).flatMap (cs many) ++ cs many s := by rw [take_q q, List.flatMap_append]; simp
    rw [step] at k1
    have hCl : ((S.take j).flatMap (cs many)).length ≤ 256 * 4 := by
      have e : ∀ R : List (List Atm), (∀ s ∈ R, s.length = n) → (R.flatMap (cs many)).length = R.length * n := fun R => by
        induction R with
        | nil => simp
        | cons s R ih =>
          intro hR
          rw [List.flatMap_cons, List.length_append, ih fun x hx => hR x (List.mem_cons_of_mem _ hx), List.length_cons, Nat.succ_mul]
          unfold cs
          rw [List.length_map, List.length_range, hR s List.mem_cons_self]; omega
      rw [e _ fun s hs => hl s (List.mem_of_mem_take hs), List.length_take]
      exact Nat.mul_le_mul (by omega) hn.2
    revert k1 hC hCl
    generalize (S.take j).flatMap (cs many) = C
    intro k1 hC hCl
    walk_at "ev"
    show forGo _ _ (enumD (s.map dAtm)) _ _
    refine for_invD (fun i ρ => ∃ (l : Option Atm) (T : List (List Atm)) (x5 x6 x7 x8 x9 x10 : Sl), InvC (C ++ (List.range i).map (cnd many s)) l T ∧ ρ = [.val (dSt S), .val (.int many), .val (dO l), .own (dSt T), .val (dBody s), x5, x6, x7, x8, x9, x10]) _ _
      ⟨l, T, _, _, _, _, _, _, by rw [List.range_zero, List.map_nil, List.append_nil]; exact hC, rfl⟩ (fun i x ρ hx hI k k1' k2 k3 k4 => ?_) (fun ρ hI => ?_)
    · obtain ⟨l, T, x5, x6, x7, x8, x9, x10, hC, rfl⟩ := hI
      obtain ⟨y, hy, rfl⟩ := enumD_get hx
      rw [List.getElem?_map] at hy
      cases q2 : s[i]? with
      | none => rw [q2] at hy; cases hy
      | some a =>
        rw [q2] at hy
        cases hy
        have hi := (List.getElem?_eq_some_iff.mp q2).1
        have hat := ht s hs a (List.mem_of_getElem? q2)
        have ea : s.getD i ("", []) = a := by rw [List.getD_eq_getElem?_getD, q2]; rfl
        have step2 : C ++ (List.range (i + 1)).map (cnd many s) = (C ++ (List.range i).map (cnd many s)) ++ [cnd many s i] := by rw [List.range_succ, List.map_append, ← List.append_assoc]; rfl
        rw [step2] at k1'
        have hTl : T.length < 100000 := by
          have := hC.len
          rw [List.length_append, List.length_map, List.length_range] at this
          omega
        revert k1' hC
        generalize C ++ (List.range i).map (cnd many s) = C'
        intro k1' hC
        have ec : cnd many s i = (nrenA many (flA [] a.2) a, (s.take i ++ s.drop (i + 1)).map (nrenA many (flA [] a.2))) := by unfold cnd; rw [ea]
        rw [ec] at k1'
        walk_at "ev"
        refine L_numbering a.2 many _ (by omega) ?_
        walk_at "ev"
        refine L_pr_renamed a.2 many _ _ (by omega) ?_
        have edat : D.tup [.str a.1, dTms (a.2.map (nren many (flA [] a.2)))] = dAtm (nrenA many (flA [] a.2) a) := rfl
        walk_at "ev"
        rw [edat]
        generalize hx : (s.take i ++ s.drop (i + 1)).map (nrenA many (flA [] a.2)) = xx at k1'
        have hx2 : ∀ Q : D → Prop, Q (dBody xx) → g_renamed_atoms [dBody (s.take i ++ s.drop (i + 1)), dNm many (flA [] a.2)] Q := fun Q hQ => L_pr_renamed_atoms _ many _ Q (by rw [List.length_append, List.length_take, List.length_drop]; omega) (fun b hb => by
            have : b ∈ s := (List.mem_append.mp hb).elim List.mem_of_mem_take List.mem_of_mem_drop
            have := ht s hs b this
            omega) (by rw [hx]; exact hQ)
        clear hx
        generalize nrenA many (flA [] a.2) a = at' at k1' ⊢
        generalize dNm many (flA [] a.2) = nmD at hx2 ⊢
        refine seqJ (fun ρ => ∃ (l' : Atm) (T' : List (List Atm)), ((l' = at' ∧ T' = [] ∧ (l = none ∨ ∃ b, l = some b ∧ alt at' b = true)) ∨ (l = some l' ∧ T' = T ∧ alt at' l' = false)) ∧ ρ = [.val (dSt S), .val (.int many), .val (dAtm l'), .own (dSt T'), .val (dBody s), .val (.int i), .val nmD, .val (dAtm at'), .val (.str a.1), .val (dTms a.2), x10]) (fun Q q1 q2 q3 q4 q5 => ?_) (fun ρ hI => ?_)
        · cases l with
          | none =>
            unfold dO
            walk_at "ev"
            exact q1 _ ⟨at', [], .inl ⟨rfl, rfl, .inl rfl⟩, rfl⟩
          | some b =>
            unfold dO
            walk_at "ev"
            rw [gLtD_enc enc_atm (by decide)]
            walk_at "ev"
            refine bool_if (fun e => ?_) (fun e => ?_)
            · walk_at "ev"
              exact q1 _ ⟨at', [], .inl ⟨rfl, rfl, .inr ⟨b, rfl, e⟩⟩, rfl⟩
            · walk_at "ev"
              exact q1 _ ⟨b, T, .inr ⟨rfl, rfl, e⟩, rfl⟩
        · obtain ⟨l', T', hR, rfl⟩ := hI
          walk_at "ev"
          have hT' : T'.length < 100000 := by
            rcases hR with ⟨_, rfl, _⟩ | ⟨_, rfl, _⟩
            · exact Nat.zero_lt_succ _
            · exact hTl
          refine bool_if (fun e => ?_) (fun e => ?_)
          · have e := of_decide_eq_true e
            subst e
            walk_at "ev"
            rw [show ((i : Int) + 1) = ((i + 1 : Nat) : Int) from rfl, cutD_map, cutD_map, cutL_take, cutL_drop]
            walk_at "ev"
            rw [← List.map_append]
            refine ⟨by rw [List.length_take, List.length_drop]; omega, hx2 _ ?_⟩
            walk_at "ev"
            unfold dSt
            refine dput_N nkey_body (by decide) (fun _ => rfl) T' _ xx _ _ hT' ?_
            rw [putV_true]
            walk_at "ev"
            refine (k1' _ ⟨some at', putKs T' xx, _, _, _, _, _, _, ?_, rfl⟩).1
            rcases hR with ⟨_, rfl, h1⟩ | ⟨h1, rfl, _⟩
            · exact hC.first (at', xx) h1
            · subst h1
              exact hC.same xx
          · have e := of_decide_eq_false e
            walk_at "ev"
            rcases hR with ⟨h1, _⟩ | ⟨h1, rfl, h2⟩
            · exact absurd h1.symm e
            · subst h1
              exact (k1' _ ⟨some l', T', _, _, _, _, _, _, hC.more (at', xx) h2 e, rfl⟩).1
    · obtain ⟨l, T, x5, x6, x7, x8, x9, x10, hC, rfl⟩ := hI
      rw [enumD_len, List.length_map] at hC
      exact (k1 _ ⟨l, T, _, _, _, _, _, _, _, hC, rfl⟩).1
  · obtain ⟨l, T, x4, x5, x6, x7, x8, x9, x10, hC, rfl⟩ := hI
    rw [List.take_length] at hC
    have hsome : ∃ a, l = some a := by
      cases l with
      | some a => exact ⟨a, rfl⟩
      | none =>
        have h0 := (hC.non rfl).1
        obtain ⟨s, hs⟩ := List.exists_mem_of_ne_nil _ hne
        have hsl := hl s hs
        have : cnd many s 0 ∈ S.flatMap (cs many) := List.mem_flatMap.mpr ⟨s, hs, List.mem_map.mpr ⟨0, List.mem_range.mpr (by omega), rfl⟩⟩
        rw [h0] at this
        cases this
    obtain ⟨a, rfl⟩ := hsome
    obtain ⟨⟨y, hy⟩, h2, h3⟩ := hC.som a rfl
    unfold dO
    walk_at "ev"
    refine h a T ⟨?_, fun s hs b x hc => ?_, fun x hx => ?_, fun s hs x hc => ?_⟩ ?_
    · obtain ⟨s, hs, hc⟩ := List.mem_flatMap.mp hy
      exact ⟨s, hs, y, cs_cand.mp hc⟩
    · exact h2 (b, x) (List.mem_flatMap.mpr ⟨s, hs, cs_cand.mpr hc⟩)
    · obtain ⟨s, hs, hc⟩ := List.mem_flatMap.mp ((h3 x).mp hx)
      exact ⟨s, hs, cs_cand.mp hc⟩
    · exact (h3 x).mpr (List.mem_flatMap.mpr ⟨s, hs, cs_cand.mpr hc⟩)
    · refine Nat.le_trans hC.len ?_
      have e : ∀ R : List (List Atm), (∀ s ∈ R, s.length = n) → (R.flatMap (cs many)).length = R.length * n := fun R => by
        induction R with
        | nil => simp
        | cons s R ih =>
          intro hR
          rw [List.flatMap_cons, List.length_append, ih fun x hx => hR x (List.mem_cons_of_mem _ hx), List.length_cons, Nat.succ_mul]
          unfold cs
          rw [List.length_map, List.length_range, hR s List.mem_cons_self]; omega
      rw [e S hl]
      exact Nat.le_refl _

def isV (t : Tm) : Bool := decide (t.1 = "var")
theorem L_least_form (q : Qy) (m : Nat) (P : D → Prop) (h : QOk m q) (hP : ∀ L, Least m q L → P (dQ L)) : g_least_form [dQ q] P := by
  have h3 := h.h3
  have b4 := h.b4
  unfold g_least_form b_least_form
  walk_at "ev"
  refine L_pr_freed q.1 _ (by omega) ?_
  walk_at "ev"
  refine L_numbering _ 0 _ (by rw [List.length_map]; omega) ?_
  show _ 
  have hlen : ∀ (many : Int) (F : List Int) (P : D → Prop), gLen [dNm many F] P = P (.int F.length) := fun many F P => by
    show P (.int (((F.map fT).map dTm).length : Nat)) = _
    rw [List.length_map, List.length_map]
  walk_at "ev"
  rw [hlen]
  walk_at "ev"
  refine L_pr_freed_atoms q.2 _ (by omega) (fun a ha => by have := h.t3 a ha; omega) ?_
  walk_at "ev"
  have tf : ∀ a ∈ q.2.map freA, a.2.length ≤ 3 := fun a ha => by
    obtain ⟨c, hc, rfl⟩ := List.mem_map.mp ha
    show (c.2.map _).length ≤ 3
    rw [List.length_map]; exact h.t3 c hc
  refine L_pr_renamed_atoms _ 0 (F0 q) _ (by rw [List.length_map]; omega) (fun a ha => by have := tf a ha; omega) ?_
  walk_at "ev"
  refine ⟨by obtain ⟨k, h1, h2⟩ := nkey_body.ok (S0 q); exact ⟨k, h1, Nat.le_trans h2 (by decide)⟩, ?_⟩
  refine for_invT dAtm (fun j ρ => ∃ (many : Int) (S : List (List Atm)) (pre : List Atm) (x5 x8 x9 x10 : Sl), (∀ out, Greedy many S out → Greedy ((F0 q).length : Nat) [S0 q] (pre ++ out)) ∧ S ≠ [] ∧ (∀ s ∈ S, s.length = q.2.length - j) ∧ (∀ s ∈ S, ∀ a ∈ s, a.2.length ≤ 3) ∧ S.length ≤ 4 ^ j ∧ pre.length = j ∧
    ρ = [.val (dQ q), .val (dNm 0 (F0 q)), .val (.int many), .val (dSt S), .own (.lst (pre.map dAtm)), x5, .val (dTms q.1), .val (dBody q.2), x8, x9, x10]) q.2 _
    ⟨_, [S0 q], [], _, _, _, _, fun out G => G, by simp, fun s hs => by rw [List.mem_singleton.mp hs]; unfold S0; rw [List.length_map, List.length_map]; rfl, fun s hs a ha => by
      rw [List.mem_singleton.mp hs] at ha
      obtain ⟨c, hc, rfl⟩ := List.mem_map.mp ha
      show (c.2.map _).length ≤ 3
      rw [List.length_map]; exact tf c hc, Nat.le_refl _, rfl, rfl⟩ (fun j a ρ qq hI k k1 k2 k3 k4 => ?_) (fun ρ hI => ?_)
  · obtain ⟨many, S, pre, x5, x8, x9, x10, hG, hne, hl, ht, hS, hpl, rfl⟩ := hI
    have hj := (List.getElem?_eq_some_iff.mp qq).1
    have hS256 : S.length ≤ 256 := Nat.le_trans hS (Nat.le_trans (Nat.pow_le_pow_right (by decide) (show j ≤ 4 by omega)) (by decide))
    walk_at "ev"
    refine L_least_next S (q.2.length - j) many _ hne (by omega) hS256 hl ht fun a' T st hTl => ?_
    obtain ⟨s0, hs0, x0, l0, b0, r0, e0, ea0, _⟩ := st.mem
    have ha3 : a'.2.length ≤ 3 := by
      rw [ea0]
      show (b0.2.map _).length ≤ 3
      rw [List.length_map]
      exact ht s0 hs0 b0 (by rw [e0]; simp)
    walk_at "ev"
    refine ⟨by rw [hpl]; omega, ?_⟩
    refine lc_filt dTm (fun t => .int (t.2 + 1)) isV a'.2 [] (by rw [List.length_nil]; omega) (fun t ht k k0 hk1 hk2 => ?_) ?_
    · walk_at "ev"
      exact bool_if (fun e => hk1 e _ rfl) (fun e => hk2 e _ rfl)
    · walk_at "ev"
      have el : ([D.int many] ++ (a'.2.filter isV).map fun t => D.int (t.2 + 1)) = (many :: (a'.2.filter isV).map fun t => t.2 + 1).map D.int := by rw [List.map_cons, List.map_map]; rfl
      refine ⟨by have := List.length_filter_le isV a'.2; omega, ?_⟩
      have el2 : (D.int many :: (a'.2.filter isV).map fun t => D.int (t.2 + 1)) = (many :: (a'.2.filter isV).map fun t => t.2 + 1).map D.int := el
      rw [el2]
      refine gMaxL_ints _ (by simp) _ fun mm hmm hle => ?_
      have nm : NM many a' mm := by
        refine ⟨hle many List.mem_cons_self, fun t ht hv => ?_, ?_⟩
        · have := hle (t.2 + 1) (List.mem_cons_of_mem _ (List.mem_map.mpr ⟨t, List.mem_filter.mpr ⟨ht, decide_eq_true hv⟩, rfl⟩))
          omega
        · rcases List.mem_cons.mp hmm with e | e
          · exact .inl e
          · obtain ⟨t, ht, e⟩ := List.mem_map.mp e
            obtain ⟨h1, h2⟩ := List.mem_filter.mp ht
            exact .inr ⟨t, h1, of_decide_eq_true h2, e.symm⟩
      refine (k1 _ ⟨mm, T, pre ++ [a'], .val (dAtm a), .val (dAtm a'), .non, .non, fun out G => ?_, ?_, fun x hx => ?_, fun x hx c hc => ?_, ?_, ?_, ?_⟩).1
      · rw [List.append_assoc]
        exact hG (a' :: out) (.cons st nm G)
      · intro z
        have := st.compl s0 hs0 x0 ⟨l0, b0, r0, e0, ea0, by assumption⟩
        rw [z] at this
        cases this
      · obtain ⟨s, hs, l, b, r, e, _, e2⟩ := st.sound x hx
        have := hl s hs
        rw [e] at this
        rw [e2, List.length_map]
        simp at this ⊢
        omega
      · obtain ⟨s, hs, l, b, r, e, _, e2⟩ := st.sound x hx
        rw [e2] at hc
        obtain ⟨u, hu, rfl⟩ := List.mem_map.mp hc
        show (u.2.map _).length ≤ 3
        rw [List.length_map]
        exact ht s hs u (by rw [e]; rcases List.mem_append.mp hu with h | h <;> simp [h])
      · refine Nat.le_trans hTl ?_
        rw [Nat.pow_succ]
        exact Nat.mul_le_mul hS (by omega)
      · rw [List.length_append, hpl]; rfl
      · rw [List.map_append]; rfl
  · obtain ⟨many, S, pre, x5, x8, x9, x10, hG, hne, hl, ht, hS, hpl, rfl⟩ := hI
    walk_at "ev"
    refine L_pr_freed q.1 _ (by omega) ?_
    walk_at "ev"
    refine L_pr_renamed _ 0 (F0 q) _ (by rw [List.length_map]; omega) ?_
    walk_at "ev"
    have G := hG [] .nil
    rw [List.append_nil] at G
    exact hP _ (least_of h.w G hpl)
theorem nice_q (q : Qy) (h1 : q.1.length ≤ 100000) (h2 : q.2.length ≤ 100000) (h3 : ∀ a ∈ q.2, a.2.length ≤ 100000) : nice 8 (dQ q) := by
  have ht : ∀ (n : Nat) (t : Tm), nice (n + 2) (dTm t) := fun n t => ⟨show 2 ≤ 100000 by decide, fun x hx => by
    simp only [List.mem_cons, List.not_mem_nil, or_false] at hx
    rcases hx with rfl | rfl <;> trivial⟩
  have hts : ∀ (n : Nat) (ts : List Tm), ts.length ≤ 100000 → nice (n + 3) (dTms ts) := fun n ts hl => ⟨by rw [List.length_map]; exact hl, fun x hx => by
    obtain ⟨t, _, rfl⟩ := List.mem_map.mp hx
    exact ht n t⟩
  have ha : ∀ a ∈ q.2, nice 6 (dAtm a) := fun a ha => ⟨show 2 ≤ 100000 by decide, fun x hx => by
    simp only [List.mem_cons, List.not_mem_nil, or_false] at hx
    rcases hx with rfl | rfl
    · trivial
    · exact hts 2 a.2 (h3 a ha)⟩
  refine ⟨show 2 ≤ 100000 by decide, fun x hx => ?_⟩
  simp only [List.mem_cons, List.not_mem_nil, or_false] at hx
  rcases hx with rfl | rfl
  · exact hts 4 q.1 h1
  · refine ⟨by rw [List.length_map]; exact h2, fun y hy => ?_⟩
    obtain ⟨a, hm, rfl⟩ := List.mem_map.mp hy
    exact ha a hm
theorem Least.ok {m : Nat} {q L : Qy} (h : QOk m q) (hL : Least m q L) : QOk m L := by
  have w := hL.qw
  obtain ⟨o, ho, rfl⟩ := hL.att
  have p := sortB_perm (lt := alt) (q.2.map (trnA (ofn o)))
  refine ⟨w, h.m4, ?_, ?_, ?_, fun a ha => ?_⟩
  · show (q.1.map _).length ≤ 3
    rw [List.length_map]; exact h.h3
  · show (sortB alt _).length ≤ 4
    rw [p.length_eq, List.length_map]; exact h.b4
  · show 1 ≤ (sortB alt _).length
    rw [p.length_eq, List.length_map]; exact h.b1
  · obtain ⟨c, hc, rfl⟩ := List.mem_map.mp (p.mem_iff.mp ha)
    show (c.2.map _).length ≤ 3
    rw [List.length_map]; exact h.t3 c hc
theorem QOk.nice {m : Nat} {q : Qy} (h : QOk m q) : nice 8 (dQ q) := nice_q q (Nat.le_trans h.h3 (by decide)) (Nat.le_trans h.b4 (by decide)) fun a ha => Nat.le_trans (h.t3 a ha) (by decide)
theorem law_true (ns : List Int) (h : ns.length ≤ 63) : g_law [.rol (ns.map .int)] fun d => d = .bl true := by
  unfold g_law b_law
  walk_at "ev"
  refine L_box ns 0 _ h (by decide) fun d0 hd0 => ?_
  walk_at "ev"
  refine L_world d0 _ hd0 fun nm A nums d1 hw _ => ?_
  walk_at "ev"
  refine L_box ns 1 _ h (by decide) fun d2 hd2 => ?_
  walk_at "ev"
  refine L_query d2 nm A nums _ hd2 hw fun q m d3 hq _ => ?_
  walk_at "ev"
  refine L_box ns 2 _ h (by decide) fun d4 hd4 => ?_
  walk_at "ev"
  refine L_take d4 _ _ hd4 (by decide) (by decide) fun r d5 h1 h2 hd5 => ?_
  walk_at "ev"
  let J : List Sl → Prop := fun ρ => ∃ (q1 : Qy) (m1 : Nat) (d6 : D), QOk m1 q1 ∧ Box d6 ∧ ρ = [.val (.rol (ns.map .int)), .val (wD nm A nums), .val (dQ q), .own d6, .val (.int r), .val (dQ q1), .non, .non, .non]
  refine seqJ J (fun Q q1 q2 q3 q4 q5 => ?_) (fun ρ hI => ?_)
  · have go : g_law_changed d5 [dQ q, .lst (nums.map .int)] fun d c => Q (.nx [.val (.rol (ns.map .int)), .val (wD nm A nums), .val (dQ q), .own c, .val (.int r), .val d, .non, .non, .non]) :=
      L_changed d5 q m nums _ hd5 hq hw.l2 fun q' m' d' hq' hd' => q1 _ ⟨q', m', d', hq', hd', rfl⟩
    have no : Q (.nx [.val (.rol (ns.map .int)), .val (wD nm A nums), .val (dQ q), .own d5, .val (.int r), .val (dQ q), .non, .non, .non]) := q1 _ ⟨q, m, d5, hq, hd5, rfl⟩
    walk_at "ev"
    refine bool_if (fun e => ?_) (fun e => ?_)
    · walk_at "ev"
      exact go
    · walk_at "ev"
      refine bool_if (fun e => ?_) (fun e => ?_)
      · walk_at "ev"
        exact go
      · walk_at "ev"
        exact no
  obtain ⟨q1, m1, d6, hq1, hd6, rfl⟩ := hI
  walk_at "ev"
  refine seqJ J (fun Q q1' q2 q3 q4 q5 => ?_) (fun ρ hI => ?_)
  · walk_at "ev"
    refine bool_if (fun e => ?_) (fun e => ?_)
    · walk_at "ev"
      refine L_query d6 nm A nums _ hd6 hw fun q' m' d' hq' hd' => ?_
      walk_at "ev"
      exact q1' _ ⟨q', m', d', hq', hd', rfl⟩
    · walk_at "ev"
      exact q1' _ ⟨q1, m1, d6, hq1, hd6, rfl⟩
  clear hq1 hd6 q1 m1 d6
  obtain ⟨q1, m1, d6, hq1, hd6, rfl⟩ := hI
  walk_at "ev"
  refine seqJ J (fun Q q1' q2 q3 q4 q5 => ?_) (fun ρ hI => ?_)
  · have go : g_law_twin d6 [dQ q1] fun d c => Q (.nx [.val (.rol (ns.map .int)), .val (wD nm A nums), .val (dQ q), .own c, .val (.int r), .val d, .non, .non, .non]) :=
      L_twin d6 q1 m1 _ hd6 hq1 fun q' o d' hq' _ _ _ hd' => q1' _ ⟨q', m1, d', hq', hd', rfl⟩
    have no : Q (.nx [.val (.rol (ns.map .int)), .val (wD nm A nums), .val (dQ q), .own d6, .val (.int r), .val (dQ q1), .non, .non, .non]) := q1' _ ⟨q1, m1, d6, hq1, hd6, rfl⟩
    walk_at "ev"
    refine bool_if (fun e => ?_) (fun e => ?_)
    · walk_at "ev"
      exact go
    · walk_at "ev"
      refine bool_if (fun e => ?_) (fun e => ?_)
      · walk_at "ev"
        exact go
      · walk_at "ev"
        exact no
  clear hq1 hd6 q1 m1 d6
  obtain ⟨q1, m1, d6, hq1, hd6, rfl⟩ := hI
  walk_at "ev"
  refine L_least_form q m _ hq fun L hL => ?_
  have hok := Least.ok hq hL
  walk_at "ev"
  refine L_least q L m _ hq hL ?_
  walk_at "ev"
  refine L_same 8 (dQ L) _ hok.nice ?_
  walk_at "ev"
  refine L_least_form q1 m1 _ hq1 fun L1 hL1 => ?_
  have hok1 := Least.ok hq1 hL1
  walk_at "ev"
  refine L_least q1 L1 m1 _ hq1 hL1 ?_
  walk_at "ev"
  refine L_same 8 (dQ L1) _ hok1.nice ?_
  walk_at "ev"
  refine L_is_renaming q q1 L L1 m m1 _ hq hq1 hL hL1 ?_
  walk_at "ev"
  refine L_box ns 3 _ h (by decide) fun d7 hd7 => ?_
  walk_at "ev"
  refine L_twin d7 q m _ hd7 hq fun q2 o d8 hq2 ho e1 e2 _ => ?_
  walk_at "ev"
  refine L_least_form q2 m _ hq2 fun L2 hL2 => ?_
  have : L = L2 := hL.same hL2 ho (Prod.ext e1.symm (aso.sort_perm e2.symm))
  subst this
  walk_at "ev"
  refine L_same 8 (dQ L) _ hok.nice ?_
  walk_at "ev"
  refine L_least_form L m _ hok fun L3 hL3 => ?_
  have : L = L3 := by
    obtain ⟨p, hp, ep⟩ := hL.att
    refine hL.same hL3 hp ?_
    rw [ep]
    exact Prod.ext rfl (aso.sort_self (sortB_sorted aso _)).symm
  subst this
  walk_at "ev"
  refine L_same 8 (dQ L) _ hok.nice ?_
  rfl
end LK36

/-! K36E: the end (printed by gen.py). -/
namespace LK36
open PySem L2 DL
theorem all_mk [HW] {l : PySem.W.OpenLaw} {K : PySem.W.Frag} {h : Heap} {mg : Str → Option Value} {fa : Addr} (X : K.In h) (G : h.Ns mainGlobals mg) (hfa : mg "law" = some (.ref fa))
    (A_renamed : At K "renamed" s_renamed)
    (A_freed : At K "freed" s_freed)
    (A_numbering : At K "numbering" s_numbering)
    (A_law_box : At K "_law_box" s_law_box)
    (A_law_take : At K "_law_take" s_law_take)
    (A_law_ordered : At K "_law_ordered" s_law_ordered)
    (A_law_placed : At K "_law_placed" s_law_placed)
    (A_law_turned : At K "_law_turned" s_law_turned)
    (A_law_orders : At K "_law_orders" s_law_orders)
    (A_law_alike_kind : At K "_law_alike_kind" s_law_alike_kind)
    (A_renamed_atoms : At K "renamed_atoms" s_renamed_atoms)
    (A_freed_atoms : At K "freed_atoms" s_freed_atoms)
    (A_law_spread : At K "_law_spread" s_law_spread)
    (A_law_many : At K "_law_many" s_law_many)
    (A_law_numbered : At K "_law_numbered" s_law_numbered)
    (A_law_renamed : At K "_law_renamed" s_law_renamed)
    (A_law_shuffled : At K "_law_shuffled" s_law_shuffled)
    (A_least_next : At K "least_next" s_least_next)
    (A_law_world : At K "_law_world" s_law_world)
    (A_law_query : At K "_law_query" s_law_query)
    (A_law_least : At K "_law_least" s_law_least)
    (A_law_twin : At K "_law_twin" s_law_twin)
    (A_law_changed : At K "_law_changed" s_law_changed)
    (A_law_is_renaming : At K "_law_is_renaming" s_law_is_renaming)
    (A_least_form : At K "least_form" s_least_form)
    (A_law_same : At K "_law_same" s_law_same)
    (A_law : At K "law" s_law)
    (z_bool : PySem.W.nsIn K mainGlobals "bool" = some none)
    (z_enumerate : PySem.W.nsIn K mainGlobals "enumerate" = some none)
    (z_int : PySem.W.nsIn K mainGlobals "int" = some none)
    (z_isinstance : PySem.W.nsIn K mainGlobals "isinstance" = some none)
    (z_len : PySem.W.nsIn K mainGlobals "len" = some none)
    (z_list : PySem.W.nsIn K mainGlobals "list" = some none)
    (z_max : PySem.W.nsIn K mainGlobals "max" = some none)
    (z_min : PySem.W.nsIn K mainGlobals "min" = some none)
    (z_range : PySem.W.nsIn K mainGlobals "range" = some none)
    (z_sorted : PySem.W.nsIn K mainGlobals "sorted" = some none)
    (z_str : PySem.W.nsIn K mainGlobals "str" = some none)
    (z_sum : PySem.W.nsIn K mainGlobals "sum" = some none)
    (z_tuple : PySem.W.nsIn K mainGlobals "tuple" = some none)
    : ∃ fd : FuncData, (∀ (s : Shared) (v : Value), BindsTo s fd ⟨[v], []⟩ [("_law_script", v)]) ∧ ∀ base : Heap, K.In base → base.Ns mainGlobals mg → FnOk l.prog HW.w K mg base CX0 11 fa fd ["_law_script"] (spP K 1 g_law) := by
  have T : Txt K mg := ⟨PySem.W.mg_none_of X G z_bool, PySem.W.mg_none_of X G z_enumerate, PySem.W.mg_none_of X G z_int, PySem.W.mg_none_of X G z_isinstance, PySem.W.mg_none_of X G z_len, PySem.W.mg_none_of X G z_list, PySem.W.mg_none_of X G z_max, PySem.W.mg_none_of X G z_min, PySem.W.mg_none_of X G z_range, PySem.W.mg_none_of X G z_sorted, PySem.W.mg_none_of X G z_str, PySem.W.mg_none_of X G z_sum, PySem.W.mg_none_of X G z_tuple⟩
  obtain ⟨f0, fd, F, a0⟩ := A_law
  have e := hfa.symm.trans (PySem.W.mg_of X G a0)
  cases e
  refine ⟨fd, fun s v => ?_, fun base _ _ => ?_⟩
  · obtain ⟨oc, od, kV, doc, pm, an, cdv, ct, osl, rfl, _, _⟩ := F.ex
    exact .of_eq rfl
  · have d_law_box : Df l.prog HW.w K mg base 1 "_law_box" ["_law_script", "_law_place"] (spF K 2 g_law_box) := df_mk A_law_box X G (fun _ _ _ _ _ _ us hl => match us, hl with | [_, _], _ => rfl) (fun f fd F => ok_law_box F T )
    have d_law_ordered : Df l.prog HW.w K mg base 1 "_law_ordered" ["_law_body"] (spP K 1 g_law_ordered) := df_mk A_law_ordered X G (fun _ _ _ _ _ _ us hl => match us, hl with | [_], _ => rfl) (fun f fd F => ok_law_ordered F T )
    have d_law_placed : Df l.prog HW.w K mg base 1 "_law_placed" ["_law_term", "_law_order"] (spP K 2 g_law_placed) := df_mk A_law_placed X G (fun _ _ _ _ _ _ us hl => match us, hl with | [_, _], _ => rfl) (fun f fd F => ok_law_placed F T )
    have d_law_numbered : Df l.prog HW.w K mg base 2 "_law_numbered" ["_law_head", "_law_body"] (spP K 2 g_law_numbered) := df_mk A_law_numbered X G (fun _ _ _ _ _ _ us hl => match us, hl with | [_, _], _ => rfl) (fun f fd F => ok_law_numbered F T d_law_ordered d_law_placed)
    have d_law_take : Df l.prog HW.w K mg base 1 "_law_take" ["_law_box_here", "_law_many_here"] (spI K 1 g_law_take) := df_mk A_law_take X G (fun _ _ _ _ _ _ us hl => match us, hl with | [_, _], _ => rfl) (fun f fd F => ok_law_take F T )
    have d_law_changed : Df l.prog HW.w K mg base 3 "_law_changed" ["_law_box_here", "_law_the_query", "_law_numbers"] (spI K 2 g_law_changed) := df_mk A_law_changed X G (fun _ _ _ _ _ _ us hl => match us, hl with | [_, _, _], _ => rfl) (fun f fd F => ok_law_changed F T d_law_numbered d_law_ordered d_law_take)
    have d_law_many : Df l.prog HW.w K mg base 2 "_law_many" ["_law_body"] (spP K 1 g_law_many) := df_mk A_law_many X G (fun _ _ _ _ _ _ us hl => match us, hl with | [_], _ => rfl) (fun f fd F => ok_law_many F T d_law_ordered)
    have d_law_orders : Df l.prog HW.w K mg base 1 "_law_orders" ["_law_many_here"] (spP K 1 g_law_orders) := df_mk A_law_orders X G (fun _ _ _ _ _ _ us hl => match us, hl with | [_], _ => rfl) (fun f fd F => ok_law_orders F T )
    have d_law_turned : Df l.prog HW.w K mg base 1 "_law_turned" ["_law_terms", "_law_order"] (spP K 2 g_law_turned) := df_mk A_law_turned X G (fun _ _ _ _ _ _ us hl => match us, hl with | [_, _], _ => rfl) (fun f fd F => ok_law_turned F T )
    have d_law_renamed : Df l.prog HW.w K mg base 2 "_law_renamed" ["_law_the_query", "_law_order"] (spP K 2 g_law_renamed) := df_mk A_law_renamed X G (fun _ _ _ _ _ _ us hl => match us, hl with | [_, _], _ => rfl) (fun f fd F => ok_law_renamed F T d_law_turned)
    have d_law_is_renaming : Df l.prog HW.w K mg base 3 "_law_is_renaming" ["_law_one", "_law_mate"] (spP K 2 g_law_is_renaming) := df_mk A_law_is_renaming X G (fun _ _ _ _ _ _ us hl => match us, hl with | [_, _], _ => rfl) (fun f fd F => ok_law_is_renaming F T d_law_many d_law_orders d_law_renamed)
    have d_law_least : Df l.prog HW.w K mg base 3 "_law_least" ["_law_the_query"] (spP K 1 g_law_least) := df_mk A_law_least X G (fun _ _ _ _ _ _ us hl => match us, hl with | [_], _ => rfl) (fun f fd F => ok_law_least F T d_law_many d_law_orders d_law_renamed)
    have d_law_query : Df l.prog HW.w K mg base 3 "_law_query" ["_law_box_here", "_law_world_here", "_law_most"] (spI K 2 g_law_query) := df_mk A_law_query X G (fun _ _ _ _ _ _ us hl => match us, hl with | [_, _, _], _ => rfl) (fun f fd F => ok_law_query F T d_law_numbered d_law_ordered d_law_take)
    have d_law_alike_kind : Df l.prog HW.w K mg base 1 "_law_alike_kind" ["_law_told", "_law_due"] (spP K 2 g_law_alike_kind) := df_mk A_law_alike_kind X G (fun _ _ _ _ _ _ us hl => match us, hl with | [_, _], _ => rfl) (fun f fd F => ok_law_alike_kind F T )
    have dd_law_same : ∀ n : Nat, Df l.prog HW.w K mg base (2 + n) "_law_same" ["_law_told", "_law_due"] (spP K 2 (g_law_same n)) ∧ True := fun n => by
      induction n with
      | zero => exact ⟨df_mk A_law_same X G (fun _ _ _ _ _ _ us hl => match us, hl with | [_, _], _ => rfl) (fun _ _ _ => fn_none), trivial⟩
      | succ n ih =>
        obtain ⟨d_law_same, _⟩ := ih
        exact ⟨df_mk A_law_same X G (fun _ _ _ _ _ _ us hl => match us, hl with | [_, _], _ => rfl) (fun f fd F => ok_law_same F T n d_law_same d_law_alike_kind), trivial⟩
    have d_law_same : Df l.prog HW.w K mg base 10 "_law_same" ["_law_told", "_law_due"] (spP K 2 (g_law_same 8)) := (dd_law_same 8).1
    have d_law_shuffled : Df l.prog HW.w K mg base 2 "_law_shuffled" ["_law_box_here", "_law_many_here"] (spI K 1 g_law_shuffled) := df_mk A_law_shuffled X G (fun _ _ _ _ _ _ us hl => match us, hl with | [_, _], _ => rfl) (fun f fd F => ok_law_shuffled F T d_law_take)
    have d_law_twin : Df l.prog HW.w K mg base 3 "_law_twin" ["_law_box_here", "_law_the_query"] (spI K 1 g_law_twin) := df_mk A_law_twin X G (fun _ _ _ _ _ _ us hl => match us, hl with | [_, _], _ => rfl) (fun f fd F => ok_law_twin F T d_law_many d_law_shuffled d_law_turned)
    have d_law_spread : Df l.prog HW.w K mg base 2 "_law_spread" ["_law_box_here", "_law_menu"] (spI K 1 g_law_spread) := df_mk A_law_spread X G (fun _ _ _ _ _ _ us hl => match us, hl with | [_, _], _ => rfl) (fun f fd F => ok_law_spread F T d_law_take)
    have d_law_world : Df l.prog HW.w K mg base 3 "_law_world" ["_law_box_here", "_law_kind", "_law_caps"] (spI K 2 g_law_world) := df_mk A_law_world X G (fun _ _ _ _ _ _ us hl => match us, hl with | [_, _, _], _ => rfl) (fun f fd F => ok_law_world F T d_law_spread d_law_take)
    have d_freed : Df l.prog HW.w K mg base 1 "freed" ["terms"] (spP K 1 g_freed) := df_mk A_freed X G (fun _ _ _ _ _ _ us hl => match us, hl with | [_], _ => rfl) (fun f fd F => ok_freed F T )
    have d_freed_atoms : Df l.prog HW.w K mg base 2 "freed_atoms" ["body"] (spP K 1 g_freed_atoms) := df_mk A_freed_atoms X G (fun _ _ _ _ _ _ us hl => match us, hl with | [_], _ => rfl) (fun f fd F => ok_freed_atoms F T d_freed)
    have d_numbering : Df l.prog HW.w K mg base 1 "numbering" ["terms", "many"] (spP K 2 g_numbering) := df_mk A_numbering X G (fun _ _ _ _ _ _ us hl => match us, hl with | [_, _], _ => rfl) (fun f fd F => ok_numbering F T )
    have d_renamed : Df l.prog HW.w K mg base 1 "renamed" ["terms", "names"] (spP K 2 g_renamed) := df_mk A_renamed X G (fun _ _ _ _ _ _ us hl => match us, hl with | [_, _], _ => rfl) (fun f fd F => ok_renamed F T )
    have d_renamed_atoms : Df l.prog HW.w K mg base 2 "renamed_atoms" ["body", "names"] (spP K 2 g_renamed_atoms) := df_mk A_renamed_atoms X G (fun _ _ _ _ _ _ us hl => match us, hl with | [_, _], _ => rfl) (fun f fd F => ok_renamed_atoms F T d_renamed)
    have d_least_next : Df l.prog HW.w K mg base 3 "least_next" ["states", "many"] (spP K 2 g_least_next) := df_mk A_least_next X G (fun _ _ _ _ _ _ us hl => match us, hl with | [_, _], _ => rfl) (fun f fd F => ok_least_next F T d_numbering d_renamed d_renamed_atoms)
    have d_least_form : Df l.prog HW.w K mg base 4 "least_form" ["query"] (spP K 1 g_least_form) := df_mk A_least_form X G (fun _ _ _ _ _ _ us hl => match us, hl with | [_], _ => rfl) (fun f fd F => ok_least_form F T d_freed d_freed_atoms d_least_next d_numbering d_renamed d_renamed_atoms)
    have k_least_form_query : Dk l.prog HW.w K mg base 4 "least_form" ["query"] ["query"] [0] (spP K 1 g_least_form) := dk_mk A_least_form X G (fun _ _ _ _ _ _ us hl => match us, hl with | [_], _ => rfl) (fun f fd F => ok_least_form F T d_freed d_freed_atoms d_least_next d_numbering d_renamed d_renamed_atoms)
    exact ok_law F T d_law_box d_law_changed d_law_is_renaming d_law_least d_law_query d_law_same d_law_take d_law_twin d_law_world d_least_form k_least_form_query
end LK36
open PySem PySem.W PyProof.Rows in
set_option maxRecDepth 100000 in
set_option maxHeartbeats 0 in
theorem PySem.Challenge.cw_deltamill_k36_whole_least_forms_holds : PySem.Challenge.rw_deltamill_k36_whole_least_forms.Holds := by
  w_on; o_law; k_head; (case hw => w_witness2)
  k_fill
  refine L2.walk_of (l := PySem.Challenge.rw_deltamill_k36_whole_least_forms) (n := 63) (k := 11) (x := "_law_script") (CX := fun _ => L2.CX0) (sp := fun w => @DL.spP ⟨w⟩ _ 1 LK36.g_law) rfl (by decide) rfl ⟨rfl, by decide, by decide⟩ (fun w h Y => PySem.W.kIn_of Y) ?F (fun w _ a ns hl _ hS => by letI : DL.HW := ⟨w⟩; exact DL.law_sp LK36.law_true hl hS) (fun _ _ _ _ _ h => h)
  case F =>
    intro w mg fa h KX G hmg
    letI : DL.HW := ⟨w⟩
    refine' LK36.all_mk KX G hmg (DL.at_mk ?a0 ?l0 ?c0 ?k0) (DL.at_mk ?a1 ?l1 ?c1 ?k1) (DL.at_mk ?a2 ?l2 ?c2 ?k2) (DL.at_mk ?a3 ?l3 ?c3 ?k3) (DL.at_mk ?a4 ?l4 ?c4 ?k4) (DL.at_mk ?a5 ?l5 ?c5 ?k5) (DL.at_mk ?a6 ?l6 ?c6 ?k6) (DL.at_mk ?a7 ?l7 ?c7 ?k7) (DL.at_mk ?a8 ?l8 ?c8 ?k8) (DL.at_mk ?a9 ?l9 ?c9 ?k9) (DL.at_mk ?a10 ?l10 ?c10 ?k10) (DL.at_mk ?a11 ?l11 ?c11 ?k11) (DL.at_mk ?a12 ?l12 ?c12 ?k12) (DL.at_mk ?a13 ?l13 ?c13 ?k13) (DL.at_mk ?a14 ?l14 ?c14 ?k14) (DL.at_mk ?a15 ?l15 ?c15 ?k15) (DL.at_mk ?a16 ?l16 ?c16 ?k16) (DL.at_mk ?a17 ?l17 ?c17 ?k17) (DL.at_mk ?a18 ?l18 ?c18 ?k18) (DL.at_mk ?a19 ?l19 ?c19 ?k19) (DL.at_mk ?a20 ?l20 ?c20 ?k20) (DL.at_mk ?a21 ?l21 ?c21 ?k21) (DL.at_mk ?a22 ?l22 ?c22 ?k22) (DL.at_mk ?a23 ?l23 ?c23 ?k23) (DL.at_mk ?a24 ?l24 ?c24 ?k24) (DL.at_mk ?a25 ?l25 ?c25 ?k25) (DL.at_mk ?a26 ?l26 ?c26 ?k26)    ?z_bool ?z_enumerate ?z_int ?z_isinstance ?z_len ?z_list ?z_max ?z_min ?z_range ?z_sorted ?z_str ?z_sum ?z_tuple 
    (case a0 => k_is); (case l0 => k_is); (case c0 => k_is); (case k0 => k_is)
    (case a1 => k_is); (case l1 => k_is); (case c1 => k_is); (case k1 => k_is)
    (case a2 => k_is); (case l2 => k_is); (case c2 => k_is); (case k2 => k_is)
    (case a3 => k_is); (case l3 => k_is); (case c3 => k_is); (case k3 => k_is)
    (case a4 => k_is); (case l4 => k_is); (case c4 => k_is); (case k4 => k_is)
    (case a5 => k_is); (case l5 => k_is); (case c5 => k_is); (case k5 => k_is)
    (case a6 => k_is); (case l6 => k_is); (case c6 => k_is); (case k6 => k_is)
    (case a7 => k_is); (case l7 => k_is); (case c7 => k_is); (case k7 => k_is)
    (case a8 => k_is); (case l8 => k_is); (case c8 => k_is); (case k8 => k_is)
    (case a9 => k_is); (case l9 => k_is); (case c9 => k_is); (case k9 => k_is)
    (case a10 => k_is); (case l10 => k_is); (case c10 => k_is); (case k10 => k_is)
    (case a11 => k_is); (case l11 => k_is); (case c11 => k_is); (case k11 => k_is)
    (case a12 => k_is); (case l12 => k_is); (case c12 => k_is); (case k12 => k_is)
    (case a13 => k_is); (case l13 => k_is); (case c13 => k_is); (case k13 => k_is)
    (case a14 => k_is); (case l14 => k_is); (case c14 => k_is); (case k14 => k_is)
    (case a15 => k_is); (case l15 => k_is); (case c15 => k_is); (case k15 => k_is)
    (case a16 => k_is); (case l16 => k_is); (case c16 => k_is); (case k16 => k_is)
    (case a17 => k_is); (case l17 => k_is); (case c17 => k_is); (case k17 => k_is)
    (case a18 => k_is); (case l18 => k_is); (case c18 => k_is); (case k18 => k_is)
    (case a19 => k_is); (case l19 => k_is); (case c19 => k_is); (case k19 => k_is)
    (case a20 => k_is); (case l20 => k_is); (case c20 => k_is); (case k20 => k_is)
    (case a21 => k_is); (case l21 => k_is); (case c21 => k_is); (case k21 => k_is)
    (case a22 => k_is); (case l22 => k_is); (case c22 => k_is); (case k22 => k_is)
    (case a23 => k_is); (case l23 => k_is); (case c23 => k_is); (case k23 => k_is)
    (case a24 => k_is); (case l24 => k_is); (case c24 => k_is); (case k24 => k_is)
    (case a25 => k_is); (case l25 => k_is); (case c25 => k_is); (case k25 => k_is)
    (case a26 => k_is); (case l26 => k_is); (case c26 => k_is); (case k26 => k_is)
    (case z_bool => k_is)
    (case z_enumerate => k_is)
    (case z_int => k_is)
    (case z_isinstance => k_is)
    (case z_len => k_is)
    (case z_list => k_is)
    (case z_max => k_is)
    (case z_min => k_is)
    (case z_range => k_is)
    (case z_sorted => k_is)
    (case z_str => k_is)
    (case z_sum => k_is)
    (case z_tuple => k_is)
#print axioms PySem.Challenge.cw_deltamill_k36_whole_least_forms_holds
