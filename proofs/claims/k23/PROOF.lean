import PyProof.Rows.All
import Wide.All
import OpenK.AllK
import Wide.FinOn
import HandS.ForMost
import HandS.EndBits
import HandS.IsInst
import HandS.TupAny
import HandS.TupMul
import HandS.Wide
import HandS.SortInts
import HandS.DictComp
import HandS.Zip
import HandS.Flow
import HandS.TupLe
import HandS.More
import KE.GoesMore
import PySem.Challenge.RW_threemachines_k23_which_core_runs
set_option Elab.async false
set_option linter.all false
set_option maxRecDepth 100000
set_option maxHeartbeats 4000000
/-! G: value semantics over the hand layer: names hold data, or own a list or a dict. -/
namespace G
open PySem PySem.Spec PyProof.Rows L2

abbrev D := PyData
abbrev Fg := PySem.W.Frag
def kD : Key → D
  | .inl i => .int i
  | .inr x => .str x

mutual
/-- a value that is this data, by what F knows -/
inductive Rp (K : Fg) (F : Hp) : V → D → Prop
  | non : Rp K F .non .none
  | bl (b : Bool) : Rp K F (.bl b) (.bool b)
  | int (i : Int) : Rp K F (.int i) (.int i)
  | str (x : Str) : Rp K F (.str x) (.str x)
  | lst {a : Addr} {xs : List V} {ds : List D} : SqL K F a xs → RpA K F xs ds → Rp K F (.ref a) (.list ds)
  | tup {a : Addr} {xs : List V} {ds : List D} : SqT K F a xs → RpA K F xs ds → Rp K F (.ref a) (.tuple ds)
  | dct {a : Addr} {kvs : List (Key × V)} {ds : List D} : Rd F a (.dK kvs) → RpA K F (kvs.map (·.2)) ds → Rp K F (.ref a) (.dict ((kvs.map fun p => kD p.1).zip ds))
inductive RpA (K : Fg) (F : Hp) : List V → List D → Prop
  | nil : RpA K F [] []
  | cons {v : V} {vs : List V} {d : D} {ds : List D} : Rp K F v d → RpA K F vs ds → RpA K F (v :: vs) (d :: ds)
end

/-- F' knows all that F knows -/
def Le (F F' : Hp) : Prop := ∀ a o, F a = some o → F' a = some o
/-- what F knows may be read in H -/
def Sub (F H : Hp) : Prop := ∀ a u, Rd F a u → Rd H a u
theorem Le.refl (F : Hp) : Le F F := fun _ _ h => h
theorem Le.trans {F G H : Hp} (a : Le F G) (b : Le G H) : Le F H := fun x o h => b x o (a x o h)
theorem Le.rd {F F' : Hp} (e : Le F F') {a : Addr} {u : HO} (h : Rd F a u) : Rd F' a u := by
  rcases h with h | ⟨o, h⟩
  · exact .inl (e _ _ h)
  · exact .inr ⟨o, e _ _ h⟩
theorem Le.sub {F F' : Hp} (e : Le F F') : Sub F F' := fun _ _ h => e.rd h
theorem Sub.refl (F : Hp) : Sub F F := fun _ _ h => h
theorem Sub.trans {F G H : Hp} (a : Sub F G) (b : Sub G H) : Sub F H := fun x o h => b x o (a x o h)
theorem Sub.sqL {K : Fg} {F H : Hp} (e : Sub F H) {a : Addr} {xs : List V} (h : SqL K F a xs) : SqL K H a xs := by
  rcases h with h | h
  · exact .inl (e _ _ h)
  · exact .inr h
theorem Sub.sqT {K : Fg} {F H : Hp} (e : Sub F H) {a : Addr} {xs : List V} (h : SqT K F a xs) : SqT K H a xs := by
  rcases h with h | h
  · exact .inl (e _ _ h)
  · exact .inr h
mutual
theorem Rp.sub {K : Fg} {F H : Hp} (e : Sub F H) : ∀ {v : V} {d : D}, Rp K F v d → Rp K H v d
  | _, _, .non => .non
  | _, _, .bl b => .bl b
  | _, _, .int b => .int b
  | _, _, .str b => .str b
  | _, _, .lst h r => .lst (e.sqL h) (RpA.sub e r)
  | _, _, .tup h r => .tup (e.sqT h) (RpA.sub e r)
  | _, _, .dct h r => .dct (e _ _ h) (RpA.sub e r)
theorem RpA.sub {K : Fg} {F H : Hp} (e : Sub F H) : ∀ {v : List V} {d : List D}, RpA K F v d → RpA K H v d
  | _, _, .nil => .nil
  | _, _, .cons h r => .cons (Rp.sub e h) (RpA.sub e r)
end
theorem Rp.le {K : Fg} {F H : Hp} (e : Le F H) {v : V} {d : D} (h : Rp K F v d) : Rp K H v d := h.sub e.sub
theorem RpA.le {K : Fg} {F H : Hp} (e : Le F H) {v : List V} {d : List D} (h : RpA K F v d) : RpA K H v d := h.sub e.sub
theorem RpA.length {K : Fg} {F : Hp} : ∀ {v : List V} {d : List D}, RpA K F v d → v.length = d.length
  | _, _, .nil => rfl
  | _, _, .cons _ r => by rw [List.length_cons, List.length_cons, r.length]
theorem RpA.get {K : Fg} {F : Hp} : ∀ {vs : List V} {ds : List D} {i : Nat} {d : D}, RpA K F vs ds → ds[i]? = some d → ∃ v, vs[i]? = some v ∧ Rp K F v d
  | _, _, _, _, .nil, e => by simp at e
  | _, _, 0, _, .cons r _, e => by simp at e; subst e; exact ⟨_, rfl, r⟩
  | _, _, i + 1, d, .cons _ t, e => by
    obtain ⟨u, h1, h2⟩ := RpA.get (i := i) (d := d) t (by simpa using e)
    exact ⟨u, by simpa using h1, h2⟩
theorem RpA.getV {K : Fg} {F : Hp} : ∀ {vs : List V} {ds : List D} {i : Nat} {v : V}, RpA K F vs ds → vs[i]? = some v → ∃ d, ds[i]? = some d ∧ Rp K F v d
  | _, _, _, _, .nil, e => by simp at e
  | _, _, 0, _, .cons r _, e => by simp at e; subst e; exact ⟨_, rfl, r⟩
  | _, _, i + 1, d, .cons _ t, e => by
    obtain ⟨u, h1, h2⟩ := RpA.getV (i := i) (v := d) t (by simpa using e)
    exact ⟨u, by simpa using h1, h2⟩
theorem RpA.append {K : Fg} {F : Hp} : ∀ {v w : List V} {d e : List D}, RpA K F v d → RpA K F w e → RpA K F (v ++ w) (d ++ e)
  | _, _, _, _, .nil, s => s
  | _, _, _, _, .cons h r, s => .cons h (RpA.append r s)
theorem RpA.take {K : Fg} {F : Hp} : ∀ {v : List V} {d : List D} (n : Nat), RpA K F v d → RpA K F (v.take n) (d.take n)
  | _, _, 0, _ => .nil
  | _, _, _ + 1, .nil => .nil
  | _, _, n + 1, .cons h r => .cons h (RpA.take n r)
theorem RpA.drop {K : Fg} {F : Hp} : ∀ {v : List V} {d : List D} (n : Nat), RpA K F v d → RpA K F (v.drop n) (d.drop n)
  | _, _, 0, h => h
  | _, _, _ + 1, .nil => .nil
  | _, _, n + 1, .cons h r => RpA.drop n r
theorem RpA.set {K : Fg} {F : Hp} {x : V} {y : D} (q : Rp K F x y) : ∀ {v : List V} {d : List D} (n : Nat), RpA K F v d → RpA K F (v.set n x) (d.set n y)
  | _, _, _, .nil => .nil
  | _, _, 0, .cons _ r => .cons q r
  | _, _, n + 1, .cons h r => .cons h (RpA.set q n r)
theorem RpA.reverse {K : Fg} {F : Hp} : ∀ {v : List V} {d : List D}, RpA K F v d → RpA K F v.reverse d.reverse
  | _, _, .nil => .nil
  | _, _, .cons h r => by rw [List.reverse_cons, List.reverse_cons]; exact RpA.append (RpA.reverse r) (.cons h .nil)
theorem RpA.ints {K : Fg} {F : Hp} : ∀ (ns : List Int), RpA K F (ns.map V.int) (ns.map PyData.int)
  | [] => .nil
  | n :: r => .cons (.int n) (RpA.ints r)
theorem RpA.ints_of {K : Fg} {F : Hp} : ∀ {vs : List V} {ns : List Int}, RpA K F vs (ns.map PyData.int) → vs = ns.map V.int
  | _, [], h => by cases h; rfl
  | _, n :: r, h => by
    cases h with
    | cons h t =>
      cases h
      rw [RpA.ints_of t]; rfl
theorem RpA.bools_of {K : Fg} {F : Hp} : ∀ {vs : List V} {ns : List Bool}, RpA K F vs (ns.map PyData.bool) → vs = ns.map V.bl
  | _, [], h => by cases h; rfl
  | _, n :: r, h => by
    cases h with
    | cons h t =>
      cases h
      rw [RpA.bools_of t]; rfl
theorem RpA.cut {K : Fg} {F : Hp} {v : List V} {d : List D} (h : RpA K F v d) (lo hi : Option Int) : RpA K F (cutV v lo hi) ((d.drop (HT.sIx d.length 0 lo)).take (HT.sIx d.length d.length hi - HT.sIx d.length 0 lo)) := by
  unfold cutV
  rw [h.length]
  exact (h.drop _).take _
theorem RpA.flat {K : Fg} {F : Hp} {v : List V} {d : List D} (h : RpA K F v d) : ∀ n : Nat, RpA K F (List.replicate n v).flatten (List.replicate n d).flatten
  | 0 => .nil
  | n + 1 => by
    rw [List.replicate_succ, List.replicate_succ, List.flatten_cons, List.flatten_cons]
    exact h.append (RpA.flat h n)

/-! ### names: nothing known, data, or owned things -/
inductive Ct where
  | l (ds : List D)
  | k (es : List (Key × D))
inductive Sl where
  | no
  | d (x : D)
  | o (pin : Bool) (c : Ct)
abbrev En := List Sl
def CtOk (K : Fg) (F : Hp) : HO → Ct → Prop
  | .lst xs, .l ds => RpA K F xs ds
  | .dK kvs, .k es => kvs.map (·.1) = es.map (·.1) ∧ RpA K F (kvs.map (·.2)) (es.map (·.2))
  | _, _ => False
theorem CtOk.le {K : Fg} {F F' : Hp} (e : Le F F') : ∀ {h : HO} {c : Ct}, CtOk K F h c → CtOk K F' h c := fun {h c} q => by
  cases h <;> cases c <;> first
    | exact RpA.le e q
    | exact ⟨q.1, RpA.le e q.2⟩
    | exact False.elim q
def SlOk (K : Fg) (pin : Nat → Addr → Prop) (B F H : Hp) (i : Nat) (ov : Option V) : Sl → Prop
  | .no => True
  | .d x => ∃ v, ov = some v ∧ Rp K F v x
  | .o b c => ∃ a h, ov = some (.ref a) ∧ (b = true → pin i a) ∧ F a = none ∧ B a = none ∧ H a = some h ∧ CtOk K F h c
/-- slot i owns what stands at a -/
def Own (σ : L2.St) (ρ : En) (i : Nat) (a : Addr) : Prop := (∃ b c, ρ[i]? = some (.o b c)) ∧ σ[i]? = some (some (.ref a))
/-- what stood in B stands yet; a dict that is known as frozen may have been locked -/
def Kp (B F H : Hp) : Prop := ∀ a u, B a = some u → H a = some u ∨ (F a ≠ none ∧ ∃ od kvs, u = .dK kvs ∧ H a = some (.frz od (.dK kvs)))
theorem Kp.of_le {B F H : Hp} (h : Le B H) : Kp B F H := fun a u e => .inl (h a u e)
theorem Kp.bnone {B F H : Hp} (k : Kp B F H) {p : Addr} (hp : H p = none) : B p = none := by
  cases q : B p with
  | none => rfl
  | some u => rcases k p u q with h | ⟨_, _, _, _, h⟩ <;> (rw [hp] at h; cases h)
theorem Kp.poke {B F H : Hp} (k : Kp B F H) {p : Addr} {o : HO} (b : B p = none) : Kp B F (upd H p o) := fun a u e => by
  have n : a ≠ p := fun z => by rw [z, b] at e; cases e
  rw [upd_ne n]; exact k a u e
theorem Kp.mono {B F F' H : Hp} (k : Kp B F H) (l : ∀ a, F a ≠ none → F' a ≠ none) : Kp B F' H := fun a u e => (k a u e).imp id fun ⟨h, z⟩ => ⟨l a h, z⟩
theorem Le.ne {F F' : Hp} (l : Le F F') : ∀ a, F a ≠ none → F' a ≠ none := fun a h => by
  cases q : F a with
  | none => exact absurd q h
  | some u => rw [l a u q]; simp
theorem upd_nn {F : Hp} {p : Addr} {o : HO} : ∀ a, F a ≠ none → upd F p o a ≠ none := fun a h => by
  by_cases z : a = p
  · subst z; rw [upd_same]; simp
  · rw [upd_ne z]; exact h
theorem Kp.trans {B F H B2 F' H' : Hp} (k : Kp B F H) (k2 : Kp B2 F' H') (hB : ∀ a u, B a ≠ none → H a = some u → B2 a = some u) (l : Le F F') : Kp B F' H' := fun a u e => by
  have nb : B a ≠ none := by rw [e]; simp
  rcases k a u e with h | ⟨h, od, kvs, rfl, h2⟩
  · exact k2 a u (hB a u nb h)
  · rcases k2 a _ (hB a _ nb h2) with z | ⟨_, _, _, z, _⟩
    · exact .inr ⟨l.ne a h, od, kvs, rfl, z⟩
    · cases z
structure RE (K : Fg) (pin : Nat → Addr → Prop) (B F0 F H : Hp) (σ : L2.St) (ρ : En) : Prop where
  len : ρ.length = σ.length
  keep : Kp B F H
  sub : Sub F H
  new : ∀ a, F a ≠ none → F0 a ≠ none ∨ B a = none
  sl : ∀ i s, ρ[i]? = some s → ∃ ov, σ[i]? = some ov ∧ SlOk K pin B F H i ov s
  ap : ∀ i j a, Own σ ρ i a → Own σ ρ j a → i = j

section
variable {K : Fg} {pin : Nat → Addr → Prop} {B F0 F F' H H' : Hp} {σ : L2.St} {ρ : En}
theorem rd_some {F : Hp} {a : Addr} (h : F a ≠ none) : ∃ u, Rd F a u := by
  cases q : F a with
  | none => exact absurd q h
  | some u => exact ⟨u, .inl q⟩
theorem rd_ne {H : Hp} {a : Addr} {u : HO} (h : Rd H a u) : H a ≠ none := by
  rcases h with h | ⟨o, h⟩ <;> rw [h] <;> simp
theorem Sub.none {F H : Hp} (s : Sub F H) {a : Addr} (h : H a = none) : F a = none := by
  cases q : F a with
  | none => rfl
  | some u => exact absurd h (rd_ne (s a u (.inl q)))
theorem RE.own (r : RE K pin B F0 F H σ ρ) {i : Nat} {a : Addr} (h : Own σ ρ i a) : F a = none ∧ B a = none ∧ ∃ o b c, H a = some o ∧ ρ[i]? = some (.o b c) ∧ CtOk K F o c ∧ (b = true → pin i a) := by
  obtain ⟨⟨b, c, e⟩, es⟩ := h
  obtain ⟨ov, e1, a', o, e2, hp, h1, h2, h3, h4⟩ := r.sl i _ e
  rw [es] at e1; cases e1; cases e2
  exact ⟨h1, h2, o, b, c, h3, e, h4, hp⟩
/-- a fresh object is laid and known -/
theorem RE.alloc (r : RE K pin B F0 F H σ ρ) {p : Addr} {o : HO} (hp : H p = none) : RE K pin B F0 (upd F p o) (upd H p o) σ ρ where
  len := r.len
  keep := (r.keep.poke (r.keep.bnone hp)).mono upd_nn
  sub := fun a u e => by
    by_cases h : a = p
    · subst h
      rcases e with e | ⟨x, e⟩
      · rw [upd_same] at e; exact .inl (by rw [upd_same]; exact e)
      · rw [upd_same] at e; exact .inr ⟨x, by rw [upd_same]; exact e⟩
    · have e' : Rd F a u := by
        rcases e with e | ⟨x, e⟩
        · rw [upd_ne h] at e; exact .inl e
        · rw [upd_ne h] at e; exact .inr ⟨x, e⟩
      rcases r.sub a u e' with q | ⟨x, q⟩
      · exact .inl (by rw [upd_ne h]; exact q)
      · exact .inr ⟨x, by rw [upd_ne h]; exact q⟩
  new := fun a e => by
    by_cases h : a = p
    · subst h
      exact .inr (r.keep.bnone hp)
    · rw [upd_ne h] at e; exact r.new a e
  sl := fun i s e => by
    obtain ⟨ov, e1, h⟩ := r.sl i s e
    have fn := r.sub.none hp
    have le : Le F (upd F p o) := fun a u q => by rw [upd_ne (ne_of_none q fn)]; exact q
    refine ⟨ov, e1, ?_⟩
    cases s with
    | no => trivial
    | d x => obtain ⟨v, e2, h2⟩ := h; exact ⟨v, e2, h2.le le⟩
    | o b c =>
      obtain ⟨a, ho, e2, hp', h1, h2, h3, h4⟩ := h
      have na : a ≠ p := ne_of_none h3 hp
      exact ⟨a, ho, e2, hp', by rw [upd_ne na]; exact h1, h2, by rw [upd_ne na]; exact h3, h4.le le⟩
  ap := r.ap
/-- a fresh object is laid, not known as frozen -/
theorem RE.lay (r : RE K pin B F0 F H σ ρ) {p : Addr} {o : HO} (hp : H p = none) : RE K pin B F0 F (upd H p o) σ ρ where
  len := r.len
  keep := r.keep.poke (r.keep.bnone hp)
  sub := fun a u e => by
    have h : a ≠ p := fun z => absurd hp (z ▸ rd_ne (r.sub a u e))
    rcases r.sub a u e with q | ⟨x, q⟩
    · exact .inl (by rw [upd_ne h]; exact q)
    · exact .inr ⟨x, by rw [upd_ne h]; exact q⟩
  new := r.new
  sl := fun i s e => by
    obtain ⟨ov, e1, h⟩ := r.sl i s e
    refine ⟨ov, e1, ?_⟩
    cases s with
    | no => trivial
    | d x => exact h
    | o b c =>
      obtain ⟨a, ho, e2, hp', h1, h2, h3, h4⟩ := h
      have na : a ≠ p := ne_of_none h3 hp
      exact ⟨a, ho, e2, hp', h1, h2, by rw [upd_ne na]; exact h3, h4⟩
  ap := r.ap
theorem RE.bnone (r : RE K pin B F0 F H σ ρ) {p : Addr} (hp : H p = none) : B p = none := r.keep.bnone hp
theorem RE.fnone (r : RE K pin B F0 F H σ ρ) {p : Addr} (hp : H p = none) : F p = none := r.sub.none hp
theorem le_upd {F : Hp} {p : Addr} {o : HO} (fn : F p = none) : Le F (upd F p o) := fun a u q => by rw [upd_ne (ne_of_none q fn)]; exact q
/-- a loose object (of ours, not owned, not frozen) at p -/
structure Loose (B F H : Hp) (σ : L2.St) (ρ : En) (p : Addr) (o : HO) : Prop where
  f : F p = none
  b : B p = none
  h : H p = some o
  ap : ∀ i, ¬ Own σ ρ i p
/-- it becomes frozen -/
theorem RE.freeze (r : RE K pin B F0 F H σ ρ) {p : Addr} {o : HO} (l : Loose B F H σ ρ p o) : RE K pin B F0 (upd F p o) H σ ρ where
  len := r.len
  keep := r.keep.mono upd_nn
  sub := fun a u e => by
    by_cases h : a = p
    · subst h
      rcases e with e | ⟨x, e⟩
      · rw [upd_same] at e; exact .inl (by rw [l.h]; exact e)
      · rw [upd_same] at e; exact .inr ⟨x, by rw [l.h]; exact e⟩
    · refine r.sub a u ?_
      rcases e with e | ⟨x, e⟩
      · rw [upd_ne h] at e; exact .inl e
      · rw [upd_ne h] at e; exact .inr ⟨x, e⟩
  new := fun a e => by
    by_cases h : a = p
    · subst h; exact .inr l.b
    · rw [upd_ne h] at e; exact r.new a e
  sl := fun i s e => by
    obtain ⟨ov, e1, h⟩ := r.sl i s e
    have le : Le F (upd F p o) := le_upd l.f
    refine ⟨ov, e1, ?_⟩
    cases s with
    | no => trivial
    | d x => obtain ⟨v, e2, h2⟩ := h; exact ⟨v, e2, h2.le le⟩
    | o b c =>
      obtain ⟨a, ho, e2, hp', h1, h2, h3, h4⟩ := h
      have na : a ≠ p := fun z => l.ap i ⟨⟨b, c, e⟩, by rw [e1, e2, z]⟩
      exact ⟨a, ho, e2, hp', by rw [upd_ne na]; exact h1, h2, h3, h4.le le⟩
  ap := r.ap
/-- a slot takes data -/
theorem RE.setD (r : RE K pin B F0 F H σ ρ) {i : Nat} {v : V} {d : D} (h : Rp K F v d) : RE K pin B F0 F H (σ.set i (some v)) (ρ.set i (.d d)) where
  len := by rw [List.length_set, List.length_set, r.len]
  keep := r.keep
  sub := r.sub
  new := r.new
  sl := fun j s e => by
    by_cases hj : j = i
    · subst hj
      have lt : j < ρ.length := by
        have := (List.getElem?_eq_some_iff.mp e).1
        rwa [List.length_set] at this
      rw [List.getElem?_set_self lt] at e; cases e
      exact ⟨some v, List.getElem?_set_self (by rw [← r.len]; exact lt), v, rfl, h⟩
    · rw [List.getElem?_set_ne (Ne.symm hj)] at e
      obtain ⟨ov, e1, q⟩ := r.sl j s e
      exact ⟨ov, by rw [List.getElem?_set_ne (Ne.symm hj)]; exact e1, q⟩
  ap := fun j k a h1 h2 => by
    have aux : ∀ j, Own (σ.set i (some v)) (ρ.set i (.d d)) j a → Own σ ρ j a := fun j ⟨⟨b, c, e⟩, e2⟩ => by
      by_cases hj : j = i
      · subst hj
        have lt : j < ρ.length := by
          have := (List.getElem?_eq_some_iff.mp e).1
          rwa [List.length_set] at this
        rw [List.getElem?_set_self lt] at e; cases e
      · rw [List.getElem?_set_ne (Ne.symm hj)] at e e2
        exact ⟨⟨b, c, e⟩, e2⟩
    exact r.ap j k a (aux j h1) (aux k h2)
/-- a slot owns a loose object -/
theorem RE.setO (r : RE K pin B F0 F H σ ρ) {i : Nat} {p : Addr} {o : HO} {c : Ct} (l : Loose B F H σ ρ p o) (h : CtOk K F o c) : RE K pin B F0 F H (σ.set i (some (.ref p))) (ρ.set i (.o false c)) where
  len := by rw [List.length_set, List.length_set, r.len]
  keep := r.keep
  sub := r.sub
  new := r.new
  sl := fun j s e => by
    by_cases hj : j = i
    · subst hj
      have lt : j < ρ.length := by
        have := (List.getElem?_eq_some_iff.mp e).1
        rwa [List.length_set] at this
      rw [List.getElem?_set_self lt] at e; cases e
      exact ⟨_, List.getElem?_set_self (by rw [← r.len]; exact lt), p, o, rfl, (fun z => by cases z), l.f, l.b, l.h, h⟩
    · rw [List.getElem?_set_ne (Ne.symm hj)] at e
      obtain ⟨ov, e1, q⟩ := r.sl j s e
      exact ⟨ov, by rw [List.getElem?_set_ne (Ne.symm hj)]; exact e1, q⟩
  ap := fun j k a h1 h2 => by
    have aux : ∀ j, Own (σ.set i (some (.ref p))) (ρ.set i (.o false c)) j a → (j = i ∧ a = p) ∨ (j ≠ i ∧ Own σ ρ j a) := fun j ⟨⟨b, c, e⟩, e2⟩ => by
      by_cases hj : j = i
      · subst hj
        have lt : j < ρ.length := by
          have := (List.getElem?_eq_some_iff.mp e).1
          rwa [List.length_set] at this
        rw [List.getElem?_set_self (by rw [← r.len]; exact lt)] at e2; cases e2
        exact .inl ⟨rfl, rfl⟩
      · rw [List.getElem?_set_ne (Ne.symm hj)] at e e2
        exact .inr ⟨hj, ⟨b, c, e⟩, e2⟩
    rcases aux j h1 with ⟨e1, e2⟩ | ⟨n1, o1⟩ <;> rcases aux k h2 with ⟨e3, e4⟩ | ⟨n2, o2⟩
    · rw [e1, e3]
    · rw [e2] at o2; exact absurd o2 (l.ap k)
    · rw [e4] at o1; exact absurd o1 (l.ap j)
    · exact r.ap j k a o1 o2
/-- what a slot owns changes -/
theorem RE.write (r : RE K pin B F0 F H σ ρ) {i : Nat} {a : Addr} {b : Bool} {c c' : Ct} {o' : HO} (e : ρ[i]? = some (.o b c)) (es : σ[i]? = some (some (.ref a))) (h : CtOk K F o' c') :
    RE K pin B F0 F (upd H a o') σ (ρ.set i (.o b c')) := by
  obtain ⟨fa, ba, o, b', c0, ha, e', hc, hp⟩ := r.own (i := i) (a := a) ⟨⟨b, c, e⟩, es⟩
  rw [e] at e'; cases e'
  have lt : i < ρ.length := (List.getElem?_eq_some_iff.mp e).1
  have aux : ∀ j x, Own σ (ρ.set i (.o b c')) j x → Own σ ρ j x := fun j x ⟨⟨b1, c1, e1⟩, e2⟩ => by
    by_cases hj : j = i
    · subst hj; exact ⟨⟨b, c, e⟩, e2⟩
    · rw [List.getElem?_set_ne (Ne.symm hj)] at e1
      exact ⟨⟨b1, c1, e1⟩, e2⟩
  refine ⟨by rw [List.length_set, r.len], r.keep.poke ba, fun x u q => ?_, r.new, fun j s q => ?_, fun j k x h1 h2 => r.ap j k x (aux j x h1) (aux k x h2)⟩
  · have n : x ≠ a := fun z => absurd fa (z ▸ rd_ne q)
    rcases r.sub x u q with q | ⟨y, q⟩
    · exact .inl (by rw [upd_ne n]; exact q)
    · exact .inr ⟨y, by rw [upd_ne n]; exact q⟩
  · by_cases hj : j = i
    · subst hj
      rw [List.getElem?_set_self lt] at q; cases q
      exact ⟨_, es, a, o', rfl, hp, fa, ba, upd_same, h⟩
    · rw [List.getElem?_set_ne (Ne.symm hj)] at q
      obtain ⟨ov, e1, z⟩ := r.sl j s q
      refine ⟨ov, e1, ?_⟩
      cases s with
      | no => trivial
      | d x => exact z
      | o b2 c2 =>
        obtain ⟨a2, ho, e2, hp', h1, h2, h3, h4⟩ := z
        have na : a2 ≠ a := fun y => hj (r.ap j i a ⟨⟨b2, c2, q⟩, by rw [e1, e2, y]⟩ ⟨⟨b, c, e⟩, es⟩)
        exact ⟨a2, ho, e2, hp', h1, h2, by rw [upd_ne na]; exact h3, h4⟩
/-- a slot is let go -/
theorem RE.forget (r : RE K pin B F0 F H σ ρ) (i : Nat) : RE K pin B F0 F H σ (ρ.set i .no) where
  len := by rw [List.length_set, r.len]
  keep := r.keep
  sub := r.sub
  new := r.new
  sl := fun j s e => by
    by_cases hj : j = i
    · subst hj
      have lt : j < ρ.length := by
        have := (List.getElem?_eq_some_iff.mp e).1
        rwa [List.length_set] at this
      rw [List.getElem?_set_self lt] at e; cases e
      have lt' : j < σ.length := by rw [← r.len]; exact lt
      exact ⟨σ[j], List.getElem?_eq_getElem lt', trivial⟩
    · rw [List.getElem?_set_ne (Ne.symm hj)] at e
      exact r.sl j s e
  ap := fun j k a h1 h2 => by
    have aux : ∀ j, Own σ (ρ.set i .no) j a → Own σ ρ j a := fun j ⟨⟨b, c, e⟩, e2⟩ => by
      by_cases hj : j = i
      · subst hj
        have lt : j < ρ.length := by
          have := (List.getElem?_eq_some_iff.mp e).1
          rwa [List.length_set] at this
        rw [List.getElem?_set_self lt] at e; cases e
      · rw [List.getElem?_set_ne (Ne.symm hj)] at e
        exact ⟨⟨b, c, e⟩, e2⟩
    exact r.ap j k a (aux j h1) (aux k h2)
/-- what a slot owned is loose once it is let go -/
theorem RE.loose (r : RE K pin B F0 F H σ ρ) {i : Nat} {a : Addr} (h : Own σ ρ i a) : ∃ o, Loose B F H σ (ρ.set i .no) a o ∧ ∃ b c, ρ[i]? = some (.o b c) ∧ CtOk K F o c := by
  obtain ⟨fa, ba, o, b, c, ha, e, hc, _⟩ := r.own h
  refine ⟨o, ⟨fa, ba, ha, fun j hj => ?_⟩, b, c, e, hc⟩
  have hji : j ≠ i := fun z => by
    obtain ⟨⟨b1, c1, e1⟩, _⟩ := hj
    subst z
    have lt : j < ρ.length := (List.getElem?_eq_some_iff.mp e).1
    rw [List.getElem?_set_self lt] at e1; cases e1
  obtain ⟨⟨b1, c1, e1⟩, e2⟩ := hj
  rw [List.getElem?_set_ne (Ne.symm hji)] at e1
  exact hji (r.ap j i a ⟨⟨b1, c1, e1⟩, e2⟩ h)
end
end G

namespace G
open PySem PySem.Spec PyProof.Rows L2

def ctD : Ct → D
  | .l ds => .list ds
  | .k es => .dict (es.map fun p => (kD p.1, p.2))
inductive RetV where
  | fz (d : D)
  | fr (c : Ct)
structure VD where
  nx : En → Prop
  rt : RetV → En → Prop
  bk : En → Prop
  ct : En → Prop
inductive AV where
  | e (d : D)
  | io (i : Nat)
abbrev WE := En → (D → En → Prop) → Prop
abbrev WT := En → (Bool → En → Prop) → Prop
abbrev WF := En → (Ct → En → Prop) → Prop
abbrev WL := En → (List D → En → Prop) → Prop
abbrev WA := En → (List AV → En → Prop) → Prop
abbrev WB := D → En → (En → Prop) → Prop
abbrev WS := VD → En → Prop

/-- read at once: frozen, or what stands in H -/
def RpB (K : Fg) (F H : Hp) (v : V) (d : D) : Prop := Rp K F v d ∨ ∃ a o c, v = .ref a ∧ H a = some o ∧ CtOk K F o c ∧ d = ctD c

def VEok (K : Fg) (t : TE) (w : WE) : Prop := ∀ (pin : Nat → Addr → Prop) (B F0 F H : Hp) (σ : L2.St) (ρ : En) (Q : D → En → Prop) (R : VK), RE K pin B F0 F H σ ρ → w ρ Q →
  (∀ v H' F' d ρ', Le F F' → RE K pin B F0 F' H' σ ρ' → Rp K F' v d → Q d ρ' → R v H') → t σ H R
def VBok (K : Fg) (t : TE) (w : WE) : Prop := ∀ (pin : Nat → Addr → Prop) (B F0 F H : Hp) (σ : L2.St) (ρ : En) (Q : D → En → Prop) (R : VK), RE K pin B F0 F H σ ρ → w ρ Q →
  (∀ v H' F' d ρ', Le F F' → RE K pin B F0 F' H' σ ρ' → RpB K F' H' v d → Q d ρ' → R v H') → t σ H R
def VFok (K : Fg) (t : TE) (w : WF) : Prop := ∀ (pin : Nat → Addr → Prop) (B F0 F H : Hp) (σ : L2.St) (ρ : En) (Q : Ct → En → Prop) (R : VK), RE K pin B F0 F H σ ρ → w ρ Q →
  (∀ p o H' F' c ρ', Le F F' → RE K pin B F0 F' H' σ ρ' → Loose B F' H' σ ρ' p o → CtOk K F' o c → Q c ρ' → R (.ref p) H') → t σ H R
def VTok (K : Fg) (t : TT) (w : WT) : Prop := ∀ (pin : Nat → Addr → Prop) (B F0 F H : Hp) (σ : L2.St) (ρ : En) (Q : Bool → En → Prop) (R : Bool → Hp → Prop), RE K pin B F0 F H σ ρ → w ρ Q →
  (∀ b H' F' ρ', Le F F' → RE K pin B F0 F' H' σ ρ' → Q b ρ' → R b H') → t σ H R
def VLok (K : Fg) (t : TA) (w : WL) : Prop := ∀ (pin : Nat → Addr → Prop) (B F0 F H : Hp) (σ : L2.St) (ρ : En) (Q : List D → En → Prop) (R : List V → Hp → Prop), RE K pin B F0 F H σ ρ → w ρ Q →
  (∀ vs H' F' ds ρ', Le F F' → RE K pin B F0 F' H' σ ρ' → RpA K F' vs ds → Q ds ρ' → R vs H') → t σ H R
/-- arguments: data, or a slot that is handed on -/
inductive AOk (K : Fg) (F : Hp) (σ : L2.St) : List V → List AV → Prop
  | nil : AOk K F σ [] []
  | e {v : V} {d : D} {vs : List V} {as : List AV} : Rp K F v d → AOk K F σ vs as → AOk K F σ (v :: vs) (.e d :: as)
  | io {v : V} {i : Nat} {vs : List V} {as : List AV} : σ[i]? = some (some v) → AOk K F σ vs as → AOk K F σ (v :: vs) (.io i :: as)
def VAok (K : Fg) (t : TA) (w : WA) : Prop := ∀ (pin : Nat → Addr → Prop) (B F0 F H : Hp) (σ : L2.St) (ρ : En) (Q : List AV → En → Prop) (R : List V → Hp → Prop), RE K pin B F0 F H σ ρ → w ρ Q →
  (∀ vs H' F' ds ρ', Le F F' → RE K pin B F0 F' H' σ ρ' → AOk K F' σ vs ds → Q ds ρ' → R vs H') → t σ H R
def VGok (K : Fg) (t : TG) (w : WB) (js : List Nat) : Prop := ∀ (pin : Nat → Addr → Prop) (B F0 F H : Hp) (σ : L2.St) (ρ : En) (v : V) (d : D) (Q : En → Prop) (R : L2.St → Hp → Prop), RE K pin B F0 F H σ ρ → Rp K F v d → w d ρ Q →
  (∀ σ' ρ', RE K pin B F0 F H σ' ρ' → (σ'.length = σ.length ∧ ∀ j, j ∉ js → σ'[j]? = σ[j]?) → Q ρ' → R σ' H) → t v σ H R
def RetOk (K : Fg) (B F H : Hp) (σ : L2.St) (ρ : En) (v : V) : RetV → Prop
  | .fz d => Rp K F v d
  | .fr c => ∃ p o, v = .ref p ∧ Loose B F H σ ρ p o ∧ CtOk K F o c
structure EndsOk (K : Fg) (pin : Nat → Addr → Prop) (B F0 F : Hp) (D : VD) (E : Ends) : Prop where
  nx : ∀ σ' H' F' ρ', Le F F' → RE K pin B F0 F' H' σ' ρ' → D.nx ρ' → E.nx σ' H'
  rt : ∀ v r σ' H' F' ρ', Le F F' → RE K pin B F0 F' H' σ' ρ' → RetOk K B F' H' σ' ρ' v r → D.rt r ρ' → E.rt v H'
  bk : ∀ σ' H' F' ρ', Le F F' → RE K pin B F0 F' H' σ' ρ' → D.bk ρ' → E.bk σ' H'
  ct : ∀ σ' H' F' ρ', Le F F' → RE K pin B F0 F' H' σ' ρ' → D.ct ρ' → E.ct σ' H'
def VSok (K : Fg) (t : TS) (w : WS) : Prop := ∀ (pin : Nat → Addr → Prop) (B F0 F H : Hp) (σ : L2.St) (ρ : En) (D : VD) (E : Ends), RE K pin B F0 F H σ ρ → w D ρ → EndsOk K pin B F0 F D E → t E σ H

structure VE (X : Cx) (e : Expr) (t : TE) (w : WE) : Prop where
  p : PE X e t
  ok : VEok X.K t w
structure VB (X : Cx) (e : Expr) (t : TE) (w : WE) : Prop where
  p : PE X e t
  ok : VBok X.K t w
structure VF (X : Cx) (e : Expr) (t : TE) (w : WF) : Prop where
  p : PE X e t
  ok : VFok X.K t w
structure VT (X : Cx) (e : Expr) (t : TT) (w : WT) : Prop where
  p : PT X e t
  ok : VTok X.K t w
structure VW (X : Cx) (e : Expr) (t : TT) (w : WT) : Prop where
  p : PW X e t
  ok : VTok X.K t w
structure VL (X : Cx) (e : List Expr) (t : TA) (w : WL) : Prop where
  p : PA X e t
  ok : VLok X.K t w
structure VA (X : Cx) (e : List Expr) (t : TA) (w : WA) : Prop where
  p : PA X e t
  ok : VAok X.K t w
structure VG (X : Cx) (e : Expr) (t : TG) (w : WB) (js : List Nat) : Prop where
  p : PG X e t
  ok : VGok X.K t w js
structure VGs (X : Cx) (e : List Expr) (t : TGs) (n : Nat) (w : List D → En → (En → Prop) → Prop) (js : List Nat) : Prop where
  p : PGs X e t
  ok : ∀ (pin : Nat → Addr → Prop) (B F0 F H : Hp) (σ : L2.St) (ρ : En) (vs : List V) (ds : List D) (Q : En → Prop) (R : L2.St → Hp → Prop), RE X.K pin B F0 F H σ ρ → RpA X.K F vs ds → w ds ρ Q →
    (∀ σ' ρ', RE X.K pin B F0 F H σ' ρ' → (σ'.length = σ.length ∧ ∀ j, j ∉ js → σ'[j]? = σ[j]?) → Q ρ' → R σ' H) → vs.length = n ∧ t vs σ H R
structure VS (X : Cx) (s : Stmt) (t : TS) (w : WS) : Prop where
  p : PS X s t
  ok : VSok X.K t w
structure VSs (X : Cx) (s : List Stmt) (t : TS) (w : WS) : Prop where
  p : PSs X s t
  ok : VSok X.K t w

section
variable {K : Fg} {pin : Nat → Addr → Prop} {B F0 F F' H H' : Hp} {σ : L2.St} {ρ ρ' : En} {p : Addr} {o : HO}
/-- hide a loose object from what is run -/
theorem RE.hide (r : RE K pin B F0 F H σ ρ) (l : Loose B F H σ ρ p o) : RE K pin (upd B p o) F F H σ ρ where
  len := r.len
  keep := fun a u e => by
    by_cases h : a = p
    · subst h; rw [upd_same] at e; cases e; exact .inl l.h
    · rw [upd_ne h] at e; exact r.keep a u e
  sub := r.sub
  new := fun a e => .inl e
  sl := fun i s e => by
    obtain ⟨ov, e1, h⟩ := r.sl i s e
    refine ⟨ov, e1, ?_⟩
    cases s with
    | no => trivial
    | d x => exact h
    | o b c =>
      obtain ⟨a, ho, e2, hp', h1, h2, h3, h4⟩ := h
      have na : a ≠ p := fun z => l.ap i ⟨⟨b, c, e⟩, by rw [e1, e2, z]⟩
      exact ⟨a, ho, e2, hp', h1, by rw [upd_ne na]; exact h2, h3, h4⟩
  ap := r.ap
theorem RE.show (r0 : RE K pin B F0 F H σ ρ) (l : Loose B F H σ ρ p o) {σ' : L2.St} (r : RE K pin (upd B p o) F F' H' σ' ρ') : RE K pin B F0 F' H' σ' ρ' ∧ Loose B F' H' σ' ρ' p o := by
  have lB : Le B (upd B p o) := fun a u e => by
    have : a ≠ p := fun z => by rw [z, l.b] at e; cases e
    rw [upd_ne this]; exact e
  refine ⟨⟨r.len, fun a u e => r.keep a u (lB a u e), r.sub, fun a e => ?_, fun i s e => ?_, r.ap⟩, ?_, l.b, (r.keep p o upd_same).resolve_right (fun ⟨h, _⟩ => (r.new p h).elim (fun z => absurd l.f z) fun z => by rw [upd_same] at z; cases z), fun i hi => ?_⟩
  · rcases r.new a e with h | h
    · exact r0.new a h
    · by_cases z : a = p
      · subst z; rw [upd_same] at h; cases h
      · rw [upd_ne z] at h; exact .inr h
  · obtain ⟨ov, e1, h⟩ := r.sl i s e
    refine ⟨ov, e1, ?_⟩
    cases s with
    | no => trivial
    | d x => exact h
    | o b c =>
      obtain ⟨a, ho, e2, hp', h1, h2, h3, h4⟩ := h
      have na : a ≠ p := fun z => by rw [z, upd_same] at h2; cases h2
      rw [upd_ne na] at h2
      exact ⟨a, ho, e2, hp', h1, h2, h3, h4⟩
  · cases q : F' p with
    | none => rfl
    | some u =>
      rcases r.new p (by rw [q]; simp) with h | h
      · exact absurd l.f h
      · rw [upd_same] at h; cases h
  · obtain ⟨_, h2, _⟩ := r.own hi
    rw [upd_same] at h2; cases h2
theorem RE.lays (r : RE K pin B F0 F H σ ρ) (hp : H p = none) : Loose B F (upd H p o) σ ρ p o :=
  ⟨r.fnone hp, r.bnone hp, upd_same, fun i hi => by
    obtain ⟨_, _, ob, _, _, h, _⟩ := r.own hi
    rw [hp] at h; cases h⟩
theorem zip_kd {kvs : List (Key × V)} {es : List (Key × D)} (h : kvs.map (·.1) = es.map (·.1)) : (kvs.map fun p => kD p.1).zip (es.map (·.2)) = es.map fun p => (kD p.1, p.2) := by
  have e : (kvs.map fun p => kD p.1) = es.map fun p => kD p.1 := by
    have := congrArg (List.map kD) h
    rw [List.map_map, List.map_map] at this
    exact this
  rw [e]
  clear e h
  induction es with
  | nil => rfl
  | cons x r ih => simpa [List.zip_cons_cons] using ih
theorem CtOk.rp {c : Ct} (h : CtOk K F o c) (e : F p = some o) : Rp K F (.ref p) (ctD c) := by
  cases o <;> cases c <;> first
    | exact False.elim h
    | exact .lst (.inl (.inl e)) h
    | (show Rp K F (.ref p) (.dict (List.map (fun (p : Key × D) => (kD p.1, p.2)) _)); rw [← zip_kd h.1]; exact .dct (.inl e) h.2)
/-- a loose object frozen: its data -/
theorem RE.frz (r : RE K pin B F0 F H σ ρ) (l : Loose B F H σ ρ p o) {c : Ct} (h : CtOk K F o c) : Le F (upd F p o) ∧ RE K pin B F0 (upd F p o) H σ ρ ∧ Rp K (upd F p o) (.ref p) (ctD c) :=
  have le := le_upd l.f
  ⟨le, r.freeze l, (h.le le).rp upd_same⟩
theorem RE.get_d (r : RE K pin B F0 F H σ ρ) {i : Nat} {x : D} (e : ρ[i]? = some (.d x)) : ∃ v, σ[i]? = some (some v) ∧ Rp K F v x := by
  obtain ⟨ov, e1, v, e2, h⟩ := r.sl i _ e
  exact ⟨v, by rw [e1, e2], h⟩
theorem RE.get_o (r : RE K pin B F0 F H σ ρ) {i : Nat} {b : Bool} {c : Ct} (e : ρ[i]? = some (.o b c)) : ∃ a o, σ[i]? = some (some (.ref a)) ∧ H a = some o ∧ CtOk K F o c := by
  obtain ⟨ov, e1, a, o, e2, _, _, _, h, q⟩ := r.sl i _ e
  exact ⟨a, o, by rw [e1, e2], h, q⟩
theorem set_same {α : Type} {l : List α} {i : Nat} {x : α} (h : l[i]? = some x) : l.set i x = l := by
  obtain ⟨h1, h2⟩ := List.getElem?_eq_some_iff.mp h
  subst h2
  exact List.set_getElem_self h1
end

section
variable {X : Cx}
/-! ### names -/
def wName (i : Nat) : WE := fun ρ Q => match ρ[i]? with
  | some (.d x) => Q x ρ
  | some (.o _ c) => Q (ctD c) (ρ.set i (.d (ctD c)))
  | _ => False
def wPeek (i : Nat) : WE := fun ρ Q => match ρ[i]? with
  | some (.d x) => Q x ρ
  | some (.o _ c) => Q (ctD c) ρ
  | _ => False
theorem VEok.name {K : Fg} (i : Nat) : VEok K (tVar i) (wName i) := by
  intro pin B F0 F H σ ρ Q R r hw k
  unfold wName at hw
  split at hw
  · rename_i x e
    obtain ⟨v, e1, h⟩ := r.get_d e
    exact ⟨v, e1, k v H F x ρ (Le.refl F) r h hw⟩
  · rename_i b c e
    obtain ⟨a, o, e1, ha, hc⟩ := r.get_o e
    have hO : Own σ ρ i a := ⟨⟨b, c, e⟩, e1⟩
    obtain ⟨o', l, b', c', e', hc'⟩ := r.loose hO
    rw [e] at e'; cases e'
    obtain ⟨le, r2, rp⟩ := (r.forget i).frz l hc'
    have r3 := r2.setD (i := i) rp
    rw [set_same e1, List.set_set] at r3
    exact ⟨_, e1, k _ H _ _ _ le r3 rp hw⟩
  · exact False.elim hw
theorem VBok.peek {K : Fg} (i : Nat) : VBok K (tVar i) (wPeek i) := by
  intro pin B F0 F H σ ρ Q R r hw k
  unfold wPeek at hw
  split at hw
  · rename_i x e
    obtain ⟨v, e1, h⟩ := r.get_d e
    exact ⟨v, e1, k v H F x ρ (Le.refl F) r (.inl h) hw⟩
  · rename_i b c e
    obtain ⟨a, o, e1, ha, hc⟩ := r.get_o e
    exact ⟨_, e1, k _ H F _ ρ (Le.refl F) r (.inr ⟨a, o, c, rfl, ha, hc, rfl⟩) hw⟩
  · exact False.elim hw
theorem ve_name (i : Nat) {x : Str} {pos : Pos} (h : PE X (.Name x pos) (tVar i)) : VE X (.Name x pos) (tVar i) (wName i) := ⟨h, .name i⟩
theorem vb_name (i : Nat) {x : Str} {pos : Pos} (h : PE X (.Name x pos) (tVar i)) : VB X (.Name x pos) (tVar i) (wPeek i) := ⟨h, .peek i⟩
def wC (d : D) : WE := fun ρ Q => Q d ρ
theorem VEok.c {K : Fg} {v : V} {d : D} (h : ∀ F, Rp K F v d) : VEok K (tC v) (wC d) := fun _ _ _ F H _ ρ _ _ r hw k => k v H F d ρ (Le.refl F) r (h F) hw
theorem ve_int {i : Int} {j pos} : VE X (.Constant (.int i) j pos) (tC (.int i)) (wC (.int i)) := ⟨pe_int, .c fun _ => .int i⟩
theorem ve_bl {i : Bool} {j pos} : VE X (.Constant (.bool i) j pos) (tC (.bl i)) (wC (.bool i)) := ⟨pe_bl, .c fun _ => .bl i⟩
theorem ve_non {j pos} : VE X (.Constant .none j pos) (tC .non) (wC .none) := ⟨pe_non, .c fun _ => .non⟩
theorem ve_str {i : Str} {j pos} : VE X (.Constant (.str i) j pos) (tC (.str i)) (wC (.str i)) := ⟨pe_str, .c fun _ => .str i⟩
theorem ve_glob {x : Str} {v : V} {u : Value} {d : D} {pos : Pos} (hg : Gl X x) (hm : X.mg x = some u) (q : RelV v u) (h : ∀ F, Rp X.K F v d) (hd : (x == ("__debug__" : Str)) = false := by decide) : VE X (.Name x pos) (tC v) (wC d) :=
  ⟨pe_glob hg hm q hd, .c h⟩
/-! ### coercions -/
theorem VEok.vb {K : Fg} {t : TE} {w : WE} (h : VEok K t w) : VBok K t w := fun pin B F0 F H σ ρ Q R r hw k => h pin B F0 F H σ ρ Q R r hw fun v H' F' d ρ' a b c e => k v H' F' d ρ' a b (.inl c) e
theorem VE.vb {e : Expr} {t : TE} {w : WE} (h : VE X e t w) : VB X e t w := ⟨h.p, h.ok.vb⟩
def wFz (w : WF) : WE := fun ρ Q => w ρ fun c ρ' => Q (ctD c) ρ'
theorem VF.ve {e : Expr} {t : TE} {w : WF} (h : VF X e t w) : VE X e t (wFz w) := ⟨h.p, fun pin B F0 F H σ ρ Q R r hw k => h.ok pin B F0 F H σ ρ _ R r hw fun p o H' F' c ρ' le r' l hc q => by
  obtain ⟨le2, r2, rp⟩ := r'.frz l hc
  exact k _ H' _ _ ρ' (le.trans le2) r2 rp q⟩
/-! ### operators -/
def OpOk (K : Fg) (r : R2) (f : D → D → (D → Prop) → Prop) : Prop := ∀ (pin : Nat → Addr → Prop) (B F0 F H : Hp) (σ : L2.St) (ρ : En) (x y : V) (dx dy : D) (Q : D → Prop) (R : VK), RE K pin B F0 F H σ ρ → Rp K F x dx → Rp K F y dy → f dx dy Q →
  (∀ v H' F' d, Le F F' → RE K pin B F0 F' H' σ ρ → Rp K F' v d → Q d → R v H') → r x y H R
def wOp (f : D → D → (D → Prop) → Prop) (wa wb : WE) : WE := fun ρ Q => wa ρ fun x ρ1 => wb ρ1 fun y ρ2 => f x y fun z => Q z ρ2
theorem VEok.op {K : Fg} {r : R2} {f : D → D → (D → Prop) → Prop} {ta tb : TE} {wa wb : WE} (hr : OpOk K r f) (ha : VEok K ta wa) (hb : VEok K tb wb) : VEok K (tOp r ta tb) (wOp f wa wb) := by
  intro pin B F0 F H σ ρ Q R r hw k
  refine ha pin B F0 F H σ ρ _ _ r hw fun x H1 F1 dx ρ1 l1 r1 p1 q1 => ?_
  refine hb pin B F0 F1 H1 σ ρ1 _ _ r1 q1 fun y H2 F2 dy ρ2 l2 r2 p2 q2 => ?_
  refine hr pin B F0 F2 H2 σ ρ2 x y dx dy _ _ r2 (p1.le l2) p2 q2 fun v H3 F3 d l3 r3 p3 q3 => ?_
  exact k v H3 F3 d ρ2 ((l1.trans l2).trans l3) r3 p3 q3
theorem ve_op {op : Operator} {r : R2} {f : D → D → (D → Prop) → Prop} {a b : Expr} {pos : Pos} {ta tb : TE} {wa wb : WE} (ho : OpR X (binaryOp op) r) (hr : OpOk X.K r f) (ha : VE X a ta wa) (hb : VE X b tb wb) : VE X (.BinOp a op b pos) (tOp r ta tb) (wOp f wa wb) :=
  ⟨pe_op ho ha.p hb.p, .op hr ha.ok hb.ok⟩
theorem ve_cmp {op : CmpOp} {r : R2} {f : D → D → (D → Prop) → Prop} {a b : Expr} {pos : Pos} {ta tb : TE} {wa wb : WE} (ho : OpR X (compareOp op) r) (hr : OpOk X.K r f) (ha : VE X a ta wa) (hb : VE X b tb wb) (hm : behindInMarks op b = false) : VE X (.Compare a [op] [b] pos) (tOp r ta tb) (wOp f wa wb) :=
  ⟨pe_cmpR ho ha.p hb.p hm, .op hr ha.ok hb.ok⟩
/-- the right one is read at once -/
def OpOkB (K : Fg) (r : R2) (f : D → D → (D → Prop) → Prop) : Prop := ∀ (pin : Nat → Addr → Prop) (B F0 F H : Hp) (σ : L2.St) (ρ : En) (x y : V) (dx dy : D) (Q : D → Prop) (R : VK), RE K pin B F0 F H σ ρ → Rp K F x dx → RpB K F H y dy → f dx dy Q →
  (∀ v H' F' d, Le F F' → RE K pin B F0 F' H' σ ρ → Rp K F' v d → Q d → R v H') → r x y H R
theorem VEok.opB {K : Fg} {r : R2} {f : D → D → (D → Prop) → Prop} {ta tb : TE} {wa wb : WE} (hr : OpOkB K r f) (ha : VEok K ta wa) (hb : VBok K tb wb) : VEok K (tOp r ta tb) (wOp f wa wb) := by
  intro pin B F0 F H σ ρ Q R r hw k
  refine ha pin B F0 F H σ ρ _ _ r hw fun x H1 F1 dx ρ1 l1 r1 p1 q1 => ?_
  refine hb pin B F0 F1 H1 σ ρ1 _ _ r1 q1 fun y H2 F2 dy ρ2 l2 r2 p2 q2 => ?_
  refine hr pin B F0 F2 H2 σ ρ2 x y dx dy _ _ r2 (p1.le l2) p2 q2 fun v H3 F3 d l3 r3 p3 q3 => ?_
  exact k v H3 F3 d ρ2 ((l1.trans l2).trans l3) r3 p3 q3
theorem ve_cmpB {op : CmpOp} {r : R2} {f : D → D → (D → Prop) → Prop} {a b : Expr} {pos : Pos} {ta tb : TE} {wa wb : WE} (ho : OpR X (compareOp op) r) (hr : OpOkB X.K r f) (ha : VE X a ta wa) (hb : VB X b tb wb) (hm : behindInMarks op b = false) : VE X (.Compare a [op] [b] pos) (tOp r ta tb) (wOp f wa wb) :=
  ⟨pe_cmpR ho ha.p hb.p hm, .opB hr ha.ok hb.ok⟩
/-- two rules for one operator -/
def rOr (r1 r2 : R2) : R2 := fun x y H Q => r1 x y H Q ∨ r2 x y H Q
theorem OpR.or {f : Value → Value → Sem Value} {r1 r2 : R2} (h1 : OpR X f r1) (h2 : OpR X f r2) : OpR X f (rOr r1 r2) := fun pins s σ H x y v u Q I rx ry h => h.elim (h1 pins s σ H x y v u Q I rx ry) (h2 pins s σ H x y v u Q I rx ry)
def fOr (f g : D → D → (D → Prop) → Prop) : D → D → (D → Prop) → Prop := fun x y Q => f x y Q ∨ g x y Q
theorem OpOk.or {K : Fg} {r1 r2 : R2} {f g : D → D → (D → Prop) → Prop} (h1 : OpOk K r1 f) (h2 : OpOk K r2 g) : OpOk K (rOr r1 r2) (fOr f g) := fun pin B F0 F H σ ρ x y dx dy Q R r px py h k =>
  h.elim (fun q => .inl (h1 pin B F0 F H σ ρ x y dx dy Q R r px py q k)) fun q => .inr (h2 pin B F0 F H σ ρ x y dx dy Q R r px py q k)
theorem OpOk.b {K : Fg} {r : R2} {f : D → D → (D → Prop) → Prop} (h : OpOkB K r f) : OpOk K r f := fun pin B F0 F H σ ρ x y dx dy Q R r px py q k => h pin B F0 F H σ ρ x y dx dy Q R r px (.inl py) q k
/-! the operators on ints -/
def fI (C : Int → Int → Prop) (g : Int → Int → D) : D → D → (D → Prop) → Prop := fun x y Q => match x, y with
  | .int i, .int j => C i j ∧ Q (g i j)
  | _, _ => False
/-- a value of no address -/
theorem opok_I {K : Fg} {C : Int → Int → Prop} {g : Int → Int → V} {gd : Int → Int → D} (h : ∀ F i j, Rp K F (g i j) (gd i j)) : OpOk K (rI C g) (fI C gd) := by
  intro pin B F0 F H σ ρ x y dx dy Q R r px py hq k
  cases px <;> cases py <;> first | exact False.elim hq | skip
  exact ⟨_, _, rfl, rfl, hq.1, k _ H F _ (Le.refl F) r (h F _ _) hq.2⟩
def fI0 (g : Int → Int → D) : D → D → (D → Prop) → Prop := fun x y Q => match x, y with
  | .int i, .int j => Q (g i j)
  | _, _ => False
theorem opok_I0 {K : Fg} {g : Int → Int → V} {gd : Int → Int → D} (h : ∀ F i j, Rp K F (g i j) (gd i j)) : OpOk K (rI0 g) (fI0 gd) := by
  intro pin B F0 F H σ ρ x y dx dy Q R r px py hq k
  cases px <;> cases py <;> first | exact False.elim hq | skip
  exact ⟨_, _, rfl, rfl, k _ H F _ (Le.refl F) r (h F _ _) hq⟩
end
end G

namespace G
open PySem PySem.Spec PyProof.Rows L2
section
variable {X : Cx}
/-! ### tests -/
def wBool (w : WE) : WT := fun ρ Q => w ρ fun d ρ' => match d with
  | .bool b => Q b ρ'
  | _ => False
theorem VTok.b {K : Fg} {t : TE} {w : WE} (h : VEok K t w) : VTok K (tB t) (wBool w) := fun pin B F0 F H σ ρ Q R r hw k =>
  h pin B F0 F H σ ρ _ _ r hw fun v H' F' d ρ' le r' p q => by
    cases p <;> first | exact False.elim q | exact ⟨_, rfl, k _ H' F' ρ' le r' q⟩
theorem VTok.test {K : Fg} {t : TE} {w : WE} (h : VEok K t w) : VTok K (tTest t) (wBool w) := fun pin B F0 F H σ ρ Q R r hw k =>
  h pin B F0 F H σ ρ _ _ r hw fun v H' F' d ρ' le r' p q => by
    cases p <;> first | exact False.elim q | exact ⟨_, rfl, k _ H' F' ρ' le r' q⟩
theorem vt_val {e : Expr} {t : TE} {w : WE} (h : VE X e t w) (he : ∀ whole, isTrue e X.env whole = (do let v ← whole; standAt e.pos; holding [v] (truthy v)) := by intro _; rfl) : VT X e (tB t) (wBool w) := ⟨pt_val h.p he, .b h.ok⟩
theorem vt_cmp {op : CmpOp} {r : R2} {f : D → D → (D → Prop) → Prop} {a b : Expr} {pos : Pos} {ta tb : TE} {wa wb : WE} (ho : OpR X (compareOp op) r) (hr : OpOk X.K r f) (ha : VE X a ta wa) (hb : VE X b tb wb) (hm : behindInMarks op b = false) : VT X (.Compare a [op] [b] pos) (tTest (tOp r ta tb)) (wBool (wOp f wa wb)) :=
  ⟨pt_cmpR ho ha.p hb.p hm, .test (.op hr ha.ok hb.ok)⟩
theorem vt_cmpB {op : CmpOp} {r : R2} {f : D → D → (D → Prop) → Prop} {a b : Expr} {pos : Pos} {ta tb : TE} {wa wb : WE} (ho : OpR X (compareOp op) r) (hr : OpOkB X.K r f) (ha : VE X a ta wa) (hb : VB X b tb wb) (hm : behindInMarks op b = false) : VT X (.Compare a [op] [b] pos) (tTest (tOp r ta tb)) (wBool (wOp f wa wb)) :=
  ⟨pt_cmpR ho ha.p hb.p hm, .test (.opB hr ha.ok hb.ok)⟩
/-- a < b <= c -/
def wChain (f g : D → D → (D → Prop) → Prop) (wa wb wc : WE) : WE := fun ρ Q => wa ρ fun x ρ1 => wb ρ1 fun y ρ2 => f x y fun z => match z with
  | .bool true => wc ρ2 fun u ρ3 => g y u fun z' => Q z' ρ3
  | .bool false => Q (.bool false) ρ2
  | _ => False
theorem VEok.chain {K : Fg} {r r' : R2} {f g : D → D → (D → Prop) → Prop} {ta tb tc : TE} {wa wb wc : WE} (hr : OpOk K r f) (hr' : OpOk K r' g) (ha : VEok K ta wa) (hb : VEok K tb wb) (hc : VEok K tc wc) : VEok K (tChain r r' ta tb tc) (wChain f g wa wb wc) := by
  intro pin B F0 F H σ ρ Q R rr hw k
  refine ha pin B F0 F H σ ρ _ _ rr hw fun x H1 F1 dx ρ1 l1 r1 p1 q1 => ?_
  refine hb pin B F0 F1 H1 σ ρ1 _ _ r1 q1 fun y H2 F2 dy ρ2 l2 r2 p2 q2 => ?_
  refine hr pin B F0 F2 H2 σ ρ2 x y dx dy _ _ r2 (p1.le l2) p2 q2 fun v H3 F3 d l3 r3 p3 q3 => ?_
  cases p3 <;> first | exact False.elim q3 | skip
  rename_i b
  refine ⟨b, rfl, ?_⟩
  cases b with
  | false => exact iteF (k _ H3 F3 _ ρ2 ((l1.trans l2).trans l3) r3 (.bl false) q3)
  | true =>
    refine iteT (hc pin B F0 F3 H3 σ ρ2 _ _ r3 q3 fun u H4 F4 du ρ3 l4 r4 p4 q4 => ?_)
    refine hr' pin B F0 F4 H4 σ ρ3 y u dy du _ _ r4 (p2.le (l3.trans l4)) p4 q4 fun v' H5 F5 d' l5 r5 p5 q5 => ?_
    exact k v' H5 F5 d' ρ3 ((((l1.trans l2).trans l3).trans l4).trans l5) r5 p5 q5
theorem ve_chain {op op' : CmpOp} {r r' : R2} {f g : D → D → (D → Prop) → Prop} {a b c : Expr} {pos : Pos} {ta tb tc : TE} {wa wb wc : WE} (ho : OpR X (compareOp op) r) (hr : OpOk X.K r f) (ho' : OpR X (compareOp op') r') (hr' : OpOk X.K r' g)
    (ha : VE X a ta wa) (hb : VE X b tb wb) (hc : VE X c tc wc) (hm : lastMarks [op, op'] [b, c] = false := by with_unfolding_all rfl) : VE X (.Compare a [op, op'] [b, c] pos) (tChain r r' ta tb tc) (wChain f g wa wb wc) :=
  ⟨pe_chain ho ho' ha.p hb.p hc.p hm, .chain hr hr' ha.ok hb.ok hc.ok⟩
theorem vt_chain {op op' : CmpOp} {r r' : R2} {f g : D → D → (D → Prop) → Prop} {a b c : Expr} {pos : Pos} {ta tb tc : TE} {wa wb wc : WE} (ho : OpR X (compareOp op) r) (hr : OpOk X.K r f) (ho' : OpR X (compareOp op') r') (hr' : OpOk X.K r' g)
    (ha : VE X a ta wa) (hb : VE X b tb wb) (hc : VE X c tc wc) (hm : lastMarks [op, op'] [b, c] = false := by with_unfolding_all rfl) : VT X (.Compare a [op, op'] [b, c] pos) (tTest (tChain r r' ta tb tc)) (wBool (wChain f g wa wb wc)) :=
  ⟨pt_chain ho ho' ha.p hb.p hc.p hm, .test (.chain hr hr' ha.ok hb.ok hc.ok)⟩
def wAndT (u v : WT) : WT := fun ρ Q => u ρ fun b ρ' => if b = true then v ρ' Q else Q false ρ'
def wOrT (u v : WT) : WT := fun ρ Q => u ρ fun b ρ' => if b = true then Q true ρ' else v ρ' Q
def wNotT (u : WT) : WT := fun ρ Q => u ρ fun b ρ' => Q (!b) ρ'
theorem ite_both {c : Bool} {A B A' B' : Prop} (h : if c = true then A else B) (a : A → A') (b : B → B') : if c = true then A' else B' := by
  cases c
  · rw [if_neg Bool.false_ne_true] at h ⊢; exact b h
  · rw [if_pos rfl] at h ⊢; exact a h
theorem VTok.and {K : Fg} {t u : TT} {w v : WT} (h1 : VTok K t w) (h2 : VTok K u v) : VTok K (tAnd t u) (wAndT w v) := fun pin B F0 F H σ ρ Q R r hw k =>
  h1 pin B F0 F H σ ρ _ _ r hw fun b H' F' ρ' le r' q => ite_both q (fun q => h2 pin B F0 F' H' σ ρ' _ _ r' q fun b2 H2 F2 ρ2 l2 r2 q2 => k b2 H2 F2 ρ2 (le.trans l2) r2 q2) fun q => k false H' F' ρ' le r' q
theorem VTok.or {K : Fg} {t u : TT} {w v : WT} (h1 : VTok K t w) (h2 : VTok K u v) : VTok K (tOr t u) (wOrT w v) := fun pin B F0 F H σ ρ Q R r hw k =>
  h1 pin B F0 F H σ ρ _ _ r hw fun b H' F' ρ' le r' q => ite_both q (fun q => k true H' F' ρ' le r' q) fun q => h2 pin B F0 F' H' σ ρ' _ _ r' q fun b2 H2 F2 ρ2 l2 r2 q2 => k b2 H2 F2 ρ2 (le.trans l2) r2 q2
theorem VTok.not {K : Fg} {t : TT} {w : WT} (h1 : VTok K t w) : VTok K (tNot t) (wNotT w) := fun pin B F0 F H σ ρ Q R r hw k =>
  h1 pin B F0 F H σ ρ _ _ r hw fun b H' F' ρ' le r' q => k _ H' F' ρ' le r' q
theorem VW.vt {e : Expr} {t : TT} {w : WT} (h : VW X e t w) : VT X e t w := ⟨h.p.pt, h.ok⟩
variable {a b c : Expr} {rest : List Expr} {pos : Pos} {ta tb te : TE} {wa wb we : WE} {t u : TT} {w v : WT}
theorem vw_and1 (h : VT X a t w) : VW X (.BoolOp .And [a] pos) t w := ⟨pw_and1 h.p, h.ok⟩
theorem vw_or1 (h : VT X a t w) : VW X (.BoolOp .Or [a] pos) t w := ⟨pw_or1 h.p, h.ok⟩
theorem vw_and (h : VT X a t w) (h2 : VW X (.BoolOp .And (b :: rest) pos) u v) : VW X (.BoolOp .And (a :: b :: rest) pos) (tAnd t u) (wAndT w v) := ⟨pw_and h.p h2.p, .and h.ok h2.ok⟩
theorem vw_or (h : VT X a t w) (h2 : VW X (.BoolOp .Or (b :: rest) pos) u v) : VW X (.BoolOp .Or (a :: b :: rest) pos) (tOr t u) (wOrT w v) := ⟨pw_or h.p h2.p, .or h.ok h2.ok⟩
theorem vt_not (h : VT X a t w) : VT X (.UnaryOp .Not a pos) (tNot t) (wNotT w) := ⟨pt_not h.p, .not h.ok⟩
/-! and, or, not as values (all but the last are truths) -/
def wAndV (wa wb : WE) : WE := fun ρ Q => wa ρ fun d ρ' => match d with
  | .bool true => wb ρ' Q
  | .bool false => Q (.bool false) ρ'
  | _ => False
def wOrV (wa wb : WE) : WE := fun ρ Q => wa ρ fun d ρ' => match d with
  | .bool true => Q (.bool true) ρ'
  | .bool false => wb ρ' Q
  | _ => False
def wNotV (wa : WE) : WE := fun ρ Q => wa ρ fun d ρ' => match d with
  | .bool b => Q (.bool (!b)) ρ'
  | _ => False
theorem VEok.andV {K : Fg} (h1 : VEok K ta wa) (h2 : VEok K tb wb) : VEok K (tAndV ta tb) (wAndV wa wb) := fun pin B F0 F H σ ρ Q R r hw k =>
  h1 pin B F0 F H σ ρ _ _ r hw fun v H' F' d ρ' le r' p q => by
    cases p <;> first | exact False.elim q | skip
    rename_i b
    refine ⟨b, rfl, ?_⟩
    cases b with
    | false => exact iteF (k _ H' F' _ ρ' le r' (.bl false) q)
    | true => exact iteT (h2 pin B F0 F' H' σ ρ' _ _ r' q fun v2 H2 F2 d2 ρ2 l2 r2 p2 q2 => k v2 H2 F2 d2 ρ2 (le.trans l2) r2 p2 q2)
theorem VEok.orV {K : Fg} (h1 : VEok K ta wa) (h2 : VEok K tb wb) : VEok K (tOrV ta tb) (wOrV wa wb) := fun pin B F0 F H σ ρ Q R r hw k =>
  h1 pin B F0 F H σ ρ _ _ r hw fun v H' F' d ρ' le r' p q => by
    cases p <;> first | exact False.elim q | skip
    rename_i b
    refine ⟨b, rfl, ?_⟩
    cases b with
    | true => exact iteT (k _ H' F' _ ρ' le r' (.bl true) q)
    | false => exact iteF (h2 pin B F0 F' H' σ ρ' _ _ r' q fun v2 H2 F2 d2 ρ2 l2 r2 p2 q2 => k v2 H2 F2 d2 ρ2 (le.trans l2) r2 p2 q2)
theorem VEok.notV {K : Fg} (h1 : VEok K ta wa) : VEok K (tNotV ta) (wNotV wa) := fun pin B F0 F H σ ρ Q R r hw k =>
  h1 pin B F0 F H σ ρ _ _ r hw fun v H' F' d ρ' le r' p q => by
    cases p <;> first | exact False.elim q | exact ⟨_, rfl, k _ H' F' _ ρ' le r' (.bl _) q⟩
theorem ve_one {op} (h : VE X a ta wa) : VE X (.BoolOp op [a] pos) ta wa := ⟨pe_one h.p, h.ok⟩
theorem ve_and (h1 : VE X a ta wa) (h2 : VE X (.BoolOp .And (b :: rest) pos) tb wb) : VE X (.BoolOp .And (a :: b :: rest) pos) (tAndV ta tb) (wAndV wa wb) := ⟨pe_and h1.p h2.p, .andV h1.ok h2.ok⟩
theorem ve_or (h1 : VE X a ta wa) (h2 : VE X (.BoolOp .Or (b :: rest) pos) tb wb) : VE X (.BoolOp .Or (a :: b :: rest) pos) (tOrV ta tb) (wOrV wa wb) := ⟨pe_or h1.p h2.p, .orV h1.ok h2.ok⟩
theorem ve_not (h1 : VE X a ta wa) : VE X (.UnaryOp .Not a pos) (tNotV ta) (wNotV wa) := ⟨pe_not h1.p, .notV h1.ok⟩
def wIf (w : WT) (wa wb : WE) : WE := fun ρ Q => w ρ fun b ρ' => if b = true then wa ρ' Q else wb ρ' Q
theorem VEok.ifE {K : Fg} (h : VTok K t w) (h1 : VEok K ta wa) (h2 : VEok K tb wb) : VEok K (tIf t ta tb) (wIf w wa wb) := fun pin B F0 F H σ ρ Q R r hw k =>
  h pin B F0 F H σ ρ _ _ r hw fun b H' F' ρ' le r' q => ite_both q (fun q => h1 pin B F0 F' H' σ ρ' _ _ r' q fun v2 H2 F2 d2 ρ2 l2 r2 p2 q2 => k v2 H2 F2 d2 ρ2 (le.trans l2) r2 p2 q2)
    fun q => h2 pin B F0 F' H' σ ρ' _ _ r' q fun v2 H2 F2 d2 ρ2 l2 r2 p2 q2 => k v2 H2 F2 d2 ρ2 (le.trans l2) r2 p2 q2
theorem ve_if (h : VT X c t w) (h1 : VE X a ta wa) (h2 : VE X b tb wb) : VE X (.IfExp c a b pos) (tIf t ta tb) (wIf w wa wb) := ⟨pe_ifExp h.p h1.p h2.p, .ifE h.ok h1.ok h2.ok⟩
/-! ### argument lists, displays -/
def wNil : WL := fun ρ Q => Q [] ρ
def wCons (we : WE) (wl : WL) : WL := fun ρ Q => we ρ fun d ρ1 => wl ρ1 fun ds ρ2 => Q (d :: ds) ρ2
theorem VLok.nil {K : Fg} : VLok K tNil wNil := fun pin B F0 F H σ ρ Q R r hw k => k [] H F [] ρ (Le.refl F) r .nil hw
theorem VLok.cons {K : Fg} {t : TA} {wl : WL} (h1 : VEok K te we) (h2 : VLok K t wl) : VLok K (tCons te t) (wCons we wl) := fun pin B F0 F H σ ρ Q R r hw k =>
  h1 pin B F0 F H σ ρ _ _ r hw fun v H' F' d ρ' le r' p q => h2 pin B F0 F' H' σ ρ' _ _ r' q fun vs H2 F2 ds ρ2 l2 r2 p2 q2 => k _ H2 F2 _ ρ2 (le.trans l2) r2 (.cons (p.le l2) p2) q2
theorem vl_nil : VL X [] tNil wNil := ⟨pa_nil, .nil⟩
theorem vl_cons {e : Expr} {es : List Expr} {t : TA} {wl : WL} (h1 : VE X e te we) (h2 : VL X es t wl) (hs : starEach (e :: es) X.env = (false, eval e X.env) :: starEach es X.env := by rfl) : VL X (e :: es) (tCons te t) (wCons we wl) := ⟨pa_cons h1.p h2.p hs, .cons h1.ok h2.ok⟩
def wTup (wl : WL) : WE := fun ρ Q => wl ρ fun ds ρ' => ds.length ≤ sizeLine ∧ Q (.tuple ds) ρ'
theorem VEok.tup {K : Fg} {t : TA} {wl : WL} (h : VLok K t wl) : VEok K (tTup t) (wTup wl) := fun pin B F0 F H σ ρ Q R r hw k =>
  h pin B F0 F H σ ρ _ _ r hw fun vs H' F' ds ρ' le r' p q => ⟨by rw [p.length]; exact q.1, fun a ha => by
    have fn := r'.fnone ha
    have le2 : Le F' (upd F' a (.tup vs)) := le_upd fn
    exact k _ _ _ _ ρ' (le.trans le2) (r'.alloc ha) (.tup (.inl (.inl upd_same)) (p.le le2)) q.2⟩
theorem ve_tup {es : List Expr} {x1} {t : TA} {wl : WL} (h : VL X es t wl) : VE X (.Tuple es x1 pos) (tTup t) (wTup wl) := ⟨pe_tup h.p, .tup h.ok⟩
def wLst (wl : WL) : WF := fun ρ Q => wl ρ fun ds ρ' => ds.length ≤ sizeLine ∧ Q (.l ds) ρ'
theorem VFok.lst {K : Fg} {t : TA} {wl : WL} (h : VLok K t wl) : VFok K (tLst t) (wLst wl) := fun pin B F0 F H σ ρ Q R r hw k =>
  h pin B F0 F H σ ρ _ _ r hw fun vs H' F' ds ρ' le r' p q => ⟨by rw [p.length]; exact q.1, fun a ha => k a (.lst vs) _ F' (.l ds) ρ' le (r'.lay ha) (r'.lays ha) p q.2⟩
theorem vf_lst {es : List Expr} {t : TA} {wl : WL} (h : VL X es t wl) : VF X (.List es pos) (tLst t) (wLst wl) := ⟨pe_lst h.p, .lst h.ok⟩
def wDNew : WF := fun ρ Q => Q (.k []) ρ
theorem vf_dnew {x1} : VF X (.Dict [] [] x1) tDNewK wDNew := ⟨pe_dnewK, fun pin B F0 F H σ ρ Q R r hw k a ha => k a (.dK []) _ F (.k []) ρ (Le.refl F) (r.lay ha) (r.lays ha) ⟨rfl, .nil⟩ hw⟩
/-! ### reading -/
theorem RpB.lst {K : Fg} {F H : Hp} {v : V} {ds : List D} (h : RpB K F H v (.list ds)) (s : Sub F H) : ∃ a xs, v = .ref a ∧ SqL K H a xs ∧ RpA K F xs ds := by
  rcases h with h | ⟨a, o, c, rfl, ha, hc, e⟩
  · cases h with
    | lst h r => exact ⟨_, _, rfl, s.sqL h, r⟩
  · cases c with
    | k es => cases e
    | l ds' =>
      cases e
      cases o <;> first | exact False.elim hc | exact ⟨a, _, rfl, .inl (.inl ha), hc⟩
theorem RpB.tup {K : Fg} {F H : Hp} {v : V} {ds : List D} (h : RpB K F H v (.tuple ds)) (s : Sub F H) : ∃ a xs, v = .ref a ∧ SqT K H a xs ∧ RpA K F xs ds := by
  rcases h with h | ⟨a, o, c, rfl, ha, hc, e⟩
  · cases h with
    | tup h r => exact ⟨_, _, rfl, s.sqT h, r⟩
  · cases c <;> cases e
theorem zip_keys {K : Fg} {F : Hp} : ∀ {kvs : List (Key × V)} {es : List D}, RpA K F (kvs.map (·.2)) es → ∃ ls : List (Key × D), kvs.map (·.1) = ls.map (·.1) ∧ es = ls.map (·.2)
  | [], es, h => by cases h; exact ⟨[], rfl, rfl⟩
  | kv :: r, es, h => by
    cases h with
    | cons h t =>
      rename_i d ds
      obtain ⟨ls, e1, e2⟩ := zip_keys t
      exact ⟨(kv.1, d) :: ls, by simp [e1], by simp [e2]⟩
theorem RpB.dct {K : Fg} {F H : Hp} {v : V} {ds : List (D × D)} (h : RpB K F H v (.dict ds)) (s : Sub F H) : ∃ (a : Addr) (kvs : List (Key × V)) (es : List (Key × D)), v = .ref a ∧ Rd H a (.dK kvs) ∧ kvs.map (·.1) = es.map (·.1) ∧ RpA K F (kvs.map (·.2)) (es.map (·.2)) ∧ ds = es.map fun (p : Key × D) => (kD p.1, p.2) := by
  rcases h with h | ⟨a, o, c, rfl, ha, hc, e⟩
  · generalize e : PyData.dict ds = d at h
    cases h <;> cases e
    rename_i a kvs es h r
    obtain ⟨ls, e1, e2⟩ := zip_keys r
    subst e2
    exact ⟨a, kvs, ls, rfl, s _ _ h, e1, r, zip_kd e1⟩
  · cases c with
    | l es => cases e
    | k ds' =>
      cases e
      cases o <;> first | exact False.elim hc | exact ⟨a, _, ds', rfl, .inl ha, hc.1, hc.2, rfl⟩
theorem RpB.scal {K : Fg} {F H : Hp} {v : V} {d : D} (h : RpB K F H v d) (hd : ∀ c, d ≠ ctD c) : Rp K F v d := by
  rcases h with h | ⟨a, o, c, rfl, ha, hc, e⟩
  · exact h
  · exact absurd e (hd c)
end
end G

namespace G
open PySem PySem.Spec PyProof.Rows L2
section
variable {X : Cx} {a b c e : Expr} {rest es : List Expr} {pos apos cpos : Pos} {ta tb te : TE} {wa wb we : WE} {t u : TT} {w v : WT}
/-! ### the left operand stands in a slot and is read when the operation is done -/
def OpOkL (K : Fg) (r : R2) (f : D → D → (D → Prop) → Prop) : Prop := ∀ (pin : Nat → Addr → Prop) (B F0 F H : Hp) (σ : L2.St) (ρ : En) (x y : V) (dx dy : D) (Q : D → Prop) (R : VK), RE K pin B F0 F H σ ρ → RpB K F H x dx → Rp K F y dy → f dx dy Q →
  (∀ v H' F' d, Le F F' → RE K pin B F0 F' H' σ ρ → Rp K F' v d → Q d → R v H') → r x y H R
def wAt (i : Nat) (f : D → D → (D → Prop) → Prop) (wb : WE) : WE := fun ρ Q => wPeek i ρ fun _ _ => wb ρ fun y ρ2 => wPeek i ρ2 fun x ρ3 => f x y fun z => Q z ρ3
theorem peek_rp {K : Fg} {pin : Nat → Addr → Prop} {B F0 F H : Hp} {σ : L2.St} {ρ : En} {i : Nat} {Q : D → En → Prop} (r : RE K pin B F0 F H σ ρ) (h : wPeek i ρ Q) : ∃ v d, σ[i]? = some (some v) ∧ RpB K F H v d ∧ Q d ρ := by
  unfold wPeek at h
  split at h
  · rename_i x e
    obtain ⟨v, e1, q⟩ := r.get_d e
    exact ⟨v, x, e1, .inl q, h⟩
  · rename_i b c e
    obtain ⟨a, o, e1, ha, hc⟩ := r.get_o e
    exact ⟨_, _, e1, .inr ⟨a, o, c, rfl, ha, hc, rfl⟩, h⟩
  · exact False.elim h
theorem VEok.at {K : Fg} {r : R2} {f : D → D → (D → Prop) → Prop} {i : Nat} (hr : OpOkL K r f) (hb : VEok K tb wb) : VEok K (tOp r (tVar i) tb) (wAt i f wb) := by
  intro pin B F0 F H σ ρ Q R rr hw k
  obtain ⟨v, d, ev, _, hw2⟩ := peek_rp rr hw
  refine ⟨v, ev, hb pin B F0 F H σ ρ _ _ rr hw2 fun y H2 F2 dy ρ2 l2 r2 p2 q2 => ?_⟩
  obtain ⟨v', d', ev', pb, q3⟩ := peek_rp r2 q2
  rw [ev] at ev'; cases ev'
  exact hr pin B F0 F2 H2 σ ρ2 v y d' dy _ _ r2 pb p2 q3 fun v H3 F3 d l3 r3 p3 q3 => k v H3 F3 d ρ2 (l2.trans l3) r3 p3 q3
/-! ### subscripts -/
def dKey : D → Option Key
  | .int i => some (.inl i)
  | .str x => some (.inr x)
  | _ => none
theorem rp_key {K : Fg} {F : Hp} {v : V} {d : D} {k : Key} (h : Rp K F v d) (e : dKey d = some k) : v = kV k := by
  cases h <;> cases e <;> rfl
theorem dKey_kD (k : Key) : dKey (kD k) = some k := by cases k <;> rfl
/-- what a dict's data hold at a key -/
def lookD (kvs : List (D × D)) (k : Key) : Option D := (kvs.find? fun p => decide (dKey p.1 = some k)).map (·.2)
def fIx : D → D → (D → Prop) → Prop := fun x y Q => match x, y with
  | .list ds, .int i => ∃ d, atI ds i = some d ∧ Q d
  | .tuple ds, .int i => ∃ d, atI ds i = some d ∧ Q d
  | .str z, .int i => z.length ≤ sizeLine ∧ ∃ c, atI z.cps.toList i = some c ∧ Q (.str ⟨#[c]⟩)
  | .dict kvs, y => ∃ k d, dKey y = some k ∧ lookD kvs k = some d ∧ Q d
  | _, _ => False
theorem atI_rp {K : Fg} {F : Hp} {xs : List V} {ds : List D} {i : Int} {d : D} (r : RpA K F xs ds) (h : atI ds i = some d) : ∃ v, atI xs i = some v ∧ Rp K F v d := by
  unfold atI at h ⊢
  rw [r.length]
  cases q : ixN ds.length i with
  | none => rw [q] at h; cases h
  | some j =>
    rw [q] at h
    obtain ⟨v, e, p⟩ := r.get (i := j) h
    exact ⟨v, e, p⟩
theorem look_rp {K : Fg} {F : Hp} {k : Key} : ∀ {kvs : List (Key × V)} {es : List (Key × D)}, kvs.map (·.1) = es.map (·.1) → RpA K F (kvs.map (·.2)) (es.map (·.2)) →
    (lookD (es.map fun (p : Key × D) => (kD p.1, p.2)) k = none ∧ valV kvs k = none) ∨ ∃ v d, lookD (es.map fun (p : Key × D) => (kD p.1, p.2)) k = some d ∧ valV kvs k = some v ∧ Rp K F v d
  | [], [], _, _ => .inl ⟨rfl, rfl⟩
  | [], _ :: _, h, _ => by simp at h
  | _ :: _, [], h, _ => by simp at h
  | kv :: r, e :: s, h, q => by
    cases q with
    | cons p t =>
      have h1 : kv.1 = e.1 := by simp at h; exact h.1
      have h2 : r.map (·.1) = s.map (·.1) := by simp at h; exact h.2
      have ih := look_rp (k := k) h2 t
      unfold lookD valV at ih ⊢
      rw [List.map_cons, List.find?_cons, List.find?_cons]
      by_cases z : e.1 = k
      · refine .inr ⟨kv.2, e.2, ?_, ?_, p⟩
        · rw [decide_eq_true (show dKey (kD e.1) = some k by rw [dKey_kD, z])]; rfl
        · rw [decide_eq_true (show kv.1 = k by rw [h1, z])]; rfl
      · have z1 : decide (dKey (kD e.1) = some k) = false := decide_eq_false (by rw [dKey_kD]; exact fun y => z (Option.some.inj y))
        have z2 : decide (kv.1 = k) = false := decide_eq_false (by rw [h1]; exact z)
        dsimp only
        rw [z1, z2]
        exact ih
def rDGet (w : World) : R2 := fun x y H Q => ∃ a v, x = .ref a ∧ DGet H a y (some v) ∧ Q v H
theorem ix_dict (hu : X.A.units + 1 < cLine) : IxR X (rDGet X.w) := by
  intro value slice pins s σ H x y v u Q I rx ry h hs
  obtain ⟨p, z, rfl, g, q⟩ := h
  cases rx
  exact tail_any (dict_typeIs I g) PySem.F.slot_dict_getitem.lookup (d_getItem hu I g ry fun w' s' I' rw' => ⟨z, H, I', rw', q⟩) hs
def rIxA (K : Fg) (w : World) : R2 := fun x y H Q => rIx K x y H Q ∨ rDGet w x y H Q
theorem ix_any (hu : X.A.units + 1 < cLine) : IxR X (rIxA X.K X.w) := ix_seq.or (ix_dict hu)
theorem opok_ix {K : Fg} {w : World} : OpOkL K (rIxA K w) fIx := by
  intro pin B F0 F H σ ρ x y dx dy Q R r px py hq k
  cases dx with
  | list ds =>
    cases py <;> first | exact False.elim hq | skip
    obtain ⟨a, xs, rfl, hs, ra⟩ := px.lst r.sub
    obtain ⟨d, e, q⟩ := hq
    obtain ⟨v, e2, p⟩ := atI_rp ra e
    exact .inl (.inl ⟨a, xs, _, v, rfl, rfl, hs, e2, k v H F d (Le.refl F) r p q⟩)
  | tuple ds =>
    cases py <;> first | exact False.elim hq | skip
    obtain ⟨a, xs, rfl, hs, ra⟩ := px.tup r.sub
    obtain ⟨d, e, q⟩ := hq
    obtain ⟨v, e2, p⟩ := atI_rp ra e
    exact .inl (.inr (.inl ⟨a, xs, _, v, rfl, rfl, hs, e2, k v H F d (Le.refl F) r p q⟩))
  | str z =>
    cases py <;> first | exact False.elim hq | skip
    have px' := px.scal (by intro c; cases c <;> exact fun z => nomatch z)
    cases px'
    obtain ⟨hz, c, e, q⟩ := hq
    exact .inl (.inr (.inr ⟨z, _, c, rfl, rfl, hz, e, k _ H F _ (Le.refl F) r (.str _) q⟩))
  | dict kvs =>
    obtain ⟨a, vs, es, rfl, hr, e1, ra, rfl⟩ := px.dct r.sub
    obtain ⟨kk, d, ek, el, q⟩ := (show ∃ kk d, dKey dy = some kk ∧ lookD _ kk = some d ∧ Q d by cases dy <;> exact hq)
    rcases look_rp (k := kk) e1 ra with ⟨z, _⟩ | ⟨v, d', z1, z2, p⟩
    · rw [el] at z; cases z
    · rw [el] at z1; cases z1
      exact .inr ⟨a, v, rfl, .inl ⟨vs, kk, hr, rp_key py ek, z2.symm⟩, k v H F _ (Le.refl F) r p q⟩
  | none => cases py <;> exact False.elim hq
  | bool _ => cases py <;> exact False.elim hq
  | int _ => cases py <;> exact False.elim hq
theorem OpOk.l {K : Fg} {r : R2} {f : D → D → (D → Prop) → Prop} (h : OpOkL K r f) : OpOk K r f := fun pin B F0 F H σ ρ x y dx dy Q R r px py q k => h pin B F0 F H σ ρ x y dx dy Q R r (.inl px) py q k
theorem ve_ix (hu : X.A.units + 1 < cLine) (ha : VE X a ta wa) (hb : VE X b tb wb) (hs : PlainIx b) : VE X (.Subscript a b pos) (tOp (rIxA X.K X.w) ta tb) (wOp fIx wa wb) := ⟨pe_ix (ix_any hu) ha.p hb.p hs, .op (.l opok_ix) ha.ok hb.ok⟩
theorem ve_ixN (hu : X.A.units + 1 < cLine) (i : Nat) {x : Str} {p : Pos} (h : PE X (.Name x p) (tVar i)) (hb : VE X b tb wb) (hs : PlainIx b) : VE X (.Subscript (.Name x p) b pos) (tOp (rIxA X.K X.w) (tVar i) tb) (wAt i fIx wb) := ⟨pe_ix (ix_any hu) h hb.p hs, .at opok_ix hb.ok⟩
/-! ### slices -/
abbrev WO := En → (Option Int → En → Prop) → Prop
def VOok (K : Fg) (t : TO) (w : WO) : Prop := ∀ (pin : Nat → Addr → Prop) (B F0 F H : Hp) (σ : L2.St) (ρ : En) (Q : Option Int → En → Prop) (R : Option Int → Hp → Prop), RE K pin B F0 F H σ ρ → w ρ Q →
  (∀ b H' F' ρ', Le F F' → RE K pin B F0 F' H' σ ρ' → Q b ρ' → R b H') → t σ H R
structure VO (X : Cx) (e : Option Expr) (t : TO) (w : WO) : Prop where
  p : PO X e t
  ok : VOok X.K t w
def wNoPart : WO := fun ρ Q => Q none ρ
def wPart (we : WE) : WO := fun ρ Q => we ρ fun d ρ' => match d with
  | .int i => Q (some i) ρ'
  | _ => False
theorem vo_none : VO X none tNoPart wNoPart := ⟨po_none, fun pin B F0 F H σ ρ Q R r hw k => k none H F ρ (Le.refl F) r hw⟩
theorem vo_some (h : VE X e te we) : VO X (some e) (tPart te) (wPart we) := ⟨po_some h.p, fun pin B F0 F H σ ρ Q R r hw k => h.ok pin B F0 F H σ ρ _ _ r hw fun v H' F' d ρ' le r' p q => by
  cases p <;> first | exact False.elim q | exact ⟨_, rfl, k _ H' F' ρ' le r' q⟩⟩
def cutD (ds : List D) (lo hi : Option Int) : List D := (ds.drop (HT.sIx ds.length 0 lo)).take (HT.sIx ds.length ds.length hi - HT.sIx ds.length 0 lo)
/-- a tuple's or a text's slice -/
def wSlT (we : WE) (wl wh : WO) : WE := fun ρ Q => we ρ fun d ρ1 => wl ρ1 fun lo ρ2 => wh ρ2 fun hi ρ3 => match d with
  | .tuple ds => Q (.tuple (cutD ds lo hi)) ρ3
  | .str z => z.length ≤ sizeLine ∧ Q (.str (cutS z lo hi)) ρ3
  | _ => False
def rSlTS (K : Fg) : V → Option Int → Option Int → Hp → VK → Prop := fun x lo hi H Q => rSlA K x lo hi H Q ∨ rSlS x lo hi H Q
theorem sl_ts : SlR X (rSlTS X.K) := fun pins s σ H x v vl vu lo hi sl Q I rx hs pl pu h => h.elim (sl_tupA pins s σ H x v vl vu lo hi sl Q I rx hs pl pu) (sl_str pins s σ H x v vl vu lo hi sl Q I rx hs pl pu)
theorem sIx_whole {ds : List D} {lo hi : Option Int} (h : HT.sIx ds.length 0 lo = 0 ∧ HT.sIx ds.length ds.length hi = ds.length) : cutD ds lo hi = ds := by
  unfold cutD
  rw [h.1, h.2, List.drop_zero, Nat.sub_zero, List.take_length]
theorem ve_slT {lo hi : Option Expr} {p2 : Pos} {tl th : TO} {wl wh : WO} (h : VE X e te we) (h1 : VO X lo tl wl) (h2 : VO X hi th wh) : VE X (.Subscript e (.Slice lo hi none p2) pos) (tSl (rSlTS X.K) te tl th) (wSlT we wl wh) :=
  ⟨pe_slice sl_ts h.p h1.p h2.p, fun pin B F0 F H σ ρ Q R r hw k => h.ok pin B F0 F H σ ρ _ _ r hw fun v H1 F1 d ρ1 l1 r1 p1 q1 => h1.ok pin B F0 F1 H1 σ ρ1 _ _ r1 q1 fun lo H2 F2 ρ2 l2 r2 q2 => h2.ok pin B F0 F2 H2 σ ρ2 _ _ r2 q2 fun hi H3 F3 ρ3 l3 r3 q3 => by
    have pp := p1.le (l2.trans l3)
    have ll := (l1.trans l2).trans l3
    cases d <;> first | exact False.elim q3 | skip
    · rename_i z
      cases pp
      exact .inr ⟨z, rfl, q3.1, k _ H3 F3 _ ρ3 ll r3 (.str _) q3.2⟩
    · rename_i ds
      cases pp with
      | tup hs ra =>
        rename_i a xs
        refine .inl ⟨a, xs, rfl, r3.sub.sqT hs, fun hw => ?_, fun hn p hp => ?_⟩
        · rw [ra.length] at hw
          have e := sIx_whole hw
          have q4 : Q (.tuple (cutD ds lo hi)) ρ3 := q3
          rw [e] at q4
          exact k _ H3 F3 _ ρ3 ll r3 (.tup hs ra) q4
        · have le2 : Le F3 (upd F3 p (.tup (cutV xs lo hi))) := le_upd (r3.fnone hp)
          exact k _ _ _ _ ρ3 (ll.trans le2) (r3.alloc hp) (.tup (.inl (.inl upd_same)) ((ra.cut lo hi).le le2)) q3⟩
/-- a list's slice is a new list -/
def wSlL (we : WE) (wl wh : WO) : WF := fun ρ Q => we ρ fun d ρ1 => wl ρ1 fun lo ρ2 => wh ρ2 fun hi ρ3 => match d with
  | .list ds => Q (.l (cutD ds lo hi)) ρ3
  | _ => False
theorem vf_slL {lo hi : Option Expr} {p2 : Pos} {tl th : TO} {wl wh : WO} (h : VE X e te we) (h1 : VO X lo tl wl) (h2 : VO X hi th wh) : VF X (.Subscript e (.Slice lo hi none p2) pos) (tSl (rSlL X.K) te tl th) (wSlL we wl wh) :=
  ⟨pe_slice sl_list h.p h1.p h2.p, fun pin B F0 F H σ ρ Q R r hw k => h.ok pin B F0 F H σ ρ _ _ r hw fun v H1 F1 d ρ1 l1 r1 p1 q1 => h1.ok pin B F0 F1 H1 σ ρ1 _ _ r1 q1 fun lo H2 F2 ρ2 l2 r2 q2 => h2.ok pin B F0 F2 H2 σ ρ2 _ _ r2 q2 fun hi H3 F3 ρ3 l3 r3 q3 => by
    have pp := p1.le (l2.trans l3)
    have ll := (l1.trans l2).trans l3
    cases d <;> first | exact False.elim q3 | skip
    rename_i ds
    cases pp with
    | lst hs ra =>
      rename_i a xs
      exact ⟨a, xs, rfl, r3.sub.sqL hs, fun p hp => k p _ _ F3 (.l (cutD ds lo hi)) ρ3 ll (r3.lay hp) (r3.lays hp) (ra.cut lo hi) q3⟩⟩
/-! ### equality -/
mutual
theorem Rp.dp {K : Fg} {F H : Hp} (s : Sub F H) : ∀ {v : V} {d : D}, Rp K F v d → d.canLay0 = true → Dp K H v d
  | _, _, .non, _ => .non
  | _, _, .bl b, _ => .bl b
  | _, _, .int b, _ => .int b
  | _, _, .str b, _ => .str b
  | _, _, .lst h r, e => .lst (s.sqL h) (RpA.dp s r (by simpa [PyData.canLay0] using e))
  | _, _, .tup h r, e => .tup (s.sqT h) (RpA.dp s r (by simpa [PyData.canLay0] using e))
  | _, _, .dct h r, e => by simp [PyData.canLay0] at e
theorem RpA.dp {K : Fg} {F H : Hp} (s : Sub F H) : ∀ {v : List V} {d : List D}, RpA K F v d → PyData.canLayAll0 d = true → DpAll K H v d
  | _, _, .nil, _ => .nil
  | _, _, .cons h r, e => .cons (Rp.dp s h (by simp [PyData.canLayAll0] at e; exact e.1)) (RpA.dp s r (by simp [PyData.canLayAll0] at e; exact e.2))
end
def scalD : D → D → Bool
  | .none, .none => true | .none, .int _ => true | .int _, .none => true | .none, .bool _ => true | .bool _, .none => true | .none, .str _ => true | .str _, .none => true
  | .int _, .int _ => true | .bool _, .bool _ => true | .str _, .str _ => true | .int _, .str _ => true | .str _, .int _ => true | .bool _, .str _ => true | .str _, .bool _ => true
  | _, _ => false
def fEq : D → D → (D → Prop) → Prop := fun x y Q => (scalD x y = true ∨ (SeqAt.shaped x = true ∧ SeqAt.shaped y = true)) ∧ Q (.bool (PyData.eqv x y))
def fNe : D → D → (D → Prop) → Prop := fun x y Q => (scalD x y = true ∨ (SeqAt.shaped x = true ∧ SeqAt.shaped y = true)) ∧ Q (.bool (!PyData.eqv x y))
theorem scal_eq {K : Fg} {F : Hp} {x y : V} {dx dy : D} (px : Rp K F x dx) (py : Rp K F y dy) (h : scalD dx dy = true) : scal x y = true ∧ decide (x = y) = PyData.eqv dx dy := by
  cases px <;> cases py <;> first | (exact Bool.noConfusion h) | (refine ⟨rfl, ?_⟩; first | (simp [PyData.eqv]; done) | (simp only [PyData.eqv, V.bl.injEq, V.int.injEq, V.str.injEq]; rename_i i j; by_cases z : i = j <;> simp [z]))
theorem opok_eq {K : Fg} : OpOk K (rOr rEq (rEqD K)) fEq := by
  intro pin B F0 F H σ ρ x y dx dy Q R r px py hq k
  rcases hq with ⟨h | ⟨h1, h2⟩, q⟩
  · obtain ⟨a, b⟩ := scal_eq px py h
    exact .inl ⟨a, by rw [b]; exact k _ H F _ (Le.refl F) r (.bl _) q⟩
  · exact .inr ⟨dx, dy, px.dp r.sub (SeqAt.canLay_of_shaped h1), py.dp r.sub (SeqAt.canLay_of_shaped h2), h1, h2, k _ H F _ (Le.refl F) r (.bl _) q⟩
theorem opok_ne {K : Fg} : OpOk K (rOr rNe (rNeD K)) fNe := by
  intro pin B F0 F H σ ρ x y dx dy Q R r px py hq k
  rcases hq with ⟨h | ⟨h1, h2⟩, q⟩
  · obtain ⟨a, b⟩ := scal_eq px py h
    exact .inl ⟨a, by rw [b]; exact k _ H F _ (Le.refl F) r (.bl _) q⟩
  · exact .inr ⟨dx, dy, px.dp r.sub (SeqAt.canLay_of_shaped h1), py.dp r.sub (SeqAt.canLay_of_shaped h2), h1, h2, k _ H F _ (Le.refl F) r (.bl _) q⟩
theorem op_eqA (hu : X.A.units + 64 < cLine) : OpR X (compareOp .Eq) (rOr rEq (rEqD X.K)) := OpR.or op_eq (op_eqD hu)
theorem op_neA (hu : X.A.units + 64 < cLine) : OpR X (compareOp .NotEq) (rOr rNe (rNeD X.K)) := OpR.or op_ne (op_neD hu)
/-! ### is -/
def rIsN : R2 := fun x y H Q => y = .non ∧ Q (.bl (decide (x = .non))) H
def rNotN : R2 := fun x y H Q => y = .non ∧ Q (.bl (!decide (x = .non))) H
def rIsB : R2 := fun x y H Q => ∃ a b, x = .bl a ∧ y = .bl b ∧ Q (.bl (decide (a = b))) H
def isNone : D → Bool
  | .none => true
  | _ => false
def fIsN : D → D → (D → Prop) → Prop := fun x y Q => match x, y with
  | x, .none => Q (.bool (isNone x))
  | .bool a, .bool b => Q (.bool (a == b))
  | _, _ => False
theorem none_rp {K : Fg} {F : Hp} {x : V} {dx : D} (px : Rp K F x dx) : decide (x = .non) = isNone dx := by cases px <;> rfl
theorem opok_is {K : Fg} : OpOk K (rOr rIsN rIsB) fIsN := by
  intro pin B F0 F H σ ρ x y dx dy Q R r px py hq k
  cases py with
  | non =>
    refine .inl ⟨rfl, ?_⟩
    rw [none_rp px]
    exact k _ H F _ (Le.refl F) r (.bl _) (by cases dx <;> exact hq)
  | bl b =>
    cases px <;> first | exact False.elim hq | skip
    rename_i a
    refine .inr ⟨a, b, rfl, rfl, ?_⟩
    refine k _ H F (.bool (a == b)) (Le.refl F) r ?_ hq
    cases a <;> cases b <;> exact .bl _
  | int _ => cases px <;> exact False.elim hq
  | str _ => cases px <;> exact False.elim hq
  | lst _ _ => cases px <;> exact False.elim hq
  | tup _ _ => cases px <;> exact False.elim hq
  | dct _ _ => cases px <;> exact False.elim hq
theorem op_isA : OpR X (compareOp .Is) (rOr rIsN rIsB) := OpR.or op_isN op_is_bl
end
end G

namespace G
open PySem PySem.Spec PyProof.Rows L2
section
variable {X : Cx} {a b c e : Expr} {rest es : List Expr} {pos apos cpos p : Pos} {ta tb te : TE} {wa wb we : WE} {t u : TT} {w v : WT} {x : Str} {id T : String}
abbrev RC := List V → Hp → VK → Prop
theorem CallR.or {f : Value} {r1 r2 : RC} (h1 : CallR X f r1) (h2 : CallR X f r2) : CallR X f (fun xs H Q => r1 xs H Q ∨ r2 xs H Q) := fun pins s σ H xs us Q I r h => h.elim (h1 pins s σ H xs us Q I r) (h2 pins s σ H xs us Q I r)
/-! ### calls of one argument that is read at once -/
def C1 (K : Fg) (r : RC) (f : D → (D → Prop) → Prop) : Prop := ∀ (pin : Nat → Addr → Prop) (B F0 F H : Hp) (σ : L2.St) (ρ : En) (x : V) (d : D) (Q : D → Prop) (R : VK), RE K pin B F0 F H σ ρ → RpB K F H x d → f d Q →
  (∀ v H' F' d', Le F F' → RE K pin B F0 F' H' σ ρ → Rp K F' v d' → Q d' → R v H') → r [x] H R
def C1F (K : Fg) (r : RC) (f : D → (Ct → Prop) → Prop) : Prop := ∀ (pin : Nat → Addr → Prop) (B F0 F H : Hp) (σ : L2.St) (ρ : En) (x : V) (d : D) (Q : Ct → Prop) (R : VK), RE K pin B F0 F H σ ρ → RpB K F H x d → f d Q →
  (∀ p o H' F' c, Le F F' → RE K pin B F0 F' H' σ ρ → Loose B F' H' σ ρ p o → CtOk K F' o c → Q c → R (.ref p) H') → r [x] H R
def wC1 (f : D → (D → Prop) → Prop) (we : WE) : WE := fun ρ Q => we ρ fun d ρ1 => f d fun z => Q z ρ1
def wC1F (f : D → (Ct → Prop) → Prop) (we : WE) : WF := fun ρ Q => we ρ fun d ρ1 => f d fun z => Q z ρ1
theorem VEok.c1 {K : Fg} {r : RC} {f : D → (D → Prop) → Prop} (hr : C1 K r f) (h : VBok K te we) : VEok K (tCB r (tCons te tNil)) (wC1 f we) := fun pin B F0 F H σ ρ Q R rr hw k =>
  h pin B F0 F H σ ρ _ _ rr hw fun v H' F' d ρ' le r' p q => hr pin B F0 F' H' σ ρ' v d _ _ r' p q fun v2 H2 F2 d2 l2 r2 p2 q2 => k v2 H2 F2 d2 ρ' (le.trans l2) r2 p2 q2
theorem VFok.c1 {K : Fg} {r : RC} {f : D → (Ct → Prop) → Prop} (hr : C1F K r f) (h : VBok K te we) : VFok K (tCB r (tCons te tNil)) (wC1F f we) := fun pin B F0 F H σ ρ Q R rr hw k =>
  h pin B F0 F H σ ρ _ _ rr hw fun v H' F' d ρ' le r' p q => hr pin B F0 F' H' σ ρ' v d _ _ r' p q fun v2 o2 H2 F2 d2 l2 r2 lo2 p2 q2 => k v2 o2 H2 F2 d2 ρ' (le.trans l2) r2 lo2 p2 q2
theorem ve_b1 {r : RC} {f : D → (D → Prop) → Prop} (hc : CallR X (.builtin id) r) (hr : C1 X.K r f) (hg : Gl X x) (hm : X.mg x = none) (hv : bootBuiltins x = some (.builtin id)) (h : VB X e te we) (hn : x ≠ "__name__" := by decide) (hdb : (x == ("__debug__" : Str)) = false := by decide)
    (hs : starEach [e] X.env = [(false, eval e X.env)] := by rfl) : VE X (.Call (.Name x p) [e] [] pos) (tCB r (tCons te tNil)) (wC1 f we) := ⟨pe_callB hc hg hm hv (pa_cons h.p pa_nil hs) hn hdb hs rfl, .c1 hr h.ok⟩
theorem ve_t1 {r : RC} {f : D → (D → Prop) → Prop} (hc : CallR X (.type T) r) (hr : C1 X.K r f) (hg : Gl X x) (hm : X.mg x = none) (hv : bootBuiltins x = some (.type T)) (h : VB X e te we) (hn : x ≠ "__name__" := by decide) (hdb : (x == ("__debug__" : Str)) = false := by decide)
    (hs : starEach [e] X.env = [(false, eval e X.env)] := by rfl) : VE X (.Call (.Name x p) [e] [] pos) (tCB r (tCons te tNil)) (wC1 f we) := ⟨pe_callTy hc hg hm hv (pa_cons h.p pa_nil hs) hn hdb hs rfl, .c1 hr h.ok⟩
theorem vf_b1 {r : RC} {f : D → (Ct → Prop) → Prop} (hc : CallR X (.builtin id) r) (hr : C1F X.K r f) (hg : Gl X x) (hm : X.mg x = none) (hv : bootBuiltins x = some (.builtin id)) (h : VB X e te we) (hn : x ≠ "__name__" := by decide) (hdb : (x == ("__debug__" : Str)) = false := by decide)
    (hs : starEach [e] X.env = [(false, eval e X.env)] := by rfl) : VF X (.Call (.Name x p) [e] [] pos) (tCB r (tCons te tNil)) (wC1F f we) := ⟨pe_callB hc hg hm hv (pa_cons h.p pa_nil hs) hn hdb hs rfl, .c1 hr h.ok⟩
theorem vf_t1 {r : RC} {f : D → (Ct → Prop) → Prop} (hc : CallR X (.type T) r) (hr : C1F X.K r f) (hg : Gl X x) (hm : X.mg x = none) (hv : bootBuiltins x = some (.type T)) (h : VB X e te we) (hn : x ≠ "__name__" := by decide) (hdb : (x == ("__debug__" : Str)) = false := by decide)
    (hs : starEach [e] X.env = [(false, eval e X.env)] := by rfl) : VF X (.Call (.Name x p) [e] [] pos) (tCB r (tCons te tNil)) (wC1F f we) := ⟨pe_callTy hc hg hm hv (pa_cons h.p pa_nil hs) hn hdb hs rfl, .c1 hr h.ok⟩
/-! len -/
def rLenA (K : Fg) : RC := fun xs H Q => (∃ x n, xs = [x] ∧ LenV K x H n ∧ Q (.int n) H) ∨ ∃ a kvs, xs = [.ref a] ∧ H a = some (.dK kvs) ∧ Q (.int kvs.length) H
def fLen : D → (D → Prop) → Prop := fun d Q => match d with
  | .list ds => Q (.int ds.length)
  | .tuple ds => Q (.int ds.length)
  | .str z => z.length ≤ sizeLine ∧ Q (.int z.length)
  | _ => False
theorem c1_len {K : Fg} : C1 K (fun xs H Q => ∃ x n, xs = [x] ∧ LenV K x H n ∧ Q (.int n) H) fLen := by
  intro pin B F0 F H σ ρ x d Q R r px hq k
  cases d <;> first | exact False.elim hq | skip
  · rename_i z
    have px' := px.scal (by intro c; cases c <;> exact fun z => nomatch z)
    cases px'
    exact ⟨_, z.length, rfl, ⟨hq.1, rfl⟩, k _ H F _ (Le.refl F) r (.int _) hq.2⟩
  · rename_i ds
    obtain ⟨a, xs, rfl, hs, ra⟩ := px.lst r.sub
    exact ⟨_, xs.length, rfl, .inl ⟨xs, hs, rfl⟩, by rw [ra.length]; exact k _ H F _ (Le.refl F) r (.int _) hq⟩
  · rename_i ds
    obtain ⟨a, xs, rfl, hs, ra⟩ := px.tup r.sub
    exact ⟨_, xs.length, rfl, .inr ⟨xs, hs, rfl⟩, by rw [ra.length]; exact k _ H F _ (Le.refl F) r (.int _) hq⟩
/-! tuple(..), list(..) -/
def fTup : D → (D → Prop) → Prop := fun d Q => match d with
  | .list ds => Q (.tuple ds)
  | .tuple ds => Q (.tuple ds)
  | _ => False
theorem c1_tuple {K : Fg} : C1 K (fun xs H Q => ∃ p ys, xs = [.ref p] ∧ ((SqL K H p ys ∧ ∀ l, H l = none → Q (.ref l) (upd H l (.tup ys))) ∨ (SqT K H p ys ∧ Q (.ref p) H))) fTup := by
  intro pin B F0 F H σ ρ x d Q R r px hq k
  cases d <;> first | exact False.elim hq | skip
  · rename_i ds
    obtain ⟨a, xs, rfl, hs, ra⟩ := px.lst r.sub
    refine ⟨a, xs, rfl, .inl ⟨hs, fun l hl => ?_⟩⟩
    have le2 : Le F (upd F l (.tup xs)) := le_upd (r.fnone hl)
    exact k _ _ _ _ le2 (r.alloc hl) (.tup (.inl (.inl upd_same)) (ra.le le2)) hq
  · rename_i ds
    have px' := px.scal (by intro c; cases c <;> exact fun z => nomatch z)
    cases px' with
    | tup hs ra =>
      exact ⟨_, _, rfl, .inr ⟨r.sub.sqT hs, k _ H F _ (Le.refl F) r (.tup hs ra) hq⟩⟩
def fList : D → (Ct → Prop) → Prop := fun d Q => match d with
  | .list ds => Q (.l ds)
  | .tuple ds => Q (.l ds)
  | _ => False
theorem c1_list {K : Fg} : C1F K (fun xs H Q => ∃ p ys, xs = [.ref p] ∧ (SqL K H p ys ∨ SqT K H p ys) ∧ ∀ l, H l = none → Q (.ref l) (upd H l (.lst ys))) fList := by
  intro pin B F0 F H σ ρ x d Q R r px hq k
  cases d <;> first | exact False.elim hq | skip
  · rename_i ds
    obtain ⟨a, xs, rfl, hs, ra⟩ := px.lst r.sub
    exact ⟨a, xs, rfl, .inl hs, fun l hl => k l _ _ F (.l ds) (Le.refl F) (r.lay hl) (r.lays hl) ra hq⟩
  · rename_i ds
    obtain ⟨a, xs, rfl, hs, ra⟩ := px.tup r.sub
    exact ⟨a, xs, rfl, .inr hs, fun l hl => k l _ _ F (.l ds) (Le.refl F) (r.lay hl) (r.lays hl) ra hq⟩
/-! all, any, sum -/
def fAll : D → (D → Prop) → Prop := fun d Q => ∃ bs : List Bool, d = .list (bs.map .bool) ∧ Q (.bool (bs.all fun b => b))
def fAny : D → (D → Prop) → Prop := fun d Q => ∃ bs : List Bool, d = .list (bs.map .bool) ∧ Q (.bool (bs.any fun b => b))
def fSum : D → (D → Prop) → Prop := fun d Q => ∃ ns : List Int, d = .list (ns.map .int) ∧ Q (.int ns.sum)
theorem c1_all {K : Fg} : C1 K (rAll K) fAll := by
  intro pin B F0 F H σ ρ x d Q R r px hq k
  obtain ⟨bs, rfl, q⟩ := hq
  obtain ⟨a, xs, rfl, hs, ra⟩ := px.lst r.sub
  rw [ra.bools_of] at hs
  exact ⟨a, bs, rfl, hs, k _ H F _ (Le.refl F) r (.bl _) q⟩
theorem c1_any {K : Fg} : C1 K (rAny K) fAny := by
  intro pin B F0 F H σ ρ x d Q R r px hq k
  obtain ⟨bs, rfl, q⟩ := hq
  obtain ⟨a, xs, rfl, hs, ra⟩ := px.lst r.sub
  rw [ra.bools_of] at hs
  exact ⟨a, bs, rfl, hs, k _ H F _ (Le.refl F) r (.bl _) q⟩
theorem c1_sum {K : Fg} : C1 K (rSum K) fSum := by
  intro pin B F0 F H σ ρ x d Q R r px hq k
  obtain ⟨bs, rfl, q⟩ := hq
  obtain ⟨a, xs, rfl, hs, ra⟩ := px.lst r.sub
  rw [ra.ints_of] at hs
  exact ⟨a, bs, rfl, hs, k _ H F _ (Le.refl F) r (.int _) q⟩
/-! sorted -/
def srtI (ns : List Int) : List Int := ns.mergeSort (fun a b => decide (a ≤ b))
theorem srtI_perm (ns : List Int) : (srtI ns).Perm ns := List.mergeSort_perm ..
theorem srtI_pw (ns : List Int) : (srtI ns).Pairwise (· ≤ ·) := by
  have h := List.pairwise_mergeSort (le := fun a b : Int => decide (a ≤ b)) (fun a b c h1 h2 => by simp at *; omega) (fun a b => by simp; omega) ns
  exact h.imp fun h => by simpa using h
theorem srtI_eq {ns' ns : List Int} (hp : ns'.Perm ns) (hs : ns'.Pairwise (· ≤ ·)) : ns' = srtI ns :=
  List.Perm.eq_of_pairwise (fun _ _ _ _ h1 h2 => Int.le_antisymm h1 h2) hs (srtI_pw ns) (hp.trans (srtI_perm ns).symm)
def fSorted : D → (Ct → Prop) → Prop := fun d Q => (∃ ns : List Int, d = .list (ns.map .int) ∧ Q (.l ((srtI ns).map .int))) ∨
  ∃ (ks : List Int) (ds : List D), d = .dict ((ks.map .int).zip ds) ∧ ks.length = ds.length ∧ ks.length < 64 ∧ Q (.l ((srtI ks).map .int))
def rSortA (K : Fg) : RC := fun xs H Q => rSortedI K xs H Q ∨ (∃ (a : Addr) (kvs : List (Key × V)) (ks : List Int), xs = [.ref a] ∧ Rd H a (.dK kvs) ∧ kvs.map (·.1) = ks.map Sum.inl ∧ ks.length < 64 ∧
    ∀ (ys : List Int) (p : Addr), ys.Perm ks → ys.Pairwise (· ≤ ·) → H p = none → Q (.ref p) (upd H p (.lst (ys.map V.int))))
theorem cr_sortA (hc : X.calm = true) : CallR X (.builtin "sorted") (rSortA X.K) := CallR.or cr_sortedI (call_sortedDI hc)
theorem keys_int : ∀ {es : List (Key × D)} {ks : List Int} {ds : List D}, es.map (fun (p : Key × D) => (kD p.1, p.2)) = (ks.map PyData.int).zip ds → ks.length = ds.length → es.map (·.1) = ks.map Sum.inl
  | [], [], _, _, _ => rfl
  | [], k :: ks, [], _, h => by simp at h
  | [], k :: ks, d :: ds, h, _ => by simp at h
  | e :: es, [], ds, h, hl => by simp at h
  | e :: es, k :: ks, [], h, hl => by simp at hl
  | e :: es, k :: ks, d :: ds, h, hl => by
    simp only [List.map_cons, List.zip_cons_cons, List.cons.injEq, Prod.mk.injEq] at h
    obtain ⟨⟨h1, _⟩, h2⟩ := h
    have ih := keys_int h2 (by simpa using hl)
    have e1 : e.1 = Sum.inl k := by
      cases q : e.1 with
      | inl i => rw [q] at h1; cases h1; rfl
      | inr i => rw [q] at h1; cases h1
    simp [ih, e1]
theorem c1_sorted {K : Fg} : C1F K (rSortA K) fSorted := by
  intro pin B F0 F H σ ρ x d Q R r px hq k
  rcases hq with ⟨ns, rfl, q⟩ | ⟨ks, ds, rfl, hl, h64, q⟩
  · obtain ⟨a, xs, rfl, hs, ra⟩ := px.lst r.sub
    rw [ra.ints_of] at hs
    refine .inl ⟨a, ns, rfl, hs, fun ns' p h1 h2 hp => ?_⟩
    rw [srtI_eq h1 h2]
    exact k p _ _ F (.l _) (Le.refl F) (r.lay hp) (r.lays hp) (RpA.ints _) q
  · obtain ⟨a, kvs, es, rfl, hr, e1, ra, e2⟩ := px.dct r.sub
    have e3 := keys_int e2.symm hl
    refine .inr ⟨a, kvs, ks, rfl, hr, e1.trans e3, h64, fun ns' p h1 h2 hp => ?_⟩
    rw [srtI_eq h1 h2]
    exact k p _ _ F (.l _) (Le.refl F) (r.lay hp) (r.lays hp) (RpA.ints _) q
/-! int, abs -/
def fInt : D → (D → Prop) → Prop := fun d Q => match d with
  | .int i => Q (.int i)
  | .bool b => Q (.int (if b then 1 else 0))
  | _ => False
theorem c1_int {K : Fg} : C1 K (fun xs H Q => (∃ i, xs = [.int i] ∧ Q (.int i) H) ∨ ∃ k, xs = [.bl k] ∧ Q (.int (if k then 1 else 0)) H) fInt := by
  intro pin B F0 F H σ ρ x d Q R r px hq k
  cases d <;> first | exact False.elim hq | skip
  · have px' := px.scal (by intro c; cases c <;> exact fun z => nomatch z)
    cases px'
    exact .inr ⟨_, rfl, k _ H F _ (Le.refl F) r (.int _) hq⟩
  · have px' := px.scal (by intro c; cases c <;> exact fun z => nomatch z)
    cases px'
    exact .inl ⟨_, rfl, k _ H F _ (Le.refl F) r (.int _) hq⟩
def fAbs : D → (D → Prop) → Prop := fun d Q => match d with
  | .int i => Q (.int (if i < 0 then -i else i))
  | _ => False
theorem c1_abs {K : Fg} : C1 K (fun xs H Q => ∃ i, xs = [.int i] ∧ Q (.int (if i < 0 then -i else i)) H) fAbs := by
  intro pin B F0 F H σ ρ x d Q R r px hq k
  cases d <;> first | exact False.elim hq | skip
  have px' := px.scal (by intro c; cases c <;> exact fun z => nomatch z)
  cases px'
  exact ⟨_, rfl, k _ H F _ (Le.refl F) r (.int _) hq⟩
/-! repr -/
mutual
theorem Rp.reads {pins : List (Addr × Obj)} {σ : L2.St} {F H : Hp} {s : Shared} (I : Inv X pins σ H s) (sb : Sub F H) : ∀ {v : V} {d : D} {u : Value}, Rp X.K F v d → RelV v u → d.hasDict = false → ∃ as, Reads s.heap u d as
  | _, _, u, .non, r, _ => by cases r; exact ⟨_, .none⟩
  | _, _, u, .bl b, r, _ => by cases r; exact ⟨_, .bool b⟩
  | _, _, u, .int b, r, _ => by obtain ⟨t, rfl⟩ := r; exact ⟨_, .int b t⟩
  | _, _, u, .str b, r, _ => by obtain ⟨t, rfl⟩ := r; exact ⟨_, .str b t⟩
  | _, _, u, .lst h ra, r, hd => by
    cases r
    obtain ⟨its, rv, ⟨o, n, h1, h2, _, h3⟩, _⟩ := I.list (sb.sqL h)
    obtain ⟨as, q⟩ := RpA.reads I sb ra rv (by simpa [PyData.hasDict] using hd)
    exact ⟨_, .list h1 h2 h3 (by simpa using q)⟩
  | _, _, u, .tup h ra, r, hd => by
    cases r
    obtain ⟨its, rv, ⟨o, h1, h2, n, h3⟩, _⟩ := I.tuple (sb.sqT h)
    obtain ⟨as, q⟩ := RpA.reads I sb ra rv (by simpa [PyData.hasDict] using hd)
    exact ⟨_, .tuple h1 h2 h3 (by simpa using q)⟩
  | _, _, u, .dct h ra, r, hd => by simp [PyData.hasDict] at hd
theorem RpA.reads {pins : List (Addr × Obj)} {σ : L2.St} {F H : Hp} {s : Shared} (I : Inv X pins σ H s) (sb : Sub F H) : ∀ {v : List V} {d : List D} {u : List Value}, RpA X.K F v d → Vals v u → PyData.hasDictAll d = false → ∃ as, ReadsAll s.heap u d as
  | _, _, _, .nil, .nil, _ => ⟨_, .nil⟩
  | _, _, _, .cons h t, .cons r rs, hd => by
    simp only [PyData.hasDictAll, Bool.or_eq_false_iff] at hd
    obtain ⟨as, q⟩ := Rp.reads I sb h r hd.1
    obtain ⟨bs, q2⟩ := RpA.reads I sb t rs hd.2
    exact ⟨_, .cons q q2⟩
end
theorem RpB.reads {pins : List (Addr × Obj)} {σ : L2.St} {F H : Hp} {s : Shared} (I : Inv X pins σ H s) (sb : Sub F H) {v : V} {d : D} {u : Value} (h : RpB X.K F H v d) (r : RelV v u) (hd : d.hasDict = false) : ∃ as, Reads s.heap u d as := by
  rcases h with h | ⟨a, o, c, rfl, ha, hc, e⟩
  · exact h.reads I sb r hd
  · cases c with
    | k es => subst e; simp [ctD, PyData.hasDict] at hd
    | l ds =>
      subst e
      cases o <;> first | exact False.elim hc | skip
      rename_i xs
      cases r
      obtain ⟨its, rv, ⟨o, n, h1, h2, _, h3⟩, _⟩ := I.list (a := a) (xs := xs) (.inl (.inl ha))
      obtain ⟨as, q⟩ := RpA.reads I sb hc rv (by simpa [ctD, PyData.hasDict] using hd)
      exact ⟨_, .list h1 h2 h3 (by simpa using q)⟩
/-- what may be shown: ints below 2 ^ 1920, no dict, not too deep, not too long -/
structure Shows (d : D) : Prop where
  ok : d.showable = true
  nd : d.hasDict = false
  dp : d.depth ≤ 60
  sz : d.shown.length ≤ sizeLine
def rRepr (K : Fg) : RC := fun xs H Q => ∃ x F d, xs = [x] ∧ Sub F H ∧ RpB K F H x d ∧ Shows d ∧ Q (.str d.shown) H
theorem cr_repr (hG : X.A.guards = some []) (hu : X.A.units + 64 < cLine) : CallR X (.builtin "repr") (rRepr X.K) := by
  intro pins s σ H xs us Q I rv h
  obtain ⟨x, F, d, rfl, sb, px, sh, q⟩ := h
  obtain ⟨u, rfl, rx⟩ := vals1 rv
  obtain ⟨as, hr⟩ := px.reads I sb rx sh.nd
  have done : ∀ (h' : Heap) (u' : Tok) (tk : Nat), (∀ b o, s.heap.get? b = some o → h'.get? b = some o) → EP X pins σ Q (.str d.shown u') { s with heap := h', toks := tk } := fun h' u' tk hk => ⟨.str d.shown, H, I.kept hk, ⟨u', rfl⟩, q⟩
  have scal : ∀ tk, EP X pins σ Q (.str d.shown tk) { s with toks := s.toks + 1 } := fun tk => done s.heap tk (s.toks + 1) fun _ _ e => e
  cases hr with
  | none => exact PySem.P.repr_of_none (scal _)
  | bool b => exact PySem.P.repr_of_bool (scal _)
  | int i t => exact PySem.P.repr_of_int (by have := sh.ok; simpa [PyData.showable] using this) (scal _)
  | str z t => exact PySem.P.repr_of_str (scal _) sh.sz
  | list h1 h2 h3 h4 => exact repr_of_reads' (.list h1 h2 h3 h4) sh.ok (PyData.noDict_hsm sh.nd) hG (by have := sh.dp; omega) (fun _ _ e => e) (fun h' u' tk hk => done h' u' tk hk) sh.sz
  | tuple h1 h2 h3 h4 => exact repr_of_reads' (.tuple h1 h2 h3 h4) sh.ok (PyData.noDict_hsm sh.nd) hG (by have := sh.dp; omega) (fun _ _ e => e) (fun h' u' tk hk => done h' u' tk hk) sh.sz
  | dict h1 h2 h3 h4 h5 => have := sh.nd; simp [PyData.hasDict] at this
def fRepr : D → (D → Prop) → Prop := fun d Q => Shows d ∧ Q (.str d.shown)
theorem c1_repr {K : Fg} : C1 K (rRepr K) fRepr := fun pin B F0 F H σ ρ x d Q R r px hq k => ⟨x, F, d, rfl, r.sub, px, hq.1, k _ H F _ (Le.refl F) r (.str _) hq.2⟩
end
end G

namespace G
open PySem PySem.Spec PyProof.Rows L2
section
variable {X : Cx} {a b c e : Expr} {rest es : List Expr} {pos apos cpos p : Pos} {ta tb te : TE} {wa wb we : WE} {x : Str}
/-! ### targets -/
def bName (i : Nat) : WB := fun d ρ Q => Q (ρ.set i (.d d))
theorem set_keeps {σ : L2.St} {i : Nat} {v : Option V} : (σ.set i v).length = σ.length ∧ ∀ j, j ∉ [i] → (σ.set i v)[j]? = σ[j]? := by
  refine ⟨List.length_set .., fun j hj => ?_⟩
  have : i ≠ j := fun z => hj (by simp [z])
  rw [List.getElem?_set_ne this]
theorem VGok.name {K : Fg} (i : Nat) : VGok K (gName i) (bName i) [i] := fun pin B F0 F H σ ρ v d Q R r p hw k => k _ _ (r.setD p) set_keeps hw
theorem vg_name (i : Nat) {pos : Pos} (h : PG X (.Name x pos) (gName i)) : VG X (.Name x pos) (gName i) (bName i) [i] := ⟨h, .name i⟩
def bNil : List D → En → (En → Prop) → Prop := fun ds ρ Q => ds = [] ∧ Q ρ
def bCons (b : WB) (bs : List D → En → (En → Prop) → Prop) : List D → En → (En → Prop) → Prop := fun ds ρ Q => match ds with
  | [] => False
  | d :: r => b d ρ fun ρ' => bs r ρ' Q
theorem vgs_nil : VGs X [] gNil 0 bNil [] := ⟨pgs_nil, fun pin B F0 F H σ ρ vs ds Q R r p hw k => by
  obtain ⟨rfl, q⟩ := hw
  cases p
  exact ⟨rfl, rfl, k σ ρ r ⟨rfl, fun _ _ => rfl⟩ q⟩⟩
/-- a tuple's parts into names -/
def bNames (is : List Nat) : WB := fun d ρ Q => match d with
  | .tuple ds => ds.length = is.length ∧ Q ((is.zip ds).foldl (fun r p => r.set p.1 (.d p.2)) ρ)
  | _ => False
def gNames : List Nat → TGs
  | [] => gNil
  | i :: is => gCons (gName i) (gNames is)
theorem gNames_ok {K : Fg} {pin : Nat → Addr → Prop} {B F0 F H : Hp} {R : L2.St → Hp → Prop} : ∀ (is : List Nat) (σ : L2.St) (ρ : En) (vs : List V) (ds : List D), RE K pin B F0 F H σ ρ → RpA K F vs ds → ds.length = is.length →
    (∀ σ', RE K pin B F0 F H σ' ((is.zip ds).foldl (fun r p => r.set p.1 (.d p.2)) ρ) → (σ'.length = σ.length ∧ ∀ j, j ∉ is → σ'[j]? = σ[j]?) → R σ' H) → gNames is vs σ H R
  | [], σ, ρ, vs, ds, r, p, hl, k => by
    cases ds with
    | cons => simp at hl
    | nil => cases p; exact ⟨rfl, k σ r ⟨rfl, fun _ _ => rfl⟩⟩
  | i :: is, σ, ρ, vs, ds, r, p, hl, k => by
    cases ds with
    | nil => simp at hl
    | cons d ds =>
      cases p with
      | cons h t =>
        refine ⟨_, _, rfl, gNames_ok is _ (ρ.set i (.d d)) _ ds (r.setD h) t (by simpa using hl) fun σ' r' q => k σ' r' ⟨q.1.trans (List.length_set ..), fun j hj => ?_⟩⟩
        rw [q.2 j (fun z => hj (List.mem_cons_of_mem _ z)), List.getElem?_set_ne (fun z => hj (by simp [z]))]
theorem vg_tup {es : List Expr} {k : Nat} {is : List Nat} {n : Nat} (hc : X.calm = true) (h : PGs X es (gNames is)) (hn : n = is.length)
    (h1 : (assignEach es X.env).length = n := by rfl) (h2 : (assignEach es X.env).findIdx? (·.1) = none := by rfl) : VG X (.Tuple es k pos) (gTup X.K n (gNames is)) (bNames is) is :=
  ⟨pg_tup hc h h1 h2, fun pin B F0 F H σ ρ v d Q R r p hw kk => by
    cases p <;> first | exact False.elim hw | skip
    rename_i a xs ds hs ra
    obtain ⟨hl, q⟩ := hw
    exact ⟨a, xs, rfl, r.sub.sqT hs, by rw [ra.length, hl, hn], gNames_ok is σ ρ xs ds r ra hl fun σ' r' kp => kk σ' _ r' kp q⟩⟩
/-! ### statements -/
def wNext : WS := fun D ρ => D.nx ρ
def wSeq (u v : WS) : WS := fun D ρ => u { D with nx := v D } ρ
variable {st : Stmt} {sts : List Stmt} {t u : TS} {w v : WS}
theorem EndsOk.le {K : Fg} {pin : Nat → Addr → Prop} {B F0 F F' : Hp} {D : VD} {E : Ends} (h : EndsOk K pin B F0 F D E) (l : Le F F') : EndsOk K pin B F0 F' D E :=
  ⟨fun σ' H' G ρ' le => h.nx σ' H' G ρ' (l.trans le), fun v r σ' H' G ρ' le => h.rt v r σ' H' G ρ' (l.trans le), fun σ' H' G ρ' le => h.bk σ' H' G ρ' (l.trans le), fun σ' H' G ρ' le => h.ct σ' H' G ρ' (l.trans le)⟩
theorem VSok.next {K : Fg} : VSok K tNext wNext := fun pin B F0 F H σ ρ D E r hw ke => ke.nx σ H F ρ (Le.refl F) r hw
theorem VSok.seq {K : Fg} (h1 : VSok K t w) (h2 : VSok K u v) : VSok K (tSeq t u) (wSeq w v) := fun pin B F0 F H σ ρ D E r hw ke =>
  h1 pin B F0 F H σ ρ _ _ r hw ⟨fun σ' H' F' ρ' le r' q => h2 pin B F0 F' H' σ' ρ' D E r' q (ke.le le), ke.rt, ke.bk, ke.ct⟩
theorem vss_nil : VSs X [] tNext wNext := ⟨pss_nil, .next⟩
theorem vss_one (h : VS X st t w) : VSs X [st] t w := ⟨pss_one h.p, h.ok⟩
theorem vss_cons (h1 : VS X st t w) (h2 : VSs X sts u v) : VSs X (st :: sts) (tSeq t u) (wSeq w v) := ⟨pss_cons h1.p h2.p, .seq h1.ok h2.ok⟩
theorem vs_pass : VS X (.Pass pos) tNext wNext := ⟨ps_pass, .next⟩
def wBreak : WS := fun D ρ => D.bk ρ
def wCont : WS := fun D ρ => D.ct ρ
theorem vs_break : VS X (.Break pos) tBreak wBreak := ⟨ps_break, fun pin B F0 F H σ ρ D E r hw ke => ke.bk σ H F ρ (Le.refl F) r hw⟩
theorem vs_continue : VS X (.Continue pos) tCont wCont := ⟨ps_continue, fun pin B F0 F H σ ρ D E r hw ke => ke.ct σ H F ρ (Le.refl F) r hw⟩
def wIfS (wt : WT) (w v : WS) : WS := fun D ρ => wt ρ fun b ρ' => if b = true then w D ρ' else v D ρ'
theorem vs_if {tc : TT} {wt : WT} {s1 s2 : List Stmt} (hc : VT X c tc wt) (h1 : VSs X s1 t w) (h2 : VSs X s2 u v) : VS X (.If c s1 s2 pos) (tIfS tc t u) (wIfS wt w v) :=
  ⟨ps_if hc.p h1.p h2.p, fun pin B F0 F H σ ρ D E r hw ke => hc.ok pin B F0 F H σ ρ _ _ r hw fun b H' F' ρ' le r' q =>
    ite_both q (fun q => h1.ok pin B F0 F' H' σ ρ' D E r' q (ke.le le)) fun q => h2.ok pin B F0 F' H' σ ρ' D E r' q (ke.le le)⟩
def wDrop (we : WE) : WS := fun D ρ => we ρ fun _ ρ' => D.nx ρ'
theorem vs_expr (h : VE X e te we) (hs : swapsWith e none pos.line X.env = pure false := by rfl) : VS X (.Expr e pos) (tDrop te) (wDrop we) :=
  ⟨ps_expr h.p hs, fun pin B F0 F H σ ρ D E r hw ke => h.ok pin B F0 F H σ ρ _ _ r hw fun v H' F' d ρ' le r' p q => ke.nx σ H' F' ρ' le r' q⟩
def wRet (we : WE) : WS := fun D ρ => we ρ fun d ρ' => D.rt (.fz d) ρ'
theorem vs_ret (h : VE X e te we) : VS X (.Return (some e) pos) (tRet te) (wRet we) :=
  ⟨ps_ret h.p, fun pin B F0 F H σ ρ D E r hw ke => h.ok pin B F0 F H σ ρ _ _ r hw fun v H' F' d ρ' le r' p q => ke.rt v (.fz d) σ H' F' ρ' le r' p q⟩
def wRetF (w : WF) : WS := fun D ρ => w ρ fun c ρ' => D.rt (.fr c) ρ'
theorem vs_retF {w : WF} (h : VF X e te w) : VS X (.Return (some e) pos) (tRet te) (wRetF w) :=
  ⟨ps_ret h.p, fun pin B F0 F H σ ρ D E r hw ke => h.ok pin B F0 F H σ ρ _ _ r hw fun p o H' F' c ρ' le r' l hc q => ke.rt _ (.fr c) σ H' F' ρ' le r' ⟨p, o, rfl, l, hc⟩ q⟩
/-- return x, x an owned thing: it is handed over -/
def wRetO (i : Nat) : WS := fun D ρ => match ρ[i]? with
  | some (.o _ c) => D.rt (.fr c) (ρ.set i .no)
  | some (.d x) => D.rt (.fz x) ρ
  | _ => False
theorem vs_retO (i : Nat) {p : Pos} (h : PE X (.Name x p) (tVar i)) : VS X (.Return (some (.Name x p)) pos) (tRet (tVar i)) (wRetO i) :=
  ⟨ps_ret h, fun pin B F0 F H σ ρ D E r hw ke => by
    unfold wRetO at hw
    split at hw
    · rename_i b c e
      obtain ⟨a, o, e1, ha, hc⟩ := r.get_o e
      obtain ⟨o', l, b', c', e', hc'⟩ := r.loose ⟨⟨b, c, e⟩, e1⟩
      rw [e] at e'; cases e'
      exact ⟨_, e1, ke.rt _ (.fr c) σ H F _ (Le.refl F) (r.forget i) ⟨a, o', rfl, l, hc'⟩ hw⟩
    · rename_i y e
      obtain ⟨v, e1, h⟩ := r.get_d e
      exact ⟨v, e1, ke.rt v (.fz y) σ H F ρ (Le.refl F) r h hw⟩
    · exact False.elim hw⟩
def wSet (i : Nat) (we : WE) : WS := fun D ρ => we ρ fun d ρ' => D.nx (ρ'.set i (.d d))
theorem vs_set {i : Nat} {pos' : Pos} (hN : X.N.Nodup) (hi : X.N[i]? = some x) (hx : Loc X.env.scope x) (h : VE X e te we) (hs : swapsWith e (some (.Name x pos')) pos.line X.env = pure false := by rfl)
    (hf : X.fn x = true ∨ X.env.scope.names.lookup x = some .local := by first | exact .inl rfl | exact .inr rfl | assumption) : VS X (.Assign [.Name x pos'] e pos) (tAsg te (gName i)) (wSet i we) :=
  ⟨ps_set hN hi hx h.p hs hf, fun pin B F0 F H σ ρ D E r hw ke => h.ok pin B F0 F H σ ρ _ _ r hw fun v H' F' d ρ' le r' p q => ke.nx _ H' F' _ le (r'.setD p) q⟩
def wSetF (i : Nat) (w : WF) : WS := fun D ρ => w ρ fun c ρ' => D.nx (ρ'.set i (.o false c))
theorem vs_setF {i : Nat} {pos' : Pos} {w : WF} (hN : X.N.Nodup) (hi : X.N[i]? = some x) (hx : Loc X.env.scope x) (h : VF X e te w) (hs : swapsWith e (some (.Name x pos')) pos.line X.env = pure false := by rfl)
    (hf : X.fn x = true ∨ X.env.scope.names.lookup x = some .local := by first | exact .inl rfl | exact .inr rfl | assumption) : VS X (.Assign [.Name x pos'] e pos) (tAsg te (gName i)) (wSetF i w) :=
  ⟨ps_set hN hi hx h.p hs hf, fun pin B F0 F H σ ρ D E r hw ke => h.ok pin B F0 F H σ ρ _ _ r hw fun p o H' F' c ρ' le r' l hc q => ke.nx _ H' F' _ le (r'.setO l hc) q⟩
def wSetT (is : List Nat) (we : WE) : WS := fun D ρ => we ρ fun d ρ' => bNames is d ρ' D.nx
theorem vs_tup {tg : Expr} {g : TG} {is : List Nat} (h : VE X e te we) (hg : VG X tg g (bNames is) is) (hs : swapsWithSole [tg] e pos.line X.env = pure false := by rfl) (hw : swappedStores [tg] e X.env = pure none := by rfl)
    (h1 : (assignEach [tg] X.env).map (·.2) = [assign tg X.env] := by rfl) : VS X (.Assign [tg] e pos) (tAsg te g) (wSetT is we) :=
  ⟨ps_asg h.p hg.p hs hw h1, fun pin B F0 F H σ ρ D E r hw ke => h.ok pin B F0 F H σ ρ _ _ r hw fun v H' F' d ρ' le r' p q => hg.ok pin B F0 F' H' σ ρ' v d _ _ r' p q fun σ' ρ2 r2 _ q2 => ke.nx σ' H' F' ρ2 le r2 q2⟩
def wPar (i j : Nat) (wl : WL) : WS := fun D ρ => wl ρ fun ds ρ' => match ds with
  | [d, d'] => D.nx ((ρ'.set i (.d d)).set j (.d d'))
  | _ => False
theorem vs_par {i j : Nat} {y : Str} {tl : TA} {wl : WL} {px py pt : Pos} {kt k2 pt2} (hc : X.calm = true) (hN : X.N.Nodup) (hi : X.N[i]? = some x) (hj : X.N[j]? = some y) (hij : i ≠ j)
    (hx : X.env.scope.names.lookup x = some .local) (hy : X.env.scope.names.lookup y = some .local) (h : VL X [a, b] tl wl)
    (hw : swappedStores [.Tuple [.Name x px, .Name y py] kt pt] (.Tuple [a, b] k2 pt2) X.env = pure (some [x, y]))
    (hs : swapsWithSole [.Tuple [.Name x px, .Name y py] kt pt] (.Tuple [a, b] k2 pt2) pos.line X.env = pure false := by rfl) :
    VS X (.Assign [.Tuple [.Name x px, .Name y py] kt pt] (.Tuple [a, b] k2 pt2) pos) (tPar i j tl) (wPar i j wl) :=
  ⟨ps_par hc hN hi hj hij hx hy h.p hw hs, fun pin B F0 F H σ ρ D E r hw ke => h.ok pin B F0 F H σ ρ _ _ r hw fun vs H' F' ds ρ' le r' p q => by
    cases p with
    | nil => exact False.elim q
    | cons p1 p2 =>
      cases p2 with
      | nil => exact False.elim q
      | cons p2 p3 =>
        cases p3 with
        | cons => exact False.elim q
        | nil => exact ⟨_, _, rfl, ke.nx _ H' F' _ le ((r'.setD p1).setD p2) q⟩⟩
/-! ### x[k] = e -/
def putE (es : List (Key × D)) (k : Key) (d : D) : List (Key × D) :=
  if (es.any fun kv => decide (kv.1 = k)) = true then es.map (fun kv => if kv.1 = k then (kv.1, d) else kv) else es ++ [(k, d)]
def dropE (es : List (Key × D)) (k : Key) : List (Key × D) := es.filter fun kv => decide (kv.1 ≠ k)
theorem any_keys {κ α β : Type} [DecidableEq κ] {k : κ} : ∀ {as : List (κ × α)} {bs : List (κ × β)}, as.map (·.1) = bs.map (·.1) → (as.any fun kv => decide (kv.1 = k)) = bs.any fun kv => decide (kv.1 = k)
  | [], [], _ => rfl
  | [], _ :: _, h => by simp at h
  | _ :: _, [], h => by simp at h
  | a :: as, b :: bs, h => by
    simp only [List.map_cons, List.cons.injEq] at h
    rw [List.any_cons, List.any_cons, any_keys h.2, h.1]
theorem putK_rp {K : Fg} {F : Hp} {k : Key} {v : V} {d : D} (p : Rp K F v d) {kvs : List (Key × V)} {es : List (Key × D)} (h : kvs.map (·.1) = es.map (·.1)) (r : RpA K F (kvs.map (·.2)) (es.map (·.2))) :
    (putK kvs k v).map (·.1) = (putE es k d).map (·.1) ∧ RpA K F ((putK kvs k v).map (·.2)) ((putE es k d).map (·.2)) := by
  unfold putK putE
  rw [any_keys (k := k) h]
  split
  · rename_i hh
    clear hh
    induction kvs generalizing es with
    | nil => cases es with
      | nil => exact ⟨rfl, .nil⟩
      | cons => simp at h
    | cons kv kvs ih =>
      cases es with
      | nil => simp at h
      | cons e es =>
        simp only [List.map_cons, List.cons.injEq] at h
        cases r with
        | cons r1 r2 =>
          obtain ⟨i1, i2⟩ := ih h.2 r2
          by_cases z : e.1 = k
          · simp only [List.map_cons, h.1, z, if_true]
            exact ⟨by simp [i1], .cons p i2⟩
          · simp only [List.map_cons, h.1, z, if_false]
            exact ⟨by simp [i1, h.1], .cons r1 i2⟩
  · simp only [List.map_append, h]
    exact ⟨rfl, r.append (.cons p .nil)⟩
theorem dropK_rp {K : Fg} {F : Hp} {k : Key} : ∀ {kvs : List (Key × V)} {es : List (Key × D)}, kvs.map (·.1) = es.map (·.1) → RpA K F (kvs.map (·.2)) (es.map (·.2)) →
    (dropK kvs k).map (·.1) = (dropE es k).map (·.1) ∧ RpA K F ((dropK kvs k).map (·.2)) ((dropE es k).map (·.2))
  | [], [], _, _ => ⟨rfl, .nil⟩
  | [], _ :: _, h, _ => by simp at h
  | _ :: _, [], h, _ => by simp at h
  | kv :: kvs, e :: es, h, r => by
    simp only [List.map_cons, List.cons.injEq] at h
    cases r with
    | cons r1 r2 =>
      obtain ⟨i1, i2⟩ := dropK_rp (k := k) h.2 r2
      unfold dropK dropE at i1 i2 ⊢
      by_cases z : e.1 = k
      · rw [List.filter_cons_of_neg (by simp [h.1, z]), List.filter_cons_of_neg (by simp [z])]
        exact ⟨i1, i2⟩
      · rw [List.filter_cons_of_pos (by simp [h.1, z]), List.filter_cons_of_pos (by simp [z])]
        exact ⟨by rw [List.map_cons, List.map_cons, i1, h.1], .cons r1 i2⟩
def sPutL (te ti : TE) (i : Nat) : TS := tAsg te (gSub (tVar i) ti rSetL)
def sPut (te ti : TE) (i : Nat) : TS := fun D σ H => sPutL te ti i D σ H ∨ sDPut (tVar i) ti te D σ H
/-- the slot's list or dict changes at a place -/
def wPut (i : Nat) (wk we : WE) : WS := fun D ρ => match ρ[i]? with
  | some (.o _ (.l _)) => we ρ fun d ρ1 => wk ρ1 fun k ρ2 => match ρ2[i]?, k with
    | some (.o b (.l ds)), .int z => ∃ j, ixN ds.length z = some j ∧ D.nx (ρ2.set i (.o b (.l (ds.set j d))))
    | _, _ => False
  | some (.o _ (.k _)) => we ρ fun d ρ1 => wk ρ1 fun k ρ2 => match ρ2[i]? with
    | some (.o b (.k es)) => ∃ kk, dKey k = some kk ∧ es.length < sizeLine ∧ D.nx (ρ2.set i (.o b (.k (putE es kk d))))
    | _ => False
  | _ => False
theorem VSok.put {K : Fg} {i : Nat} {ti : TE} {wi : WE} (he : VEok K te we) (hi : VEok K ti wi) : VSok K (sPut te ti i) (wPut i wi we) := by
  intro pin B F0 F H σ ρ D E r hw ke
  unfold wPut at hw
  split at hw
  · rename_i b0 ds0 e0
    obtain ⟨a, o, es, ha, hc⟩ := r.get_o e0
    refine .inl (he pin B F0 F H σ ρ _ _ r hw fun v H1 F1 d ρ1 l1 r1 p1 q1 => ⟨.ref a, es, hi pin B F0 F1 H1 σ ρ1 _ _ r1 q1 fun kv H2 F2 k ρ2 l2 r2 p2 q2 => ?_⟩)
    split at q2 <;> first | exact False.elim q2 | skip
    rename_i b ds z e2
    obtain ⟨j, hj, q⟩ := q2
    obtain ⟨a', o', es', ha', hc'⟩ := r2.get_o e2
    rw [es] at es'; cases es'
    cases p2
    cases o' <;> first | exact False.elim hc' | skip
    rename_i xs
    have hl : xs.length = ds.length := RpA.length hc'
    refine ⟨a, xs, z, j, rfl, rfl, ha', by rw [hl]; exact hj, ke.nx σ _ F2 _ (l1.trans l2) (r2.write e2 es ?_) q⟩
    exact RpA.set (p1.le l2) j hc'
  · rename_i b0 ds0 e0
    obtain ⟨a, o, es, ha, hc⟩ := r.get_o e0
    refine .inr (he pin B F0 F H σ ρ _ _ r hw fun v H1 F1 d ρ1 l1 r1 p1 q1 => ⟨.ref a, es, hi pin B F0 F1 H1 σ ρ1 _ _ r1 q1 fun kv H2 F2 k ρ2 l2 r2 p2 q2 => ?_⟩)
    split at q2 <;> first | exact False.elim q2 | skip
    rename_i b ds e2
    obtain ⟨kk, hk, hz, q⟩ := q2
    obtain ⟨a', o', es', ha', hc'⟩ := r2.get_o e2
    rw [es] at es'; cases es'
    cases o' <;> first | exact False.elim hc' | skip
    rename_i kvs
    have hl : kvs.length = ds.length := by
      have := congrArg List.length hc'.1
      simpa using this
    refine ⟨a, _, rfl, .inl ⟨kvs, kk, ha', rp_key p2 hk, by rw [hl]; exact hz, rfl⟩, ke.nx σ _ F2 _ (l1.trans l2) (r2.write e2 es ?_) q⟩
    exact putK_rp (p1.le l2) hc'.1 hc'.2
  · exact False.elim hw
theorem PS.or {s : Stmt} {t u : TS} (h1 : PS X s t) (h2 : PS X s u) : PS X s (fun D σ H => t D σ H ∨ u D σ H) := ⟨fun pins s σ H D I h => h.elim (h1.run pins s σ H D I) (h2.run pins s σ H D I)⟩
theorem vs_put {i : Nat} {k : Expr} {ti : TE} {wi : WE} {p pos' : Pos} (hu : X.A.units + 1 < cLine) (ho : PE X (.Name x p) (tVar i)) (hk : VE X k ti wi) (he : VE X e te we)
    (h1 : PS X (.Assign [.Subscript (.Name x p) k pos'] e pos) (sPutL te ti i)) (hs : swapsWith e (some (.Subscript (.Name x p) k pos')) pos.line X.env = pure false := by rfl) :
    VS X (.Assign [.Subscript (.Name x p) k pos'] e pos) (sPut te ti i) (wPut i wi we) := ⟨PS.or h1 (ps_dput hu ho hk.p he.p hs), .put he.ok hk.ok⟩
end
end G

namespace G
open PySem PySem.Spec PyProof.Rows L2
/-! ### what is walked -/
def Walk (K : Fg) (F : Hp) (J : It) (ds : List D) : Prop := ∀ (F' H' : Hp), Le F F' → Sub F' H' → ∀ i : Nat,
  (∀ d, ds[i]? = some d → J.go i H' ∧ ∀ x H'', J.yld i H' x H'' → (H'' = H' ∧ Rp K F' x d) ∨ ∃ T o, H' T = none ∧ H'' = upd H' T o ∧ Rp K (upd F' T o) x d) ∧ (ds.length ≤ i → J.stop i H')
/-- .. where what stands in B is kept -/
def WalkB (K : Fg) (B F : Hp) (J : It) (ds : List D) : Prop := ∀ (F' H' : Hp), Le F F' → Sub F' H' → Kp B F' H' → ∀ i : Nat,
  (∀ d, ds[i]? = some d → J.go i H' ∧ ∀ x H'', J.yld i H' x H'' → (H'' = H' ∧ Rp K F' x d) ∨ ∃ T o, H' T = none ∧ H'' = upd H' T o ∧ Rp K (upd F' T o) x d) ∧ (ds.length ≤ i → J.stop i H')
theorem Walk.b {K : Fg} {B F : Hp} {J : It} {ds : List D} (h : Walk K F J ds) : WalkB K B F J ds := fun F' H' l s _ => h F' H' l s
/-- more is kept for a while -/
structure Ext (K : Fg) (pin : Nat → Addr → Prop) (B F0 B1 F01 F1 : Hp) : Prop where
  dom : ∀ a, B1 a = none → B a = none
  back : ∀ {F' H' : Hp} {σ' : L2.St} {ρ' : En}, Le F1 F' → RE K pin B1 F01 F' H' σ' ρ' → RE K pin B F0 F' H' σ' ρ'
theorem Ext.rfl {K : Fg} {pin : Nat → Addr → Prop} {B F0 F1 : Hp} : Ext K pin B F0 B F0 F1 := ⟨fun _ h => h, fun _ r => r⟩
theorem Ext.loose {K : Fg} {pin : Nat → Addr → Prop} {B F0 B1 F01 F1 F H : Hp} {σ : L2.St} {ρ : En} {p : Addr} {o : HO} (e : Ext K pin B F0 B1 F01 F1) (l : Loose B1 F H σ ρ p o) : Loose B F H σ ρ p o := ⟨l.f, e.dom _ l.b, l.h, l.ap⟩
theorem Ext.ret {K : Fg} {pin : Nat → Addr → Prop} {B F0 B1 F01 F1 F H : Hp} {σ : L2.St} {ρ : En} {v : V} {r : RetV} (e : Ext K pin B F0 B1 F01 F1) (h : RetOk K B1 F H σ ρ v r) : RetOk K B F H σ ρ v r := by
  cases r with
  | fz d => exact h
  | fr c => obtain ⟨p, o, h1, l, h2⟩ := h; exact ⟨p, o, h1, e.loose l, h2⟩
/-- a known dict is locked -/
theorem RE.lock {K : Fg} {pin : Nat → Addr → Prop} {B F0 F H : Hp} {σ : L2.St} {ρ : En} {a : Addr} {o : Obj} {kvs : List (Key × V)} (r : RE K pin B F0 F H σ ρ) (hf : Rd F a (.dK kvs)) (hH : H a = some (.dK kvs) ∨ H a = some (.frz o (.dK kvs))) :
    RE K pin (upd B a (.frz o (.dK kvs))) F F (upd H a (.frz o (.dK kvs))) σ ρ ∧ Ext K pin B F0 (upd B a (.frz o (.dK kvs))) F F := by
  have fa : F a ≠ none := rd_ne hf
  have dom : ∀ x, upd B a (.frz o (.dK kvs)) x = none → x ≠ a ∧ B x = none := fun x h => by
    have n : x ≠ a := fun z => by rw [z, upd_same] at h; cases h
    rw [upd_ne n] at h
    exact ⟨n, h⟩
  refine ⟨⟨r.len, fun x u e => ?_, fun x u e => ?_, fun x h => .inl h, fun i s e => ?_, r.ap⟩, fun x h => (dom x h).2, fun {F' H' σ' ρ'} le r' => ⟨r'.len, fun x u e => ?_, r'.sub, fun x h => ?_, fun i s e => ?_, r'.ap⟩⟩
  · by_cases h : x = a
    · subst h; rw [upd_same] at e ⊢; exact .inl e
    · rw [upd_ne h] at e ⊢; exact r.keep x u e
  · by_cases h : x = a
    · subst h
      have q := r.sub x u e
      rcases hH with hH | hH
      · rcases q with q | ⟨y, q⟩
        · rw [hH] at q; cases q; exact .inr ⟨o, by rw [upd_same]⟩
        · rw [hH] at q; cases q
      · rcases q with q | ⟨y, q⟩
        · rw [hH] at q; cases q; exact .inl (by rw [upd_same])
        · rw [hH] at q; cases q; exact .inr ⟨o, by rw [upd_same]⟩
    · rcases r.sub x u e with q | ⟨y, q⟩
      · exact .inl (by rw [upd_ne h]; exact q)
      · exact .inr ⟨y, by rw [upd_ne h]; exact q⟩
  · obtain ⟨ov, e1, h⟩ := r.sl i s e
    refine ⟨ov, e1, ?_⟩
    cases s with
    | no => trivial
    | d x => exact h
    | o b c =>
      obtain ⟨a', ho, e2, hp', h1, h2, h3, h4⟩ := h
      have na : a' ≠ a := fun z => fa (by rw [← z]; exact h1)
      exact ⟨a', ho, e2, hp', h1, by rw [upd_ne na]; exact h2, by rw [upd_ne na]; exact h3, h4⟩
  · by_cases h : x = a
    · subst h
      have e' : H' x = some (.frz o (.dK kvs)) := by
        rcases r'.keep x _ upd_same with z | ⟨_, _, _, z, _⟩
        · exact z
        · cases z
      rcases r.keep x u e with z | ⟨_, od, kv2, rfl, z⟩
      · rcases hH with hH | hH
        · rw [hH] at z; cases z; exact .inr ⟨le.ne x fa, o, kvs, rfl, e'⟩
        · rw [hH] at z; cases z; exact .inl e'
      · rcases hH with hH | hH
        · rw [hH] at z; cases z
        · rw [hH] at z; cases z; exact .inr ⟨le.ne x fa, o, kvs, rfl, e'⟩
    · exact r'.keep x u (by rw [upd_ne h]; exact e)
  · rcases r'.new x h with z | z
    · exact r.new x z
    · exact .inr (dom x z).2
  · obtain ⟨ov, e1, h⟩ := r'.sl i s e
    refine ⟨ov, e1, ?_⟩
    cases s with
    | no => trivial
    | d x => exact h
    | o b c =>
      obtain ⟨a', ho, e2, hp', h1, h2, h3, h4⟩ := h
      exact ⟨a', ho, e2, hp', h1, (dom a' h2).2, h3, h4⟩
def VIok (K : Fg) (t : TI) (w : WL) : Prop := ∀ (pin : Nat → Addr → Prop) (B F0 F H : Hp) (σ : L2.St) (ρ : En) (Q : List D → En → Prop) (R : It → Hp → Prop), RE K pin B F0 F H σ ρ → w ρ Q →
  (∀ J B1 F01 H' F' ds ρ', Le F F' → Ext K pin B F0 B1 F01 F' → RE K pin B1 F01 F' H' σ ρ' → WalkB K B1 F' J ds → Q ds ρ' → R J H') → t σ H R
theorem VIok.of {K : Fg} {t : TI} {w : WL} (h : ∀ (pin : Nat → Addr → Prop) (B F0 F H : Hp) (σ : L2.St) (ρ : En) (Q : List D → En → Prop) (R : It → Hp → Prop), RE K pin B F0 F H σ ρ → w ρ Q →
    (∀ J H' F' ds ρ', Le F F' → RE K pin B F0 F' H' σ ρ' → Walk K F' J ds → Q ds ρ' → R J H') → t σ H R) : VIok K t w := fun pin B F0 F H σ ρ Q R r hw k =>
  h pin B F0 F H σ ρ Q R r hw fun J H' F' ds ρ' le r' wk q => k J B F0 H' F' ds ρ' le .rfl r' wk.b q
structure VI (X : Cx) (tg e : Expr) (t : TI) (w : WL) : Prop where
  p : PI X tg e t
  ok : VIok X.K t w
section
variable {X : Cx} {tg a b c e : Expr} {rest es : List Expr} {pos apos cpos p : Pos} {ta tb te : TE} {wa wb we : WE} {x : Str}
def iSeq (K : Fg) (tl : TE) : TI := fun σ H R => tl σ H fun x H1 => (∃ a, x = .ref a ∧ (∃ xs, SqL K H1 a xs) ∧ R (Itl K a) H1) ∨ (∃ a, x = .ref a ∧ (∃ xs, SqT K H1 a xs) ∧ R (Itt K a) H1) ∨ ∃ z, x = .str z ∧ R (Its z) H1
theorem pi_seq (hl : PE X e te) : PI X tg e (iSeq X.K te) := by
  refine ⟨fun pins s σ H R I h => ?_⟩
  refine thn (hl.run pins s σ H _ I h) fun v s1 ⟨y, H1, I1, r1, q1⟩ => ?_
  rcases q1 with ⟨a, ey, ⟨xs, hq⟩, q⟩ | ⟨a, ey, ⟨xs, hq⟩, q⟩ | ⟨z, ey, q⟩
  · subst ey; cases r1
    obtain ⟨its, rv, pl, hz⟩ := I1.list hq
    exact wpAny_pyIter_list pl.isList (pi_one (tk := s1.toks) I1 _ (turn_list a _) ⟨_, Heap.get?_push_size _ rfl, rfl, rfl⟩ q)
  · subst ey; cases r1
    obtain ⟨its, rv, pl, hz⟩ := I1.tuple hq
    exact wpAny_pyIter_tuple (show s1.heap.IsTuple a its.toArray from pl) (pi_one (tk := s1.toks) I1 _ (turn_tuple a _) ⟨_, Heap.get?_push_size _ rfl, rfl, rfl⟩ q)
  · subst ey
    obtain ⟨t, rfl⟩ := r1
    cases ha : z.cps.all (· < 128)
    · exact wpAny_pyIter_wide ha (pi_one (tk := s1.toks) I1 _ (turn_str _ z t "str_iterator" (.inr rfl)) ⟨_, Heap.get?_push_size _ rfl, rfl, rfl⟩ q)
    · exact wpAny_pyIter_ascii ha (pi_one (tk := s1.toks) I1 _ (turn_str _ z t "str_ascii_iterator" (.inl rfl)) ⟨_, Heap.get?_push_size _ rfl, rfl, rfl⟩ q)
/-- the items of data that are walked -/
def itemsD : D → Option (List D)
  | .list ds => some ds
  | .tuple ds => some ds
  | .str z => some (z.cps.toList.map fun c => .str ⟨#[c]⟩)
  | _ => none
theorem walk_list {K : Fg} {F : Hp} {a : Addr} {xs : List V} {ds : List D} (h : SqL K F a xs) (r : RpA K F xs ds) : Walk K F (Itl K a) ds := fun F' H' le sb i => by
  have h' := sb.sqL ((le.sub).sqL h)
  refine ⟨fun d e => ?_, fun hl => ⟨xs, h', by rw [r.length]; exact hl⟩⟩
  obtain ⟨v, e1, p⟩ := r.get e
  refine ⟨⟨xs, v, h', e1⟩, fun y H'' q => .inl ⟨q.1, ?_⟩⟩
  have := q.2 xs h'
  rw [e1] at this; cases this
  exact p.le le
theorem walk_tup {K : Fg} {F : Hp} {a : Addr} {xs : List V} {ds : List D} (h : SqT K F a xs) (r : RpA K F xs ds) : Walk K F (Itt K a) ds := fun F' H' le sb i => by
  have h' := sb.sqT ((le.sub).sqT h)
  refine ⟨fun d e => ?_, fun hl => ⟨xs, h', by rw [r.length]; exact hl⟩⟩
  obtain ⟨v, e1, p⟩ := r.get e
  refine ⟨⟨xs, v, h', e1⟩, fun y H'' q => .inl ⟨q.1, ?_⟩⟩
  have := q.2 xs h'
  rw [e1] at this; cases this
  exact p.le le
theorem walk_str {K : Fg} {F : Hp} (z : Str) : Walk K F (Its z) (z.cps.toList.map fun c => .str ⟨#[c]⟩) := fun F' H' le sb i => by
  refine ⟨fun d e => ?_, fun hl => ?_⟩
  · rw [List.getElem?_map] at e
    cases q : z.cps.toList[i]? with
    | none => rw [q] at e; cases e
    | some c =>
      rw [q] at e; cases e
      have hi : i < z.cps.size := by
        have := (List.getElem?_eq_some_iff.mp q).1
        simpa using this
      refine ⟨hi, fun y H'' qq => .inl ⟨qq.1, ?_⟩⟩
      obtain ⟨c', e', rfl⟩ := qq.2
      rw [← Array.getElem?_toList] at e'
      rw [q] at e'; cases e'
      exact .str _
  · show z.cps.size ≤ i
    simpa using hl
def wItems (we : WE) : WL := fun ρ Q => we ρ fun d ρ' => ∃ ds, itemsD d = some ds ∧ Q ds ρ'
theorem vi_seq (h : VE X e te we) : VI X tg e (iSeq X.K te) (wItems we) := ⟨pi_seq h.p, .of fun pin B F0 F H σ ρ Q R r hw k => h.ok pin B F0 F H σ ρ _ _ r hw fun v H' F' d ρ' le r' p q => by
  obtain ⟨ds, e, q⟩ := q
  cases p <;> cases e
  · exact .inr (.inr ⟨_, rfl, k _ H' F' _ ρ' le r' (walk_str _) q⟩)
  · rename_i a xs hs ra
    exact .inl ⟨a, rfl, ⟨xs, r'.sub.sqL hs⟩, k _ H' F' ds ρ' le r' (walk_list hs ra) q⟩
  · rename_i a xs hs ra
    exact .inr (.inl ⟨a, rfl, ⟨xs, r'.sub.sqT hs⟩, k _ H' F' ds ρ' le r' (walk_tup hs ra) q⟩)⟩
def wRng1 (we : WE) : WL := fun ρ Q => we ρ fun d ρ' => match d with
  | .int n => -(2 ^ 62) ≤ n ∧ n < 2 ^ 62 ∧ Q ((List.range n.toNat).map fun (i : Nat) => .int (i : Int)) ρ'
  | _ => False
theorem walk_rng {K : Fg} {F : Hp} {lo : Int} (n : Nat) : Walk K F (Itr lo n) ((List.range n).map fun (i : Nat) => .int (lo + i)) := fun F' H' le sb i => by
  refine ⟨fun d e => ?_, fun hl => ?_⟩
  · rw [List.getElem?_map] at e
    by_cases hi : i < n
    · rw [List.getElem?_range hi] at e; cases e
      exact ⟨hi, fun y H'' q => .inl ⟨q.1, by rw [q.2]; exact .int _⟩⟩
    · rw [List.getElem?_eq_none (by simpa using hi)] at e; cases e
  · show n ≤ i
    simpa using hl
theorem vi_rng1 (hg : Gl X "range") (hm : X.mg "range" = none) (h : VE X a ta wa) (hs : starEach [a] X.env = [(false, eval a X.env)] := by rfl) : VI X tg (.Call (.Name "range" p) [a] [] pos) (iRng1 (tCons ta tNil)) (wRng1 wa) :=
  ⟨pi_range1 hg hm (pa_cons h.p pa_nil hs) hs, .of fun pin B F0 F H σ ρ Q R r hw k => h.ok pin B F0 F H σ ρ _ _ r hw fun v H' F' d ρ' le r' p q => by
    cases p <;> first | exact False.elim q | skip
    rename_i n
    refine ⟨n, rfl, q.1, q.2.1, k _ H' F' _ ρ' le r' (walk_rng n.toNat) ?_⟩
    have e : ((List.range n.toNat).map fun (i : Nat) => PyData.int (0 + (i : Int))) = (List.range n.toNat).map fun (i : Nat) => .int (i : Int) := by simp
    rw [e]; exact q.2.2⟩
def wRng2 (wa wb : WE) : WL := fun ρ Q => wa ρ fun d ρ1 => wb ρ1 fun d' ρ2 => match d, d' with
  | .int i, .int j => (-(2 ^ 62) ≤ i ∧ i < 2 ^ 62 ∧ -(2 ^ 62) ≤ j ∧ j < 2 ^ 62) ∧ Q ((List.range (j - i).toNat).map fun (k : Nat) => .int (i + k)) ρ2
  | _, _ => False
theorem vi_rng2 (hg : Gl X "range") (hm : X.mg "range" = none) (h : VE X a ta wa) (h2 : VE X b tb wb) (hs : starEach [a, b] X.env = [(false, eval a X.env), (false, eval b X.env)] := by rfl) (hs2 : starEach [b] X.env = [(false, eval b X.env)] := by rfl) :
    VI X tg (.Call (.Name "range" p) [a, b] [] pos) (iRng2 (tCons ta (tCons tb tNil))) (wRng2 wa wb) :=
  ⟨pi_range2 hg hm (pa_cons h.p (pa_cons h2.p pa_nil hs2) (by rw [hs, hs2])) hs hs2, .of fun pin B F0 F H σ ρ Q R r hw k => h.ok pin B F0 F H σ ρ _ _ r hw fun v H' F' d ρ' le r' p q =>
    h2.ok pin B F0 F' H' σ ρ' _ _ r' q fun v2 H2 F2 d2 ρ2 l2 r2 p2 q2 => by
    cases p <;> cases p2 <;> first | exact False.elim q2 | skip
    rename_i i j
    exact ⟨i, j, rfl, q2.1, k _ H2 F2 _ ρ2 (le.trans l2) r2 (walk_rng _) q2.2⟩⟩
/-- zip of two lists or of two tuples -/
def wZip (wa wb : WE) : WL := fun ρ Q => wa ρ fun d ρ1 => wb ρ1 fun d' ρ2 => match d, d' with
  | .list xs, .list ys => Q ((xs.zip ys).map fun p => .tuple [p.1, p.2]) ρ2
  | .tuple xs, .tuple ys => Q ((xs.zip ys).map fun p => .tuple [p.1, p.2]) ρ2
  | _, _ => False
theorem zip_get {ds es : List D} {i : Nat} {d : D} (h : ((ds.zip es).map fun p => PyData.tuple [p.1, p.2])[i]? = some d) : ∃ x y, ds[i]? = some x ∧ es[i]? = some y ∧ d = .tuple [x, y] := by
  rw [List.getElem?_map] at h
  cases q : (ds.zip es)[i]? with
  | none => rw [q] at h; cases h
  | some p =>
    rw [q] at h; cases h
    rw [List.getElem?_zip_eq_some] at q
    exact ⟨p.1, p.2, q.1, q.2, rfl⟩
theorem pair_rp {K : Fg} {F' H' : Hp} {T : Addr} {x y : V} {d d' : D} (sb : Sub F' H') (hT : H' T = none) (p1 : Rp K F' x d) (p2 : Rp K F' y d') : Rp K (upd F' T (.tup [x, y])) (.ref T) (.tuple [d, d']) := by
  have le := le_upd (o := .tup [x, y]) (sb.none hT)
  exact .tup (.inl (.inl upd_same)) (.cons (p1.le le) (.cons (p2.le le) .nil))
theorem walk_zip {K : Fg} {F : Hp} {a b : Addr} {xs ys : List V} {ds es : List D} (h1 : SqL K F a xs) (h2 : SqL K F b ys) (r1 : RpA K F xs ds) (r2 : RpA K F ys es) : Walk K F (Itz K a b) ((ds.zip es).map fun p => .tuple [p.1, p.2]) := fun F' H' le sb i => by
  have g1 := sb.sqL ((le.sub).sqL h1)
  have g2 := sb.sqL ((le.sub).sqL h2)
  refine ⟨fun d e => ?_, fun hl => ⟨xs, ys, g1, g2, ?_⟩⟩
  · obtain ⟨u, v, e1, e2, rfl⟩ := zip_get e
    obtain ⟨u', f1, p1⟩ := r1.get e1
    obtain ⟨v', f2, p2⟩ := r2.get e2
    refine ⟨⟨xs, ys, u', v', g1, g2, f1, f2⟩, fun y H'' q => .inr ?_⟩
    obtain ⟨T, x1, y1, rfl, hT, rfl, c1, c2⟩ := q
    have z1 := c1 xs g1; rw [f1] at z1; cases z1
    have z2 := c2 ys g2; rw [f2] at z2; cases z2
    exact ⟨T, _, hT, rfl, pair_rp sb hT (p1.le le) (p2.le le)⟩
  · rw [r1.length, r2.length]
    simp only [List.length_map, List.length_zip] at hl
    omega
theorem walk_zipT {K : Fg} {F : Hp} {a b : Addr} {xs ys : List V} {ds es : List D} (h1 : SqT K F a xs) (h2 : SqT K F b ys) (r1 : RpA K F xs ds) (r2 : RpA K F ys es) : Walk K F (RZ.ItzT K a b) ((ds.zip es).map fun p => .tuple [p.1, p.2]) := fun F' H' le sb i => by
  have g1 := sb.sqT ((le.sub).sqT h1)
  have g2 := sb.sqT ((le.sub).sqT h2)
  refine ⟨fun d e => ?_, fun hl => ⟨xs, ys, g1, g2, ?_⟩⟩
  · obtain ⟨u, v, e1, e2, rfl⟩ := zip_get e
    obtain ⟨u', f1, p1⟩ := r1.get e1
    obtain ⟨v', f2, p2⟩ := r2.get e2
    refine ⟨⟨xs, ys, u', v', g1, g2, f1, f2⟩, fun y H'' q => .inr ?_⟩
    obtain ⟨T, x1, y1, rfl, hT, rfl, c1, c2⟩ := q
    have z1 := c1 xs g1; rw [f1] at z1; cases z1
    have z2 := c2 ys g2; rw [f2] at z2; cases z2
    exact ⟨T, _, hT, rfl, pair_rp sb hT (p1.le le) (p2.le le)⟩
  · rw [r1.length, r2.length]
    simp only [List.length_map, List.length_zip] at hl
    omega
theorem vi_zip {tpos : Pos} {elts : List Expr} {kk : Nat} (hg : Gl X "zip") (hm : X.mg "zip" = none) (h : VE X a ta wa) (h2 : VE X b tb wb) (hs2 : starEach [b] X.env = [(false, eval b X.env)] := by rfl)
    (hs : starEach [a, b] X.env = (false, eval a X.env) :: starEach [b] X.env := by rfl) (hpl : (backTo pos (starEach [b] X.env)).any (·.1) = false := by rfl) :
    VI X (.Tuple elts kk tpos) (.Call (.Name "zip" p) [a, b] [] pos) (RZ.iZipA X.K (tCons ta (tCons tb tNil))) (wZip wa wb) :=
  ⟨RZ.pi_zipA hg hm (pa_cons h.p (pa_cons h2.p pa_nil hs2) hs) hs hpl, .of fun pin B F0 F H σ ρ Q R r hw k => h.ok pin B F0 F H σ ρ _ _ r hw fun v H' F' d ρ' le r' p q =>
    h2.ok pin B F0 F' H' σ ρ' _ _ r' q fun v2 H2 F2 d2 ρ2 l2 r2 p2 q2 => by
    have p1 := p.le l2
    cases p1 <;> cases p2 <;> first | exact False.elim q2 | skip
    · rename_i a xs ds h1 c1 b ys es h2 c2
      exact ⟨a, b, xs, ys, rfl, .inl ⟨r2.sub.sqL h1, r2.sub.sqL h2, k _ H2 F2 _ ρ2 (le.trans l2) r2 (walk_zip h1 h2 c1 c2) q2⟩⟩
    · rename_i a xs ds h1 c1 b ys es h2 c2
      exact ⟨a, b, xs, ys, rfl, .inr ⟨r2.sub.sqT h1, r2.sub.sqT h2, k _ H2 F2 _ ρ2 (le.trans l2) r2 (walk_zipT h1 h2 c1 c2) q2⟩⟩⟩
/-! ### dicts -/
def tLk (td : TE) : TE := fun σ H Q => td σ H fun x H1 => ∃ d kvs, x = .ref d ∧ ((H1 d = some (.dK kvs) ∧ ∀ o, Q x (upd H1 d (.frz o (.dK kvs)))) ∨ ∃ o, H1 d = some (.frz o (.dK kvs)) ∧ Q x H1)
theorem pe_lk (he : PE X e te) : PE X e (tLk te) := by
  refine ⟨fun pins s σ H Q I h => ?_⟩
  refine thn (he.run pins s σ H _ I h) fun u s1 ⟨y, H1, I1, r1, d, kvs, ey, q⟩ => ?_
  rcases q with ⟨hd, q⟩ | ⟨o, hd, q⟩
  · obtain ⟨od, I2⟩ := I1.lock hd trivial
    exact ⟨y, _, I2, r1, q od⟩
  · exact ⟨y, H1, I1, r1, q⟩
theorem upd_id {H : Hp} {a : Addr} {o : HO} (h : H a = some o) : upd H a o = H := by
  funext x
  by_cases z : x = a
  · subst z; rw [upd_same, h]
  · rw [upd_ne z]
/-- a known dict is locked and walked -/
theorem lk_ok {K : Fg} {pin : Nat → Addr → Prop} {B F0 F H : Hp} {σ : L2.St} {ρ : En} {v : V} {kv : List (D × D)} {R : V → Hp → Prop} (r : RE K pin B F0 F H σ ρ) (p : Rp K F v (.dict kv))
    (k : ∀ a o kvs ds B1 F01 H1, v = .ref a → kv = (kvs.map fun (p : Key × V) => kD p.1).zip ds → RpA K F (kvs.map (·.2)) ds → H1 a = some (.frz o (.dK kvs)) → B1 a = some (.frz o (.dK kvs)) → Ext K pin B F0 B1 F01 F → RE K pin B1 F01 F H1 σ ρ → R v H1) :
    ∃ d kvs, v = .ref d ∧ ((H d = some (.dK kvs) ∧ ∀ o, R v (upd H d (.frz o (.dK kvs)))) ∨ ∃ o, H d = some (.frz o (.dK kvs)) ∧ R v H) := by
  generalize ez : PyData.dict kv = z at p
  cases p <;> cases ez
  rename_i a kvs ds hrd ra
  rcases r.sub a _ hrd with hH | ⟨o, hH⟩
  · refine ⟨a, kvs, rfl, .inl ⟨hH, fun o => ?_⟩⟩
    obtain ⟨rl, ex⟩ := r.lock (o := o) hrd (.inl hH)
    exact k a o kvs ds _ _ _ rfl rfl ra upd_same upd_same ex rl
  · refine ⟨a, kvs, rfl, .inr ⟨o, hH, ?_⟩⟩
    obtain ⟨rl, ex⟩ := r.lock (o := o) hrd (.inr hH)
    rw [upd_id hH] at rl
    exact k a o kvs ds _ _ _ rfl rfl ra hH upd_same ex rl
theorem kept_lock {B F H : Hp} {a : Addr} {o : Obj} {kvs : List (Key × V)} (k : Kp B F H) (h : B a = some (.frz o (.dK kvs))) : H a = some (.frz o (.dK kvs)) := by
  rcases k a _ h with z | ⟨_, _, _, z, _⟩
  · exact z
  · cases z
theorem rp_kV {K : Fg} {F : Hp} (k : Key) : Rp K F (kV k) (kD k) := by
  cases k with
  | inl i => exact .int i
  | inr x => exact .str x
theorem walk_keysB {K : Fg} {B F : Hp} {a : Addr} {o : Obj} {kvs : List (Key × V)} (h : B a = some (.frz o (.dK kvs))) : WalkB K B F (Itk a o kvs) (kvs.map fun p => kD p.1) := fun F' H' le sb kp i => by
  have hh := kept_lock kp h
  refine ⟨fun d e => ?_, fun hl => ⟨hh, by simpa using hl⟩⟩
  rw [List.getElem?_map] at e
  cases q : kvs[i]? with
  | none => rw [q] at e; cases e
  | some x =>
    rw [q] at e; cases e
    refine ⟨⟨hh, (List.getElem?_eq_some_iff.mp q).1⟩, fun y H'' z => .inl ⟨z.1, ?_⟩⟩
    obtain ⟨_, k, v, z1, rfl⟩ := z
    rw [q] at z1; cases z1
    exact rp_kV k
theorem walk_itemsB {K : Fg} {B F : Hp} {a : Addr} {o : Obj} {kvs : List (Key × V)} {ds : List D} (h : B a = some (.frz o (.dK kvs))) (ra : RpA K F (kvs.map (·.2)) ds) : WalkB K B F (Iti a o kvs) (((kvs.map fun p => kD p.1).zip ds).map fun p => .tuple [p.1, p.2]) := fun F' H' le sb kp i => by
  have hh := kept_lock kp h
  have hl0 : ds.length = kvs.length := by have := ra.length; simpa using this.symm
  refine ⟨fun d e => ?_, fun hl => ⟨hh, by simp [hl0] at hl; exact hl⟩⟩
  rw [List.getElem?_map] at e
  cases q : kvs[i]? with
  | none =>
    have : ((kvs.map fun p => kD p.1).zip ds)[i]? = none := by
      rw [List.getElem?_eq_none_iff] at q ⊢
      simp [hl0]; exact q
    rw [this] at e; cases e
  | some x =>
    obtain ⟨dv, e2, p2⟩ := ra.getV (i := i) (v := x.2) (by rw [List.getElem?_map, q]; rfl)
    have : ((kvs.map fun p => kD p.1).zip ds)[i]? = some (kD x.1, dv) := by
      rw [List.getElem?_zip_eq_some]
      exact ⟨by rw [List.getElem?_map, q]; rfl, e2⟩
    rw [this] at e; cases e
    refine ⟨⟨hh, (List.getElem?_eq_some_iff.mp q).1⟩, fun y H'' z => ?_⟩
    obtain ⟨T, k, v, z1, rfl, hT, rfl⟩ := z
    rw [q] at z1; cases z1
    have l2 : Le F' (upd F' T (.tup [kV k, v])) := le_upd (sb.none hT)
    exact .inr ⟨T, _, hT, rfl, .tup (.inl (.inl upd_same)) (.cons (rp_kV k) (.cons (p2.le (le.trans l2)) .nil))⟩
theorem zip_keysL {kvs : List (Key × V)} {ds : List D} (h : ds.length = kvs.length) : (((kvs.map fun p => kD p.1).zip ds).map (·.1)) = kvs.map fun p => kD p.1 := by
  rw [List.map_fst_zip]
  simp [h]
def wKeys (we : WE) : WL := fun ρ Q => we ρ fun d ρ1 => match d with
  | .dict kv => Q (kv.map (·.1)) ρ1
  | _ => False
def wItemsK (we : WE) : WL := fun ρ Q => we ρ fun d ρ1 => match d with
  | .dict kv => Q (kv.map fun p => .tuple [p.1, p.2]) ρ1
  | _ => False
theorem vi_keys (h : VE X e te we) : VI X tg e (iKeys (tLk te)) (wKeys we) := ⟨pi_keys (pe_lk h.p), fun pin B F0 F H σ ρ Q R r hw k => h.ok pin B F0 F H σ ρ _ _ r hw fun v H' F' d ρ' le r' p q => by
  split at q <;> first | exact False.elim q | skip
  rename_i kv
  refine lk_ok (R := fun x H1 => ∃ d o, x = .ref d ∧ ((∃ kvs, H1 d = some (.frz o (.dK kvs)) ∧ R (Itk d o kvs) H1) ∨ ∃ kvs, H1 d = some (.frz o (.dT kvs)) ∧ R (Itkt d o kvs) H1)) r' p ?_
  intro a o kvs ds B1 F01 H1 e1 e2 ra h1 hB ex r1
  refine ⟨a, o, e1, .inl ⟨kvs, h1, k _ B1 F01 H1 F' _ ρ' le ex r1 (walk_keysB hB) ?_⟩⟩
  rw [e2, zip_keysL (by have := ra.length; simpa using this.symm)] at q
  exact q⟩
theorem vi_items {elts : List Expr} {kk : Nat} {tpos : Pos} (h : VE X e te we) (hbase : attributeBase e "items" X.env (eval e X.env) = eval e X.env := by rfl) (hline : (apos.endLine == cpos.line) = true := by rfl) :
    VI X (.Tuple elts kk tpos) (.Call (.Attribute e "items" apos) [] [] cpos) (iItems (tLk te)) (wItemsK we) := ⟨pi_items (pe_lk h.p) hbase hline, fun pin B F0 F H σ ρ Q R r hw k => h.ok pin B F0 F H σ ρ _ _ r hw fun v H' F' d ρ' le r' p q => by
  split at q <;> first | exact False.elim q | skip
  rename_i kv
  refine lk_ok (R := fun x H1 => ∃ d o kvs, x = .ref d ∧ H1 d = some (.frz o (.dK kvs)) ∧ R (Iti d o kvs) H1) r' p ?_
  intro a o kvs ds B1 F01 H1 e1 e2 ra h1 hB ex r1
  refine ⟨a, o, kvs, e1, h1, k _ B1 F01 H1 F' _ ρ' le ex r1 (walk_itemsB hB ra) ?_⟩
  rw [e2] at q
  exact q⟩
/-! ### for -/
def wForL (bd : WB) (wb : WS) (E : VD) : List D → En → Prop
  | [], ρ => E.nx ρ
  | d :: ds, ρ => bd d ρ fun ρ' => wb ⟨fun ρ2 => wForL bd wb E ds ρ2, E.rt, E.nx, fun ρ2 => wForL bd wb E ds ρ2⟩ ρ'
def wFor (wi : WL) (bd : WB) (wb : WS) : WS := fun D ρ => wi ρ fun ds ρ' => wForL bd wb D ds ρ'
theorem VSok.for {K : Fg} {ti : TI} {wi : WL} {g : TG} {bd : WB} {js : List Nat} {tb : TS} {wb : WS} (hi : VIok K ti wi) (hg : VGok K g bd js) (hb : VSok K tb wb) : VSok K (tFor ti g tb) (wFor wi bd wb) := by
  intro pin B F0 F H σ ρ D E r hw ke
  refine hi pin B F0 F H σ ρ _ _ r hw fun J B1 F01 H1 F1 ds ρ1 l1 ex r1 wk q1 => ?_
  refine ⟨fun i m σ' H' => ∃ F' ρ', Le F1 F' ∧ RE K pin B1 F01 F' H' σ' ρ' ∧ wForL bd wb D (ds.drop i) ρ' ∧ i + m = ds.length, ⟨ds.length, F1, ρ1, Le.refl _, r1, by simpa using q1, by omega⟩, ?_⟩
  rintro i m σ' H' ⟨F', ρ', l2, r2, q2, em⟩
  obtain ⟨w1, w2⟩ := wk F' H' l2 r2.sub r2.keep i
  by_cases hlt : i < ds.length
  · obtain ⟨go, yl⟩ := w1 ds[i] (List.getElem?_eq_getElem hlt)
    rw [List.drop_eq_getElem_cons hlt] at q2
    refine .inr ⟨go, fun σ2 H2 => ∃ F2 ρ2, Le F1 F2 ∧ RE K pin B1 F01 F2 H2 σ2 ρ2 ∧ wForL bd wb D (ds.drop (i + 1)) ρ2, fun σ2 H2 ⟨F2, ρ2, a, b, c⟩ => ⟨m - 1, by omega, F2, ρ2, a, b, c, by omega⟩, fun y H2 hy => ?_⟩
    have fin : ∀ F2, Le F' F2 → RE K pin B1 F01 F2 H2 σ' ρ' → Rp K F2 y ds[i] → g y σ' H2 fun σ2 H3 => tb { nx := fun σ2 H2 => ∃ F2 ρ2, Le F1 F2 ∧ RE K pin B1 F01 F2 H2 σ2 ρ2 ∧ wForL bd wb D (ds.drop (i + 1)) ρ2, rt := E.rt, bk := E.nx, ct := fun σ2 H2 => ∃ F2 ρ2, Le F1 F2 ∧ RE K pin B1 F01 F2 H2 σ2 ρ2 ∧ wForL bd wb D (ds.drop (i + 1)) ρ2 } σ2 H3 := fun F2 l3 r3 p3 => by
      refine hg pin B1 F01 F2 H2 σ' ρ' y ds[i] _ _ r3 p3 q2 fun σ4 ρ4 r4 _ q4 => hb pin B1 F01 F2 H2 σ4 ρ4 _ _ r4 q4 ?_
      exact ⟨fun σ5 H5 F5 ρ5 l5 r5 q5 => ⟨F5, ρ5, (l2.trans l3).trans l5, r5, q5⟩, fun v rr σ5 H5 F5 ρ5 l5 r5 ro5 => ke.rt v rr σ5 H5 F5 ρ5 (((l1.trans l2).trans l3).trans l5) (ex.back ((l2.trans l3).trans l5) r5) (ex.ret ro5), fun σ5 H5 F5 ρ5 l5 r5 => ke.nx σ5 H5 F5 ρ5 (((l1.trans l2).trans l3).trans l5) (ex.back ((l2.trans l3).trans l5) r5), fun σ5 H5 F5 ρ5 l5 r5 q5 => ⟨F5, ρ5, (l2.trans l3).trans l5, r5, q5⟩⟩
    rcases yl y H2 hy with ⟨e, p⟩ | ⟨T, o, hT, e, p⟩
    · subst e; exact fin F' (Le.refl _) r2 p
    · subst e; exact fin _ (le_upd (r2.fnone hT)) (r2.alloc hT) p
  · refine .inl ⟨w2 (by omega), ?_⟩
    rw [List.drop_eq_nil_of_le (by omega)] at q2
    exact ke.nx σ' H' F' ρ' (l1.trans l2) (ex.back l2 r2) q2
theorem vs_for {ti : TI} {wi : WL} {g : TG} {bd : WB} {js : List Nat} {tb : TS} {wb : WS} {iter : Expr} {body : List Stmt} (hp : PassesOwn (model X.prog X.w) X.A X.env X.xe) (hc : X.calm = true) (hi : VI X tg iter ti wi) (hg : VG X tg g bd js) (hb : VSs X body tb wb)
    (hs : ∀ x, foldedSetIterable iter X.env x = pure x := by intro _; rfl) : VS X (.For tg iter body [] pos) (tFor ti g tb) (wFor wi bd wb) := ⟨ps_for hp hc hi.p hg.p hb.p hs, .for hi.ok hg.ok hb.ok⟩
end
end G

namespace G
open PySem PySem.Spec PyProof.Rows L2
/-! ### a comprehension's own names -/
def wipeE (ρ : En) : List Nat → En
  | [] => ρ
  | v :: vs => (wipeE ρ vs).set v .no
def backE (ρ1 : En) : List Nat → En → En
  | [], ρ => ρ
  | v :: vs, ρ => (backE ρ1 vs ρ).set v (ρ1.getD v .no)
theorem wipeE_length (ρ : En) : ∀ vs : List Nat, (wipeE ρ vs).length = ρ.length
  | [] => rfl
  | v :: vs => by unfold wipeE; rw [List.length_set, wipeE_length ρ vs]
theorem wipeE_in {ρ : En} {i : Nat} : ∀ {vs : List Nat}, i ∈ vs → ∀ s, (wipeE ρ vs)[i]? = some s → s = .no
  | v :: vs, h, s, e => by
    unfold wipeE at e
    by_cases hv : v = i
    · subst hv
      have lt : v < (wipeE ρ vs).length := by
        have := (List.getElem?_eq_some_iff.mp e).1
        rwa [List.length_set] at this
      rw [List.getElem?_set_self lt] at e; cases e; rfl
    · rw [List.getElem?_set_ne hv] at e
      exact wipeE_in ((List.mem_cons.mp h).resolve_left fun z => hv z.symm) s e
theorem wipeE_out {ρ : En} {i : Nat} : ∀ {vs : List Nat}, i ∉ vs → (wipeE ρ vs)[i]? = ρ[i]?
  | [], _ => rfl
  | v :: vs, h => by
    unfold wipeE
    simp only [List.mem_cons, not_or] at h
    rw [List.getElem?_set_ne (Ne.symm h.1), wipeE_out h.2]
theorem wipe_in {σ : L2.St} {i : Nat} : ∀ {vs : List Nat}, i ∈ vs → i < σ.length → (wipe σ vs)[i]? = some none
  | v :: vs, h, hl => by
    unfold wipe
    by_cases hv : v = i
    · subst hv
      rw [List.getElem?_set_self (by rw [wipe_length]; exact hl)]
    · rw [List.getElem?_set_ne hv]
      exact wipe_in ((List.mem_cons.mp h).resolve_left fun z => hv z.symm) hl
theorem wipe_out {σ : L2.St} {i : Nat} : ∀ {vs : List Nat}, i ∉ vs → (wipe σ vs)[i]? = σ[i]?
  | [], _ => rfl
  | v :: vs, h => by
    unfold wipe
    simp only [List.mem_cons, not_or] at h
    rw [List.getElem?_set_ne (Ne.symm h.1), wipe_out h.2]
theorem wipe_eq {σ σ' : L2.St} {vs : List Nat} (hl : σ'.length = σ.length) (h : ∀ j, j ∉ vs → σ'[j]? = σ[j]?) : wipe σ' vs = wipe σ vs := by
  refine List.ext_getElem? fun i => ?_
  by_cases hi : i ∈ vs
  · by_cases hj : i < σ.length
    · rw [wipe_in hi hj, wipe_in hi (by rw [hl]; exact hj)]
    · rw [List.getElem?_eq_none (by rw [wipe_length]; omega), List.getElem?_eq_none (by rw [wipe_length]; omega)]
  · rw [wipe_out hi, wipe_out hi, h i hi]
theorem backE_length (ρ1 : En) (ρ : En) : ∀ vs : List Nat, (backE ρ1 vs ρ).length = ρ.length
  | [] => rfl
  | v :: vs => by unfold backE; rw [List.length_set, backE_length ρ1 ρ vs]
theorem backE_in {ρ1 ρ : En} {i : Nat} : ∀ {vs : List Nat}, i ∈ vs → ∀ s, (backE ρ1 vs ρ)[i]? = some s → s = ρ1.getD i .no
  | v :: vs, h, s, e => by
    unfold backE at e
    by_cases hv : v = i
    · subst hv
      have lt : v < (backE ρ1 vs ρ).length := by
        have := (List.getElem?_eq_some_iff.mp e).1
        rwa [List.length_set] at this
      rw [List.getElem?_set_self lt] at e; cases e; rfl
    · rw [List.getElem?_set_ne hv] at e
      exact backE_in ((List.mem_cons.mp h).resolve_left fun z => hv z.symm) s e
theorem backE_out {ρ1 ρ : En} {i : Nat} : ∀ {vs : List Nat}, i ∉ vs → (backE ρ1 vs ρ)[i]? = ρ[i]?
  | [], _ => rfl
  | v :: vs, h => by
    unfold backE
    simp only [List.mem_cons, not_or] at h
    rw [List.getElem?_set_ne (Ne.symm h.1), backE_out h.2]
section
variable {K : Fg} {pin : Nat → Addr → Prop} {B F0 F F' H H' : Hp} {σ σ2 : L2.St} {ρ ρ1 : En} {vs : List Nat} {p : Addr} {o : HO}
theorem RE.wipe (r : RE K pin B F0 F H σ ρ) (vs : List Nat) : RE K pin B F0 F H (wipe σ vs) (wipeE ρ vs) where
  len := by rw [wipeE_length, wipe_length, r.len]
  keep := r.keep
  sub := r.sub
  new := r.new
  sl := fun i s e => by
    by_cases hi : i ∈ vs
    · have hl : i < σ.length := by
        have := (List.getElem?_eq_some_iff.mp e).1
        rwa [wipeE_length, r.len] at this
      rw [wipeE_in hi s e]
      exact ⟨none, wipe_in hi hl, trivial⟩
    · rw [wipeE_out hi] at e
      rw [wipe_out hi]
      exact r.sl i s e
  ap := fun i j a h1 h2 => by
    have aux : ∀ i, Own (L2.wipe σ vs) (wipeE ρ vs) i a → Own σ ρ i a := fun i ⟨⟨b, c, e⟩, e2⟩ => by
      by_cases hi : i ∈ vs
      · have := wipeE_in hi _ e; cases this
      · rw [wipeE_out hi] at e; rw [wipe_out hi] at e2
        exact ⟨⟨b, c, e⟩, e2⟩
    exact r.ap i j a (aux i h1) (aux j h2)
theorem Loose.wipe (l : Loose B F H σ ρ p o) (vs : List Nat) : Loose B F H (L2.wipe σ vs) (wipeE ρ vs) p o := ⟨l.f, l.b, l.h, fun i ⟨⟨b, c, e⟩, e2⟩ => by
  by_cases hi : i ∈ vs
  · have := wipeE_in hi _ e; cases this
  · rw [wipeE_out hi] at e; rw [wipe_out hi] at e2
    exact l.ap i ⟨⟨b, c, e⟩, e2⟩⟩
/-- none of these slots owns a thing -/
def NoOwn (ρ : En) (vs : List Nat) : Prop := ∀ v ∈ vs, ∀ b c, ρ[v]? ≠ some (.o b c)
theorem RE.back (r0 : RE K pin B F0 F H σ ρ1) (le : Le F F') (no : NoOwn ρ1 vs) (r : RE K pin B F0 F' H' (L2.wipe σ vs) ρ) : RE K pin B F0 F' H' σ (backE ρ1 vs ρ) where
  len := by rw [backE_length, r.len, wipe_length]
  keep := r.keep
  sub := r.sub
  new := r.new
  sl := fun i s e => by
    by_cases hi : i ∈ vs
    · rw [backE_in hi s e]
      have hl : i < ρ1.length := by
        have := (List.getElem?_eq_some_iff.mp e).1
        rwa [backE_length, r.len, wipe_length, ← r0.len] at this
      have e1 : ρ1[i]? = some (ρ1.getD i .no) := by rw [List.getD_eq_getElem?_getD, List.getElem?_eq_getElem hl]; rfl
      obtain ⟨ov, e2, h⟩ := r0.sl i _ e1
      refine ⟨ov, e2, ?_⟩
      cases q : ρ1.getD i .no with
      | no => trivial
      | d x => rw [q] at h; obtain ⟨v, e3, h3⟩ := h; exact ⟨v, e3, h3.le le⟩
      | o b c => exact absurd (by rw [e1, q]) (no i hi b c)
    · rw [backE_out hi] at e
      obtain ⟨ov, e2, h⟩ := r.sl i s e
      rw [wipe_out hi] at e2
      exact ⟨ov, e2, h⟩
  ap := fun i j a h1 h2 => by
    have aux : ∀ i, Own σ (backE ρ1 vs ρ) i a → Own (L2.wipe σ vs) ρ i a := fun i ⟨⟨b, c, e⟩, e2⟩ => by
      by_cases hi : i ∈ vs
      · have e3 := backE_in hi _ e
        have hl : i < ρ1.length := by
          have := (List.getElem?_eq_some_iff.mp e).1
          rwa [backE_length, r.len, wipe_length, ← r0.len] at this
        have e1 : ρ1[i]? = some (ρ1.getD i .no) := by rw [List.getD_eq_getElem?_getD, List.getElem?_eq_getElem hl]; rfl
        exact absurd (by rw [e1, ← e3]) (no i hi b c)
      · rw [backE_out hi] at e
        exact ⟨⟨b, c, e⟩, by rw [wipe_out hi]; exact e2⟩
    exact r.ap i j a (aux i h1) (aux j h2)
theorem Loose.back (r : RE K pin B F0 F H (L2.wipe σ vs) ρ) (no : NoOwn ρ1 vs) (hl : ρ1.length = σ.length) (l : Loose B F H (L2.wipe σ vs) ρ p o) : Loose B F H σ (backE ρ1 vs ρ) p o := ⟨l.f, l.b, l.h, fun i ⟨⟨b, c, e⟩, e2⟩ => by
  by_cases hi : i ∈ vs
  · have e3 := backE_in hi _ e
    have hl : i < ρ1.length := by
      have := (List.getElem?_eq_some_iff.mp e).1
      rw [backE_length, r.len, wipe_length] at this
      omega
    have e1 : ρ1[i]? = some (ρ1.getD i .no) := by rw [List.getD_eq_getElem?_getD, List.getElem?_eq_getElem hl]; rfl
    exact absurd (by rw [e1, ← e3]) (no i hi b c)
  · rw [backE_out hi] at e
    exact l.ap i ⟨⟨b, c, e⟩, by rw [wipe_out hi]; exact e2⟩⟩
/-- a loose object changes -/
theorem RE.poke (r : RE K pin B F0 F H σ ρ) (l : Loose B F H σ ρ p o) (o' : HO) : RE K pin B F0 F (upd H p o') σ ρ ∧ Loose B F (upd H p o') σ ρ p o' := by
  refine ⟨⟨r.len, r.keep.poke l.b, fun a u e => ?_, r.new, fun i s e => ?_, r.ap⟩, l.f, l.b, upd_same, l.ap⟩
  · have h : a ≠ p := fun z => absurd l.f (z ▸ rd_ne e)
    rcases r.sub a u e with q | ⟨x, q⟩
    · exact .inl (by rw [upd_ne h]; exact q)
    · exact .inr ⟨x, by rw [upd_ne h]; exact q⟩
  · obtain ⟨ov, e1, h⟩ := r.sl i s e
    refine ⟨ov, e1, ?_⟩
    cases s with
    | no => trivial
    | d x => exact h
    | o b c =>
      obtain ⟨a, ho, e2, hp', h1, h2, h3, h4⟩ := h
      have na : a ≠ p := fun z => l.ap i ⟨⟨b, c, e⟩, by rw [e1, e2, z]⟩
      exact ⟨a, ho, e2, hp', h1, h2, by rw [upd_ne na]; exact h3, h4⟩
end
/-! ### tests of a comprehension -/
structure VTs (X : Cx) (ifs : List Expr) (t : TT) (w : WT) : Prop where
  p : PTs X ifs t
  ok : VTok X.K t w
def wYes : WT := fun ρ Q => Q true ρ
section
variable {X : Cx}
theorem vts_nil : VTs X [] tYes wYes := ⟨pts_nil, fun pin B F0 F H σ ρ Q R r hw k => k true H F ρ (Le.refl F) r hw⟩
theorem vts_one {c : Expr} {t : TT} {w : WT} (h : VT X c t w) (hp : PTs X [c] t) : VTs X [c] t w := ⟨hp, h.ok⟩
/-! ### list comprehensions -/
def compL (own : List Nat) (bd : WB) (wt : WT) (we : WE) : List D → List D → En → (List D → En → Prop) → Prop
  | [], acc, ρ, k => k acc ρ
  | d :: ds, acc, ρ, k => bd d ρ fun ρ1 => wt ρ1 fun b ρ2 => if b = true then we ρ2 fun y ρ3 => compL own bd wt we ds (acc ++ [y]) (wipeE ρ3 own) k else compL own bd wt we ds acc (wipeE ρ2 own) k
def wLc (own : List Nat) (wi : WL) (bd : WB) (wt : WT) (we : WE) : WF := fun ρ Q => wi ρ fun ds ρ1 => NoOwn ρ1 own ∧ ds.length ≤ sizeLine ∧ compL own bd wt we ds [] (wipeE ρ1 own) fun acc ρ2 => Q (.l acc) (backE ρ1 own ρ2)
theorem VFok.lc {K : Fg} {ti : TI} {wi : WL} {g : TG} {bd : WB} {js own : List Nat} {tt : TT} {wt : WT} {te : TE} {we : WE} (hi : VIok K ti wi) (hg : VGok K g bd js) (hj : ∀ j ∈ js, j ∈ own) (ht : VTok K tt wt) (he : VEok K te we) : VFok K (tLc ti g tt te own) (wLc own wi bd wt we) := by
  intro pin B F0 F H σ ρ Q R r hw k
  refine hi pin B F0 F H σ ρ _ _ r hw fun J B1 F01 H1 F1 ds ρ1 l1 ex r1 wk q1 => fun p hp => ?_
  obtain ⟨no, hz, q1⟩ := q1
  have r1' := (r1.lay (o := .lst []) hp).wipe own
  have lo1 := (r1.lays (o := .lst []) hp).wipe own
  refine ⟨fun i m H' => ∃ F' ρ' accV acc, Le F1 F' ∧ RE K pin B1 F01 F' H' (L2.wipe σ own) ρ' ∧ Loose B1 F' H' (L2.wipe σ own) ρ' p (.lst accV) ∧ RpA K F' accV acc ∧ acc.length ≤ i ∧ i + m = ds.length ∧
    compL own bd wt we (ds.drop i) acc ρ' (fun acc ρ2 => Q (.l acc) (backE ρ1 own ρ2)), ⟨ds.length, F1, _, [], [], Le.refl _, r1', lo1, .nil, Nat.le_refl _, by omega, by simpa using q1⟩, ?_⟩
  rintro i m H' ⟨F', ρ', accV, acc, l2, r2, lo, ra, hacc, em, q2⟩
  obtain ⟨w1, w2⟩ := wk F' H' l2 r2.sub r2.keep i
  by_cases hlt : i < ds.length
  · obtain ⟨go, yl⟩ := w1 ds[i] (List.getElem?_eq_getElem hlt)
    rw [List.drop_eq_getElem_cons hlt] at q2
    refine .inr ⟨go, fun H2 => ∃ F2 ρ2 accV acc, Le F1 F2 ∧ RE K pin B1 F01 F2 H2 (L2.wipe σ own) ρ2 ∧ Loose B1 F2 H2 (L2.wipe σ own) ρ2 p (.lst accV) ∧ RpA K F2 accV acc ∧ acc.length ≤ i + 1 ∧
      compL own bd wt we (ds.drop (i + 1)) acc ρ2 (fun acc ρ2 => Q (.l acc) (backE ρ1 own ρ2)), fun H2 ⟨F2, ρ2, accV, acc, a, b, c, d, e, f⟩ => ⟨m - 1, by omega, F2, ρ2, accV, acc, a, b, c, d, e, by omega, f⟩, fun y H2 hy => ?_⟩
    have rh := r2.hide lo
    have fin : ∀ F2, Le F' F2 → RE K pin (upd B1 p (.lst accV)) F' F2 H2 (L2.wipe σ own) ρ' → Rp K F2 y ds[i] → _ := fun F2 l3 r3 p3 =>
      hg pin (upd B1 p (.lst accV)) F' F2 H2 (L2.wipe σ own) ρ' y ds[i] _ (fun σ2 H2 => L2.wipe σ2 own = L2.wipe σ own ∧ tt σ2 H2 fun b H3 =>
        if b = true then te σ2 H3 fun y H4 => ∃ acc, H4 p = some (.lst acc) ∧ acc.length < sizeLine ∧ (fun H2 => ∃ F2 ρ2 accV acc, Le F1 F2 ∧ RE K pin B1 F01 F2 H2 (L2.wipe σ own) ρ2 ∧ Loose B1 F2 H2 (L2.wipe σ own) ρ2 p (.lst accV) ∧ RpA K F2 accV acc ∧ acc.length ≤ i + 1 ∧
          compL own bd wt we (ds.drop (i + 1)) acc ρ2 (fun acc ρ2 => Q (.l acc) (backE ρ1 own ρ2))) (upd H4 p (.lst (acc ++ [y])))
        else (fun H2 => ∃ F2 ρ2 accV acc, Le F1 F2 ∧ RE K pin B1 F01 F2 H2 (L2.wipe σ own) ρ2 ∧ Loose B1 F2 H2 (L2.wipe σ own) ρ2 p (.lst accV) ∧ RpA K F2 accV acc ∧ acc.length ≤ i + 1 ∧
          compL own bd wt we (ds.drop (i + 1)) acc ρ2 (fun acc ρ2 => Q (.l acc) (backE ρ1 own ρ2))) H3) r3 p3 q2 fun σ4 ρ4 r4 kp q4 => by
      have ew : L2.wipe σ4 own = L2.wipe σ own := by
        rw [wipe_eq kp.1 (fun j hj' => kp.2 j fun z => hj' (hj j z))]
        exact wipe_eq (wipe_length ..) fun j hj' => wipe_out hj'
      refine ⟨ew, ht pin _ F' F2 H2 σ4 ρ4 _ _ r4 q4 fun b H5 F5 ρ5 l5 r5 q5 => ite_both q5 (fun q5 => ?_) fun q5 => ?_⟩
      · refine he pin _ F' F5 H5 σ4 ρ5 _ _ r5 q5 fun z H6 F6 dz ρ6 l6 r6 p6 q6 => ?_
        obtain ⟨s1, s2⟩ := r2.show lo r6
        have hl : accV.length = acc.length := ra.length
        refine ⟨accV, s2.h, by omega, ?_⟩
        obtain ⟨s3, s4⟩ := s1.poke s2 (.lst (accV ++ [z]))
        have s5 := s3.wipe own
        have s6 := s4.wipe own
        rw [ew] at s5 s6
        exact ⟨F6, _, _, acc ++ [dz], l2.trans (l3.trans (l5.trans l6)), s5, s6, (ra.le (l3.trans (l5.trans l6))).append (.cons p6 .nil), by simp; omega, q6⟩
      · obtain ⟨s1, s2⟩ := r2.show lo r5
        have s5 := s1.wipe own
        have s6 := s2.wipe own
        rw [ew] at s5 s6
        exact ⟨F5, _, _, acc, l2.trans (l3.trans l5), s5, s6, ra.le (l3.trans l5), by omega, q5⟩
    rcases yl y H2 hy with ⟨e, pp⟩ | ⟨T, o, hT, e, pp⟩
    · subst e; exact fin F' (Le.refl _) rh pp
    · subst e; exact fin _ (le_upd (r2.fnone hT)) (rh.alloc hT) pp
  · refine .inl ⟨w2 (by omega), ?_⟩
    rw [List.drop_eq_nil_of_le (by omega)] at q2
    exact k p (.lst accV) H' F' (.l acc) _ (l1.trans l2) (ex.back l2 (r1.back l2 no r2)) (ex.loose (lo.back r2 no r1.len)) ra q2
theorem vf_lc {elt tg iter : Expr} {ifs : List Expr} {scope : Scope} {own : List (Str × Nat)} {js : List Nat} {pos : Pos} {ti : TI} {wi : WL} {g : TG} {bd : WB} {tt : TT} {wt : WT} {te : TE} {we : WE} (hc : X.calm = true) (hN : X.N.Nodup) (hi : VI X tg iter ti wi) (ok : BlkOk X.N X.env.scope scope own)
    (hg : ∀ (s : Shared) (H : Hp) (C : Addr) (cl : List (Str × Addr)) (fp : List Addr), VG (X.blk s H scope (compEnvC scope cl C X.env) fp) tg g bd js) (ht : ∀ (s : Shared) (H : Hp) (C : Addr) (cl : List (Str × Addr)) (fp : List Addr), VTs (X.blk s H scope (compEnvC scope cl C X.env) fp) ifs tt wt)
    (he : ∀ (s : Shared) (H : Hp) (C : Addr) (cl : List (Str × Addr)) (fp : List Addr), VE (X.blk s H scope (compEnvC scope cl C X.env) fp) elt te we) (hj : ∀ j ∈ js, j ∈ own.map (·.2) := by decide) (hs : ∀ x, foldedSetIterable iter X.env x = pure x := by intro _; rfl) :
    VF X (.ListComp elt [⟨tg, iter, ifs, 0⟩] scope pos) (tLc ti g tt te (own.map (·.2))) (wLc (own.map (·.2)) wi bd wt we) :=
  ⟨pe_lc hc hN hi.p ok (fun s H C cl fp => (hg s H C cl fp).p) (fun s H C cl fp => (ht s H C cl fp).p) (fun s H C cl fp => (he s H C cl fp).p) hs, .lc hi.ok (hg X.s_0 X.H_0 0 [] []).ok hj (ht X.s_0 X.H_0 0 [] []).ok (he X.s_0 X.H_0 0 [] []).ok⟩
end
end G

namespace G
open PySem PySem.Spec PyProof.Rows L2
/-! ### what a def promises, in values: the arguments' slots; the result and the slots behind -/
abbrev Spc := En → (RetV → En → Prop) → Prop
open Classical in
noncomputable def Bof (H : Hp) (vs : List V) (as : En) : Hp := fun a => if ∃ i, Own (vs.map some) as i a then none else H a
def pinOf (vs : List V) : Nat → Addr → Prop := fun i a => vs[i]? = some (.ref a)
def spOf (K : Fg) (spec : Spc) : Sp := fun vs H Q _ => ∃ (F : Hp) (as : En) (R : RetV → En → Prop), RE K (pinOf vs) (Bof H vs as) F F H (vs.map some) as ∧ spec as R ∧ ∀ r outs v H' F', R r outs → Le F F' →
  RE K (pinOf vs) (Bof H vs as) F F' H' (vs.map some) outs → RetOk K (Bof H vs as) F' H' (vs.map some) outs v r → Q v H'
/-- a def's promise, where nothing is being shown (no repr runs around it) -/
structure FnG (P : Program) (w : World) (K : Fg) (mg : Str → Option Value) (base : Heap) (k : Nat) (f : Addr) (fd : FuncData) (ps : List Str) (sp : Sp) : Prop where
  len : ∀ vs H Q E, sp vs H Q E → vs.length = ps.length
  run : ∀ (A : Around) (outer : List Env) (s : Shared) (H : Hp) (args : Args) (us : List Value) (vs : List V) (Q : VK) (E : XK), Room k A → A.guards = some [] → Env0 P w K mg base A outer s H → BindsTo s fd args (ps.zip us) → Vals vs us → sp vs H Q E →
    codeAny (model P w) A (.call (.ref f) args) (CR CX0 outer P w H s Q E) s
theorem FnG.mono {P : Program} {w : World} {K : Fg} {mg : Str → Option Value} {base : Heap} {j k : Nat} {f : Addr} {fd : FuncData} {ps : List Str} {sp : Sp} (F : FnG P w K mg base j f fd ps sp) (h : j ≤ k) : FnG P w K mg base k f fd ps sp :=
  ⟨F.len, fun A outer s H args us vs Q E hr => F.run A outer s H args us vs Q E (hr.mono h)⟩
/-- from the body to the promise -/
theorem fng_of {P : Program} {w : World} {K : Fg} {mg : Str → Option Value} {base : Heap} {k : Nat} {f : Addr} {fd : FuncData} {x qual : Str} {st : Stmt} {N ps : List Str} {sp : Sp} (F : Fun K x qual st f fd) (S : FnScope N ps (defScope st))
    (len : ∀ vs H Q E, sp vs H Q E → vs.length = ps.length)
    (hbody : ∀ (cdv : Value) (A : Around) (outer : List Env) (s : Shared) (H : Hp) (E : XK), Room k (A.deeper (envOfC qual (defScope st) s.heap.objs.size f cdv)) → A.guards = some [] → ∀ (vs : List V) (Q : VK), sp vs H Q E →
      ∃ t, PSs (cxOf CX0 P w K mg base N qual (defScope st) f cdv A outer s H E).nox (defBody st) t ∧ t { nx := fun _ H' => Q .non H', rt := Q } (start N vs) H) : FnG P w K mg base (k + 1) f fd ps sp := by
  obtain ⟨oc, od, kV, doc, pm, an, cdv, ct, osl, rfl, lk, hcd⟩ := F.ex
  refine ⟨len, fun A outer s H args us vs Q E room hG env bind rel hsp => ?_⟩
  have stands : K.In s.heap := env.mod.kin.keeps fun b o q => (env.bs b o q).1
  refine codeAny_call_function room.depth (stands _ _ lk) rfl S.co S.gen rfl (PySem.W.codeRec_of stands hcd) (bind _ _ _ _ ?_)
  refine wpAny_newFunctionEnv_cells S.kind (fun ⟨n, v⟩ hy => (S.par n (List.of_mem_zip hy).1).imp id fun q => ⟨q, PySem.W.cellsFrom_some _ _ _ (.inl q)⟩) fun env2 he s1 made => ?_
  subst he
  refine ⟨(env.mod.nolimit.keeps fun b o q => (env.bs b o q).1).keeps made.toInCall.keep, codeAny_func ?_⟩
  obtain ⟨t, ht, hq⟩ := hbody cdv A outer s H E (room.deeper _) hG vs Q hsp
  have I := inv_start (CX := CX0) (mg := mg) (base := base) (E := E) S room.hd env (len _ _ _ _ hsp) rel made
  refine wpAny_mono (ht.nox.run [] s1 (start N vs) H _ I hq) (fun fl s' hs => ?_) fun e s' hs => hs
  cases fl with
  | ret u => obtain ⟨v, σ', H', J, rv, q⟩ := hs; exact ⟨v, H', J.os, J.bare, J.base, J.hok, rv, q⟩
  | next => obtain ⟨σ', H', J, q⟩ := hs; exact ⟨V.non, H', J.os, J.bare, J.base, J.hok, rfl, q⟩
  | brk => exact hs.choose_spec.choose_spec.2.elim
  | cont => exact hs.choose_spec.choose_spec.2.elim

section
variable {K : Fg} {pin : Nat → Addr → Prop} {B F0 F F' H H' : Hp} {vs : List V} {as : En}
theorem RE.pad {σ : L2.St} {ρ : En} (r : RE K pin B F0 F H σ ρ) (n : Nat) : RE K pin B F0 F H (σ ++ List.replicate n none) (ρ ++ List.replicate n .no) where
  len := by simp [r.len]
  keep := r.keep
  sub := r.sub
  new := r.new
  sl := fun i s e => by
    by_cases hi : i < ρ.length
    · rw [List.getElem?_append_left hi] at e
      rw [List.getElem?_append_left (by rw [← r.len]; exact hi)]
      exact r.sl i s e
    · rw [List.getElem?_append_right (by omega)] at e
      have h2 := (List.getElem?_eq_some_iff.mp e).1
      rw [List.length_replicate] at h2
      rw [List.getElem?_replicate_of_lt h2] at e; cases e
      refine ⟨none, ?_, trivial⟩
      rw [List.getElem?_append_right (by rw [← r.len]; omega), ← r.len, List.getElem?_replicate_of_lt h2]
  ap := fun i j a h1 h2 => by
    have aux : ∀ i, Own (σ ++ List.replicate n none) (ρ ++ List.replicate n .no) i a → Own σ ρ i a := fun i ⟨⟨b, c, e⟩, e2⟩ => by
      by_cases hi : i < ρ.length
      · rw [List.getElem?_append_left hi] at e
        rw [List.getElem?_append_left (by rw [← r.len]; exact hi)] at e2
        exact ⟨⟨b, c, e⟩, e2⟩
      · rw [List.getElem?_append_right (by omega)] at e
        have h2 := (List.getElem?_eq_some_iff.mp e).1
        rw [List.length_replicate] at h2
        rw [List.getElem?_replicate_of_lt h2] at e; cases e
    exact r.ap i j a (aux i h1) (aux j h2)
def keepPin : Option Sl → Sl
  | some (.o true c) => .o true c
  | _ => .no
def outsOf (n : Nat) (ρ : En) : En := (List.range n).map fun i => keepPin ρ[i]?
theorem outs_len (n : Nat) (ρ : En) : (outsOf n ρ).length = n := by unfold outsOf; rw [List.length_map, List.length_range]
theorem outs_at {n i : Nat} {ρ : En} {s : Sl} (h : (outsOf n ρ)[i]? = some s) : i < n ∧ s = keepPin ρ[i]? := by
  have hi : i < n := by
    have := (List.getElem?_eq_some_iff.mp h).1
    rwa [outs_len] at this
  unfold outsOf at h
  rw [List.getElem?_map, List.getElem?_range hi] at h
  exact ⟨hi, (Option.some.inj h).symm⟩
theorem keepPin_o {os : Option Sl} {b : Bool} {c : Ct} (h : Sl.o b c = keepPin os) : b = true ∧ os = some (.o true c) := by
  cases os with
  | none => cases h
  | some s =>
    cases s with
    | no => cases h
    | d x => cases h
    | o b' c' =>
      cases b' with
      | false => cases h
      | true => cases h; exact ⟨rfl, rfl⟩
theorem outs_get {n i : Nat} {ρ : En} {b : Bool} {c : Ct} (h : (outsOf n ρ)[i]? = some (.o b c)) : i < n ∧ b = true ∧ ρ[i]? = some (.o true c) := by
  obtain ⟨hi, e⟩ := outs_at h
  exact ⟨hi, keepPin_o e⟩
theorem RE.outs {σ : L2.St} {ρ : En} (r : RE K (pinOf vs) B F0 F H σ ρ) : RE K (pinOf vs) B F0 F H (vs.map some) (outsOf vs.length ρ) := by
  have aux : ∀ (i : Nat) (b : Bool) (c : Ct), (outsOf vs.length ρ)[i]? = some (.o b c) → ∃ a o, vs[i]? = some (.ref a) ∧ σ[i]? = some (some (.ref a)) ∧ ρ[i]? = some (.o true c) ∧ F a = none ∧ B a = none ∧ H a = some o ∧ CtOk K F o c := fun i b c e => by
    obtain ⟨hi, _, e2⟩ := outs_get e
    obtain ⟨ov, e3, a, o, e4, hp, h1, h2, h3, h4⟩ := r.sl i _ e2
    exact ⟨a, o, hp rfl, by rw [e3, e4], e2, h1, h2, h3, h4⟩
  refine ⟨by rw [outs_len, List.length_map], r.keep, r.sub, r.new, fun i s e => ?_, fun i j a h1 h2 => ?_⟩
  · obtain ⟨hi, es⟩ := outs_at e
    refine ⟨some vs[i], by rw [List.getElem?_map, List.getElem?_eq_getElem hi]; rfl, ?_⟩
    cases s with
    | no => trivial
    | d x =>
      cases q : ρ[i]? with
      | none => rw [q] at es; cases es
      | some s =>
        rw [q] at es
        cases s with
        | no => cases es
        | d x => cases es
        | o b' c' => cases b' <;> cases es
    | o b c =>
      obtain ⟨a, o, e1, e2, e3, h1, h2, h3, h4⟩ := aux i b c e
      refine ⟨a, o, ?_, fun _ => e1, h1, h2, h3, h4⟩
      rw [List.getElem?_eq_getElem hi] at e1
      exact e1
  · have aux2 : ∀ (i : Nat), Own (vs.map some) (outsOf vs.length ρ) i a → Own σ ρ i a := fun i ⟨⟨b, c, e⟩, e2⟩ => by
      obtain ⟨a', o, e1, e3, e4, _⟩ := aux i b c e
      rw [List.getElem?_map, e1] at e2
      cases e2
      exact ⟨⟨true, c, e4⟩, e3⟩
    exact r.ap i j a (aux2 i h1) (aux2 j h2)
theorem RetOk.outs {σ : L2.St} {ρ : En} {v : V} {rv : RetV} (r : RE K (pinOf vs) B F0 F H σ ρ) (h : RetOk K B F H σ ρ v rv) : RetOk K B F H (vs.map some) (outsOf vs.length ρ) v rv := by
  cases rv with
  | fz d => exact h
  | fr c =>
    obtain ⟨p, o, rfl, l, hc⟩ := h
    refine ⟨p, o, rfl, ⟨l.f, l.b, l.h, fun i ⟨⟨b, c, e⟩, e2⟩ => ?_⟩, hc⟩
    obtain ⟨hi, _, e3⟩ := outs_get e
    obtain ⟨ov, e4, a, o', e5, hp, _⟩ := r.sl i _ e3
    have e6 := hp rfl
    rw [List.getElem?_map, show vs[i]? = some (.ref a) from e6] at e2
    cases e2
    exact l.ap i ⟨⟨true, c, e3⟩, by rw [e4, e5]⟩
end
/-- THE RULE for a def, in values -/
theorem fnv_mk {P : Program} {w : World} {K : Fg} {mg : Str → Option Value} {base : Heap} {k : Nat} {f : Addr} {fd : FuncData} {x qual : Str} {st : Stmt} {N ps : List Str} {spec : Spc} (F : Fun K x qual st f fd) (S : FnScope N ps (defScope st))
    (len : ∀ as R, spec as R → as.length = ps.length)
    (hbody : ∀ (cdv : Value) (A : Around) (outer : List Env) (s : Shared) (H : Hp) (E : XK), Room k (A.deeper (envOfC qual (defScope st) s.heap.objs.size f cdv)) → (A.deeper (envOfC qual (defScope st) s.heap.objs.size f cdv)).guards = some [] →
      ∃ t wb, VSs (cxOf CX0 P w K mg base N qual (defScope st) f cdv A outer s H E).nox (defBody st) t wb ∧
        ∀ as R, spec as R → wb ⟨fun ρ => R (.fz .none) (outsOf ps.length ρ), fun r ρ => R r (outsOf ps.length ρ), fun _ => False, fun _ => False⟩ (as ++ List.replicate (N.length - ps.length) .no)) :
    FnG P w K mg base (k + 1) f fd ps (spOf K spec) := by
  have ln : ∀ vs H Q E, spOf K spec vs H Q E → vs.length = ps.length := fun vs H Q E ⟨F', as, R0, r, q, _⟩ => by
    have h1 := r.len
    rw [List.length_map] at h1
    rw [← h1]; exact len as _ q
  refine fng_of F S ln fun cdv A outer s H E room hG vs Q h => ?_
  obtain ⟨t, wb, V, hw⟩ := hbody cdv A outer s H E room hG
  have hl := ln vs H Q E h
  obtain ⟨F', as, R0, r, q, kk⟩ := h
  refine ⟨t, V.p, ?_⟩
  have rp := r.pad (N.length - ps.length)
  have st0 : start N vs = vs.map some ++ List.replicate (N.length - ps.length) none := by rw [← hl]; rfl
  rw [st0]
  have lenA : as.length = vs.length := by have := r.len; rw [List.length_map] at this; exact this
  refine V.ok (pinOf vs) (Bof H vs as) F' F' H _ _ _ _ rp (hw as _ q) ⟨fun σ' H' F2 ρ' le r2 k2 => ?_, fun v rv σ' H' F2 ρ' le r2 ro k2 => ?_, fun _ _ _ _ _ _ z => z.elim, fun _ _ _ _ _ _ z => z.elim⟩
  · rw [← hl] at k2
    exact kk (.fz .none) _ .non H' F2 k2 le r2.outs .non
  · rw [← hl] at k2
    exact kk rv _ v H' F2 k2 le r2.outs (ro.outs r2)
end G

namespace G
open PySem PySem.Spec PyProof.Rows L2
section
variable {X : Cx} {k : Nat} {f : Addr} {fd : FuncData} {ps : List Str} {sp : Sp} {x : Str} {p pos : Pos} {e : Expr} {es : List Expr} {t : TA}
/-! ### the call of a def -/
theorem run_fng {pins : List (Addr × Obj)} {σ : L2.St} {H : Hp} {s : Shared} {Q : VK} {args : Args} {us : List Value} {vs : List V} (F : FnG X.prog X.w X.K X.mg X.base k f fd ps sp) (room : Room k X.A) (hG : X.A.guards = some []) (hb : BindsTo s fd args (ps.zip us))
    (I : Inv X pins σ H s) (r : Vals vs us) (h : sp vs H Q E0) : wpAny (model X.prog X.w) X.A (call (.ref f) args.pos args.kw) (EP X pins σ Q) X.xe s :=
  wpAny_call (codeAny_mono (F.run X.A X.stack s H args us vs Q E0 room hG I.env0 hb r h) fun q s' hq => by
    cases q with
    | error e => exact hq.elim
    | ok fl => cases fl with
      | ret u => exact I.after hq
      | next => exact hq.elim
      | brk => exact hq.elim
      | cont => exact hq.elim)
theorem pe_callg (F : FnG X.prog X.w X.K X.mg X.base k f fd ps sp) (room : Room k X.A) (hG : X.A.guards = some []) (hg : Gl X x) (hm : X.mg x = some (.ref f)) (hk : PySem.W.keepIn X.K (.ref f) = true) (hb : Binds X.K fd ps [])
    (ha : PA X (e :: es) t) (hdb : (x == ("__debug__" : Str)) = false := by decide) (he : starEach (e :: es) X.env = (false, eval e X.env) :: starEach es X.env := by rfl) (hpl : (backTo pos (starEach es X.env)).any (·.1) = false := by rfl) :
    PE X (.Call (.Name x p) (e :: es) [] pos) (tCall sp [] E0 t) := by
  refine ⟨fun pins s σ H Q I h => wpAny_Call_Name_kw (ld_glob I hg hm (PySem.W.callWith_K (h₀ := X.base) I.ok.mod.kin hk (thn (ha.run pos pins s σ H _ I h) fun us s1 ⟨vs, H1, I1, r, q⟩ => ⟨I1.kIn, ?_⟩) he hpl) hdb)⟩
  have q : sp (vs ++ []) H1 Q E0 := q
  rw [List.append_nil] at q
  have hl : (us ++ []).length = ps.length := by rw [List.append_nil, ← r.length]; exact F.len _ _ _ _ q
  have bb := hb s1 us I1.kIn hl
  rw [List.append_nil] at bb
  exact run_fng (args := ⟨us, []⟩) F room hG bb I1 r q
theorem pe_callg0 (F : FnG X.prog X.w X.K X.mg X.base k f fd ps sp) (room : Room k X.A) (hG : X.A.guards = some []) (hg : Gl X x) (hm : X.mg x = some (.ref f)) (hk : PySem.W.keepIn X.K (.ref f) = true) (hb : Binds X.K fd ps [])
    (hdb : (x == ("__debug__" : Str)) = false := by decide) : PE X (.Call (.Name x p) [] [] pos) (tCall sp [] E0 tNil) := by
  refine ⟨fun pins s σ H Q I h => wpAny_Call_Name_kw (ld_glob I hg hm (PySem.W.callWith_K0 I.kIn hk ?_) hdb)⟩
  have hl : (([] : List Value) ++ []).length = ps.length := by have := F.len _ _ _ _ h; simpa using this
  exact run_fng (args := ⟨[], []⟩) F room hG (hb s [] I.kIn hl) I .nil h
/-- by keywords alone: g puts their values in the parameters' order -/
theorem pe_callgK {ks : List Str} {g : List Value → List Value → List Value} {gV : List V → List V → List V} {kws : List Keyword} {tk : TA} (F : FnG X.prog X.w X.K X.mg X.base k f fd ps sp) (room : Room k X.A) (hG : X.A.guards = some []) (hg : Gl X x) (hm : X.mg x = some (.ref f))
    (hk : PySem.W.keepIn X.K (.ref f) = true) (hb : KBinds X.K fd ps ks g gV) (hkw : PK X kws tk) (hall : (backToKw pos (keywordEach kws X.env)).all (·.1.isSome) = true := by rfl) (hks : (backToKw pos (keywordEach kws X.env)).filterMap (·.1) = ks := by rfl)
    (hdb : (x == ("__debug__" : Str)) = false := by decide) (hpl : ((backTo pos (starEach [] X.env)).any (·.1) || (backToKw pos (keywordEach kws X.env)).any (·.1.isNone)) = false := by rfl) :
    PE X (.Call (.Name x p) [] kws pos) (tCallK sp gV E0 tNil tk) := by
  refine ⟨fun pins s σ H Q I h => wpAny_Call_Name_kw (ld_glob I hg hm (PySem.W.callWith_KW0 (h₀ := X.base) I.ok.mod.kin hk hall (thn (hkw.run pos pins s σ H _ I h) fun ws s2 ⟨zs, H2, I2, rz, q2⟩ => ⟨I2.kIn, ?_⟩) hpl) hdb)⟩
  rw [hks]
  have r2 := hb.rel (vs := []) (us := []) .nil rz
  have hl : (g [] ws).length = ps.length := by rw [← r2.length]; exact F.len _ _ _ _ q2
  exact run_fng (args := ⟨[], ks.zip ws⟩) F room hG (hb.to s2 [] ws I2.kIn hl) I2 r2 q2
theorem pe_callgKp {ks : List Str} {g : List Value → List Value → List Value} {gV : List V → List V → List V} {kws : List Keyword} {tk : TA} (F : FnG X.prog X.w X.K X.mg X.base k f fd ps sp) (room : Room k X.A) (hG : X.A.guards = some []) (hg : Gl X x) (hm : X.mg x = some (.ref f))
    (hk : PySem.W.keepIn X.K (.ref f) = true) (hb : KBinds X.K fd ps ks g gV) (ha : PA X (e :: es) t) (hkw : PK X kws tk) (hall : (backToKw pos (keywordEach kws X.env)).all (·.1.isSome) = true := by rfl) (hks : (backToKw pos (keywordEach kws X.env)).filterMap (·.1) = ks := by rfl)
    (hdb : (x == ("__debug__" : Str)) = false := by decide) (he : starEach (e :: es) X.env = (false, eval e X.env) :: starEach es X.env := by rfl)
    (hpl : ((backTo pos (starEach (e :: es) X.env)).any (·.1) || (backToKw pos (keywordEach kws X.env)).any (·.1.isNone)) = false := by rfl) :
    PE X (.Call (.Name x p) (e :: es) kws pos) (tCallK sp gV E0 t tk) := by
  refine ⟨fun pins s σ H Q I h => wpAny_Call_Name_kw (ld_glob I hg hm (PySem.W.callWith_KW (h₀ := X.base) I.ok.mod.kin hk hall (thn (ha.run pos pins s σ H _ I h) fun us s1 ⟨vs, H1, I1, r, q⟩ => thn (hkw.run pos pins s1 σ H1 _ I1 q) fun ws s2 ⟨zs, H2, I2, rz, q2⟩ => ⟨I2.kIn, ?_⟩) hpl he) hdb)⟩
  rw [hks]
  have r2 := hb.rel r rz
  have hl : (g us ws).length = ps.length := by rw [← r2.length]; exact F.len _ _ _ _ q2
  exact run_fng (args := ⟨us, ks.zip ws⟩) F room hG (hb.to s2 us ws I2.kIn hl) I2 r2 q2
end
/-! ### in values -/
section
variable {K : Fg} {pin : Nat → Addr → Prop} {B F0 F F' H H' : Hp} {σ : L2.St} {ρ : En}
theorem own_data {vs : List V} {ds : List D} {i : Nat} {a : Addr} : ¬ Own (vs.map some) (ds.map Sl.d) i a := fun ⟨⟨b, c, e⟩, _⟩ => by
  rw [List.getElem?_map] at e
  cases q : ds[i]? with
  | none => rw [q] at e; cases e
  | some d => rw [q] at e; cases e
theorem Bof_data {vs : List V} {ds : List D} : Bof H vs (ds.map Sl.d) = H := by
  funext a
  unfold Bof
  rw [if_neg (fun ⟨i, h⟩ => own_data h)]
/-- arguments that are all data -/
theorem RE.args {vs : List V} {ds : List D} (r : RE K pin B F0 F H σ ρ) (p : RpA K F vs ds) : RE K (pinOf vs) (Bof H vs (ds.map Sl.d)) F F H (vs.map some) (ds.map Sl.d) where
  len := by rw [List.length_map, List.length_map, p.length]
  keep := by rw [Bof_data]; exact .of_le (Le.refl H)
  sub := r.sub
  new := fun _ h => .inl h
  sl := fun i s e => by
    rw [List.getElem?_map] at e
    cases q : ds[i]? with
    | none => rw [q] at e; cases e
    | some d =>
      rw [q] at e; cases e
      obtain ⟨v, e1, h⟩ := p.get q
      exact ⟨some v, by rw [List.getElem?_map, e1]; rfl, v, rfl, h⟩
  ap := fun i j a h => absurd h own_data
/-- behind a call all of whose arguments are data -/
theorem RE.ret {vs : List V} {ds : List D} {outs : En} (r : RE K pin B F0 F H σ ρ) (le : Le F F') (r2 : RE K (pinOf vs) (Bof H vs (ds.map Sl.d)) F F' H' (vs.map some) outs) : RE K pin B F0 F' H' σ ρ where
  len := r.len
  keep := r.keep.trans r2.keep (fun a u _ h => by rw [Bof_data]; exact h) le
  sub := r2.sub
  new := fun a h => by
    rcases r2.new a h with q | q
    · exact r.new a q
    · rw [Bof_data] at q; exact .inr (r.bnone q)
  sl := fun i s e => by
    obtain ⟨ov, e1, h⟩ := r.sl i s e
    refine ⟨ov, e1, ?_⟩
    cases s with
    | no => trivial
    | d x => obtain ⟨v, e2, h2⟩ := h; exact ⟨v, e2, h2.le le⟩
    | o b c =>
      obtain ⟨a, o, e2, hp, h1, h2, h3, h4⟩ := h
      have fn : F' a = none := by
        cases q : F' a with
        | none => rfl
        | some u =>
          rcases r2.new a (by rw [q]; simp) with z | z
          · exact absurd h1 z
          · rw [Bof_data, h3] at z; cases z
      exact ⟨a, o, e2, hp, fn, h2, (r2.keep a o (by rw [Bof_data]; exact h3)).resolve_right fun z => z.1 fn, h4.le le⟩
  ap := r.ap
theorem Loose.ret {vs : List V} {ds : List D} {outs : En} {p : Addr} {o : HO} (r : RE K pin B F0 F H σ ρ) (l : Loose (Bof H vs (ds.map Sl.d)) F' H' (vs.map some) outs p o) : Loose B F' H' σ ρ p o := by
  have hp : H p = none := by have := l.b; rwa [Bof_data] at this
  exact ⟨l.f, r.bnone hp, l.h, fun i hi => by
    obtain ⟨_, _, ob, _, _, h, _⟩ := r.own hi
    rw [hp] at h; cases h⟩
def retD : RetV → D
  | .fz d => d
  | .fr c => ctD c
variable {X : Cx} {k : Nat} {f : Addr} {fd : FuncData} {ps : List Str} {spec : Spc} {x : Str} {p pos : Pos} {e : Expr} {es : List Expr} {t : TA} {wl : WL}
def wCall (spec : Spc) (wl : WL) : WE := fun ρ Q => wl ρ fun ds ρ1 => spec (ds.map Sl.d) fun r _ => Q (retD r) ρ1
theorem VEok.call {K : Fg} (h : VLok K t wl) : VEok K (tCall (spOf K spec) [] E0 t) (wCall spec wl) := fun pin B F0 F H σ ρ Q R r hw kk =>
  h pin B F0 F H σ ρ _ _ r hw fun vs H1 F1 ds ρ1 l1 r1 p1 q1 => by
    have goal : spOf K spec vs H1 R E0 := ⟨F1, ds.map Sl.d, _, r1.args p1, q1, fun rv outs v H2 F2 q2 le r2 ro => by
      have r3 := r1.ret le r2
      cases rv with
      | fz d => exact kk v H2 F2 d ρ1 (l1.trans le) r3 ro q2
      | fr c =>
        obtain ⟨pp, o, rfl, l, hc⟩ := ro
        obtain ⟨le2, r4, rp⟩ := r3.frz (l.ret r1) hc
        exact kk _ H2 _ _ ρ1 ((l1.trans le).trans le2) r4 rp q2⟩
    show spOf K spec (vs ++ []) H1 R E0
    rw [List.append_nil]
    exact goal
theorem ve_call (F : FnG X.prog X.w X.K X.mg X.base k f fd ps (spOf X.K spec)) (room : Room k X.A) (hG : X.A.guards = some []) (hg : Gl X x) (hm : X.mg x = some (.ref f)) (hk : PySem.W.keepIn X.K (.ref f) = true) (hb : Binds X.K fd ps [])
    (ha : VL X (e :: es) t wl) (hdb : (x == ("__debug__" : Str)) = false := by decide) (he : starEach (e :: es) X.env = (false, eval e X.env) :: starEach es X.env := by rfl) (hpl : (backTo pos (starEach es X.env)).any (·.1) = false := by rfl) :
    VE X (.Call (.Name x p) (e :: es) [] pos) (tCall (spOf X.K spec) [] E0 t) (wCall spec wl) := ⟨pe_callg F room hG hg hm hk hb ha.p hdb he hpl, .call ha.ok⟩
theorem ve_call0 (F : FnG X.prog X.w X.K X.mg X.base k f fd ps (spOf X.K spec)) (room : Room k X.A) (hG : X.A.guards = some []) (hg : Gl X x) (hm : X.mg x = some (.ref f)) (hk : PySem.W.keepIn X.K (.ref f) = true) (hb : Binds X.K fd ps [])
    (hdb : (x == ("__debug__" : Str)) = false := by decide) : VE X (.Call (.Name x p) [] [] pos) (tCall (spOf X.K spec) [] E0 tNil) (wCall spec wNil) := ⟨pe_callg0 F room hG hg hm hk hb hdb, .call .nil⟩
/-- its result is a new list or dict that may be owned -/
def wCallF (spec : Spc) (wl : WL) : WF := fun ρ Q => wl ρ fun ds ρ1 => spec (ds.map Sl.d) fun r _ => match r with
  | .fr c => Q c ρ1
  | _ => False
theorem VFok.call {K : Fg} (h : VLok K t wl) : VFok K (tCall (spOf K spec) [] E0 t) (wCallF spec wl) := fun pin B F0 F H σ ρ Q R r hw kk =>
  h pin B F0 F H σ ρ _ _ r hw fun vs H1 F1 ds ρ1 l1 r1 p1 q1 => by
    have goal : spOf K spec vs H1 R E0 := ⟨F1, ds.map Sl.d, _, r1.args p1, q1, fun rv outs v H2 F2 q2 le r2 ro => by
      have r3 := r1.ret le r2
      cases rv with
      | fz d => exact q2.elim
      | fr c =>
        obtain ⟨pp, o, rfl, l, hc⟩ := ro
        exact kk pp o H2 F2 c ρ1 (l1.trans le) r3 (l.ret r1) hc q2⟩
    show spOf K spec (vs ++ []) H1 R E0
    rw [List.append_nil]
    exact goal
theorem vf_call (F : FnG X.prog X.w X.K X.mg X.base k f fd ps (spOf X.K spec)) (room : Room k X.A) (hG : X.A.guards = some []) (hg : Gl X x) (hm : X.mg x = some (.ref f)) (hk : PySem.W.keepIn X.K (.ref f) = true) (hb : Binds X.K fd ps [])
    (ha : VL X (e :: es) t wl) (hdb : (x == ("__debug__" : Str)) = false := by decide) (he : starEach (e :: es) X.env = (false, eval e X.env) :: starEach es X.env := by rfl) (hpl : (backTo pos (starEach es X.env)).any (·.1) = false := by rfl) :
    VF X (.Call (.Name x p) (e :: es) [] pos) (tCall (spOf X.K spec) [] E0 t) (wCallF spec wl) := ⟨pe_callg F room hG hg hm hk hb ha.p hdb he hpl, .call ha.ok⟩
/-! keywords -/
structure VK' (X : Cx) (kws : List Keyword) (t : TA) (w : WL) : Prop where
  p : PK X kws t
  ok : VLok X.K t w
theorem vk_nil : VK' X [] tNil wNil := ⟨pk_nil, .nil⟩
theorem vk_cons {kws : List Keyword} {nm : Option Str} {kpos : Pos} {te : TE} {we : WE} {t : TA} {wl : WL} (hp : PK X (⟨nm, e, kpos⟩ :: kws) (tCons te t)) (h1 : VE X e te we) (h2 : VK' X kws t wl) : VK' X (⟨nm, e, kpos⟩ :: kws) (tCons te t) (wCons we wl) := ⟨hp, .cons h1.ok h2.ok⟩
/-- gD: the same order for data -/
def wCallK (spec : Spc) (gD : List D → List D → List D) (wl wk : WL) : WE := fun ρ Q => wl ρ fun ds ρ1 => wk ρ1 fun es ρ2 => spec ((gD ds es).map Sl.d) fun r _ => Q (retD r) ρ2
def Perms (gV : List V → List V → List V) (gD : List D → List D → List D) : Prop := ∀ (K : Fg) (F : Hp) (vs zs : List V) (ds es : List D), RpA K F vs ds → RpA K F zs es → RpA K F (gV vs zs) (gD ds es)
theorem VEok.callK {K : Fg} {tk : TA} {wk : WL} {gV : List V → List V → List V} {gD : List D → List D → List D} (hp : Perms gV gD) (h : VLok K t wl) (h2 : VLok K tk wk) : VEok K (tCallK (spOf K spec) gV E0 t tk) (wCallK spec gD wl wk) := fun pin B F0 F H σ ρ Q R r hw kk =>
  h pin B F0 F H σ ρ _ _ r hw fun vs H1 F1 ds ρ1 l1 r1 p1 q1 => h2 pin B F0 F1 H1 σ ρ1 _ _ r1 q1 fun zs H2 F2 es ρ2 l2 r2 p2 q2 =>
    ⟨F2, (gD ds es).map Sl.d, _, r2.args (hp K F2 vs zs ds es (p1.le l2) p2), q2, fun rv outs v H3 F3 q3 le r3 ro => by
      have r4 := r2.ret le r3
      cases rv with
      | fz d => exact kk v H3 F3 d ρ2 ((l1.trans l2).trans le) r4 ro q3
      | fr c =>
        obtain ⟨pp, o, rfl, l, hc⟩ := ro
        obtain ⟨le2, r5, rp⟩ := r4.frz (l.ret r2) hc
        exact kk _ H3 _ _ ρ2 (((l1.trans l2).trans le).trans le2) r5 rp q3⟩
theorem ve_callK {ks : List Str} {g : List Value → List Value → List Value} {gV : List V → List V → List V} {gD : List D → List D → List D} {kws : List Keyword} {tk : TA} {wk : WL} (F : FnG X.prog X.w X.K X.mg X.base k f fd ps (spOf X.K spec)) (room : Room k X.A) (hG : X.A.guards = some []) (hg : Gl X x) (hm : X.mg x = some (.ref f))
    (hk : PySem.W.keepIn X.K (.ref f) = true) (hb : KBinds X.K fd ps ks g gV) (hp : Perms gV gD) (hkw : VK' X kws tk wk) (hall : (backToKw pos (keywordEach kws X.env)).all (·.1.isSome) = true := by rfl) (hks : (backToKw pos (keywordEach kws X.env)).filterMap (·.1) = ks := by rfl)
    (hdb : (x == ("__debug__" : Str)) = false := by decide) (hpl : ((backTo pos (starEach [] X.env)).any (·.1) || (backToKw pos (keywordEach kws X.env)).any (·.1.isNone)) = false := by rfl) :
    VE X (.Call (.Name x p) [] kws pos) (tCallK (spOf X.K spec) gV E0 tNil tk) (wCallK spec gD wNil wk) := ⟨pe_callgK F room hG hg hm hk hb hkw.p hall hks hdb hpl, .callK hp .nil hkw.ok⟩
theorem ve_callKp {ks : List Str} {g : List Value → List Value → List Value} {gV : List V → List V → List V} {gD : List D → List D → List D} {kws : List Keyword} {tk : TA} {wk : WL} (F : FnG X.prog X.w X.K X.mg X.base k f fd ps (spOf X.K spec)) (room : Room k X.A) (hG : X.A.guards = some []) (hg : Gl X x) (hm : X.mg x = some (.ref f))
    (hk : PySem.W.keepIn X.K (.ref f) = true) (hb : KBinds X.K fd ps ks g gV) (hp : Perms gV gD) (ha : VL X (e :: es) t wl) (hkw : VK' X kws tk wk) (hall : (backToKw pos (keywordEach kws X.env)).all (·.1.isSome) = true := by rfl) (hks : (backToKw pos (keywordEach kws X.env)).filterMap (·.1) = ks := by rfl)
    (hdb : (x == ("__debug__" : Str)) = false := by decide) (he : starEach (e :: es) X.env = (false, eval e X.env) :: starEach es X.env := by rfl)
    (hpl : ((backTo pos (starEach (e :: es) X.env)).any (·.1) || (backToKw pos (keywordEach kws X.env)).any (·.1.isNone)) = false := by rfl) :
    VE X (.Call (.Name x p) (e :: es) kws pos) (tCallK (spOf X.K spec) gV E0 t tk) (wCallK spec gD wl wk) := ⟨pe_callgKp F room hG hg hm hk hb ha.p hkw.p hall hks hdb he hpl, .callK hp ha.ok hkw.ok⟩
/-! the first argument is a slot that owns a thing: the def may change it -/
section
variable {i : Nat} {a : Addr} {b : Bool} {c : Ct} {vs : List V} {ds : List D}
theorem own_io {j : Nat} {a' : Addr} (h : Own ((V.ref a :: vs).map some) (Sl.o true c :: ds.map Sl.d) j a') : j = 0 ∧ a' = a := by
  cases j with
  | zero => obtain ⟨_, e⟩ := h; cases e; exact ⟨rfl, rfl⟩
  | succ j =>
    obtain ⟨⟨b, c, e⟩, e2⟩ := h
    exact absurd (show Own (vs.map some) (ds.map Sl.d) j a' from ⟨⟨b, c, by simpa using e⟩, by simpa using e2⟩) own_data
theorem Bof_io {q : Addr} : Bof H (V.ref a :: vs) (Sl.o true c :: ds.map Sl.d) q = if q = a then none else H q := by
  unfold Bof
  by_cases h : q = a
  · rw [if_pos h, if_pos ⟨0, ⟨⟨true, c, rfl⟩, by rw [h]; rfl⟩⟩]
  · rw [if_neg h, if_neg (fun ⟨j, hj⟩ => h (own_io hj).2)]
theorem RE.argsIo (r : RE K pin B F0 F H σ ρ) (e : ρ[i]? = some (.o b c)) (es : σ[i]? = some (some (.ref a))) (p : RpA K F vs ds) : RE K (pinOf (V.ref a :: vs)) (Bof H (V.ref a :: vs) (Sl.o true c :: ds.map Sl.d)) F F H ((V.ref a :: vs).map some) (Sl.o true c :: ds.map Sl.d) where
  len := by simp [p.length]
  keep := fun q o h => by rw [Bof_io] at h; split at h <;> first | cases h | exact .inl h
  sub := r.sub
  new := fun _ h => .inl h
  sl := fun j s ej => by
    cases j with
    | zero =>
      cases ej
      obtain ⟨fa, _, o, b', c', ha, e', hc, _⟩ := r.own ⟨⟨b, c, e⟩, es⟩
      rw [e] at e'; cases e'
      exact ⟨_, rfl, a, o, rfl, fun _ => rfl, fa, by rw [Bof_io, if_pos rfl], ha, hc⟩
    | succ j =>
      have ej' : (ds.map Sl.d)[j]? = some s := by simpa using ej
      rw [List.getElem?_map] at ej'
      cases q : ds[j]? with
      | none => rw [q] at ej'; cases ej'
      | some d =>
        rw [q] at ej'; cases ej'
        obtain ⟨v, e1, h⟩ := p.get q
        exact ⟨some v, by simp [e1], v, rfl, h⟩
  ap := fun j k q h1 h2 => by rw [(own_io h1).1, (own_io h2).1]
theorem RE.retIo {outs : En} {b2 : Bool} {c' : Ct} {ot : En} (r : RE K pin B F0 F H σ ρ) (e : ρ[i]? = some (.o b c)) (es : σ[i]? = some (some (.ref a))) (le : Le F F') (ho : outs = .o b2 c' :: ot)
    (r2 : RE K (pinOf (V.ref a :: vs)) (Bof H (V.ref a :: vs) (Sl.o true c :: ds.map Sl.d)) F F' H' ((V.ref a :: vs).map some) outs) : RE K pin B F0 F' H' σ (ρ.set i (.o b c')) := by
  obtain ⟨fa, ba, o, b', c0, ha, e', hc, hpin⟩ := r.own ⟨⟨b, c, e⟩, es⟩
  rw [e] at e'; cases e'
  subst ho
  obtain ⟨ov, e1, a1, o1, e2, _, f1, g1, h1, k1⟩ := r2.sl 0 _ rfl
  cases e1; cases e2
  have lt : i < ρ.length := (List.getElem?_eq_some_iff.mp e).1
  have aux : ∀ j q, Own σ (ρ.set i (.o b c')) j q → Own σ ρ j q := fun j q ⟨⟨b1, c1, z1⟩, z2⟩ => by
    by_cases hj : j = i
    · subst hj; exact ⟨⟨b, c, e⟩, z2⟩
    · rw [List.getElem?_set_ne (Ne.symm hj)] at z1
      exact ⟨⟨b1, c1, z1⟩, z2⟩
  refine ⟨by rw [List.length_set, r.len], r.keep.trans r2.keep (fun q u hb h => by rw [Bof_io, if_neg (fun z => hb (by rw [z, ba]))]; exact h) le, r2.sub, fun q h => ?_, fun j s h => ?_, fun j l q h1 h2 => r.ap j l q (aux j q h1) (aux l q h2)⟩
  · rcases r2.new q h with z | z
    · exact r.new q z
    · rw [Bof_io] at z
      split at z
      · rename_i hq; subst hq; exact .inr ba
      · exact .inr (r.bnone z)
  · by_cases hj : j = i
    · subst hj
      rw [List.getElem?_set_self lt] at h; cases h
      exact ⟨_, es, a, o1, rfl, hpin, f1, ba, h1, k1⟩
    · rw [List.getElem?_set_ne (Ne.symm hj)] at h
      obtain ⟨ov, z1, z2⟩ := r.sl j s h
      refine ⟨ov, z1, ?_⟩
      cases s with
      | no => trivial
      | d x => obtain ⟨v, z3, z4⟩ := z2; exact ⟨v, z3, z4.le le⟩
      | o b3 c3 =>
        obtain ⟨a3, o3, z3, hp3, y1, y2, y3, y4⟩ := z2
        have na : a3 ≠ a := fun y => hj (r.ap j i a ⟨⟨b3, c3, h⟩, by rw [z1, z3, y]⟩ ⟨⟨b, c, e⟩, es⟩)
        have fn : F' a3 = none := by
          cases q : F' a3 with
          | none => rfl
          | some u =>
            rcases r2.new a3 (by rw [q]; simp) with z | z
            · exact absurd y1 z
            · rw [Bof_io, if_neg na, y3] at z; cases z
        exact ⟨a3, o3, z3, hp3, fn, y2, (r2.keep a3 o3 (by rw [Bof_io, if_neg na]; exact y3)).resolve_right fun z => z.1 fn, y4.le le⟩
theorem Loose.retIo {outs : En} {b2 : Bool} {c' : Ct} {ot : En} {p : Addr} {o : HO} (r : RE K pin B F0 F H σ ρ) (e : ρ[i]? = some (.o b c)) (es : σ[i]? = some (some (.ref a))) (ho : outs = .o b2 c' :: ot)
    (l : Loose (Bof H (V.ref a :: vs) (Sl.o true c :: ds.map Sl.d)) F' H' ((V.ref a :: vs).map some) outs p o) : Loose B F' H' σ (ρ.set i (.o b c')) p o := by
  subst ho
  have np : p ≠ a := fun z => l.ap 0 ⟨⟨b2, c', rfl⟩, by rw [z]; rfl⟩
  have hp : H p = none := by have := l.b; rwa [Bof_io, if_neg np] at this
  refine ⟨l.f, r.bnone hp, l.h, fun j ⟨⟨b1, c1, z1⟩, z2⟩ => ?_⟩
  have : Own σ ρ j p := by
    by_cases hj : j = i
    · subst hj; exact ⟨⟨b, c, e⟩, z2⟩
    · rw [List.getElem?_set_ne (Ne.symm hj)] at z1
      exact ⟨⟨b1, c1, z1⟩, z2⟩
  obtain ⟨_, _, ob, _, _, h, _⟩ := r.own this
  rw [hp] at h; cases h
end
def wCallIo (i : Nat) (spec : Spc) (wl : WL) : WE := fun ρ Q => wPeek i ρ fun _ _ => wl ρ fun ds ρ1 => match ρ1[i]? with
  | some (.o b c) => spec (.o true c :: ds.map Sl.d) fun r outs => match outs with
    | .o _ c' :: _ => Q (retD r) (ρ1.set i (.o b c'))
    | _ => False
  | _ => False
theorem VEok.callIo {K : Fg} {i : Nat} (h : VLok K t wl) : VEok K (tCall (spOf K spec) [] E0 (tCons (tVar i) t)) (wCallIo i spec wl) := fun pin B F0 F H σ ρ Q R r hw kk => by
  obtain ⟨v, d, ev, _, hw2⟩ := peek_rp r hw
  refine ⟨v, ev, h pin B F0 F H σ ρ _ _ r hw2 fun vs H1 F1 ds ρ1 l1 r1 p1 q1 => ?_⟩
  split at q1 <;> first | exact q1.elim | skip
  rename_i b c e
  obtain ⟨a, o, e1, ha, hc⟩ := r1.get_o e
  rw [ev] at e1; cases e1
  have goal : spOf K spec (.ref a :: vs) H1 R E0 := ⟨F1, _, _, r1.argsIo e ev p1, q1, fun rv outs v H2 F2 q2 le r2 ro => by
    cases outs with
    | nil => exact q2.elim
    | cons s ot =>
      cases s with
      | no => exact q2.elim
      | d x => exact q2.elim
      | o b2 c' =>
        have r3 := r1.retIo e ev le rfl r2
        cases rv with
        | fz d => exact kk v H2 F2 d _ (l1.trans le) r3 ro q2
        | fr cc =>
          obtain ⟨pp, o, rfl, l, hc⟩ := ro
          obtain ⟨le2, r4, rp⟩ := r3.frz (l.retIo r1 e ev rfl) hc
          exact kk _ H2 _ _ _ ((l1.trans le).trans le2) r4 rp q2⟩
  show spOf K spec ((.ref a :: vs) ++ []) H1 R E0
  rw [List.append_nil]
  exact goal
theorem ve_callIo {i : Nat} {y : Str} {q : Pos} (F : FnG X.prog X.w X.K X.mg X.base k f fd ps (spOf X.K spec)) (room : Room k X.A) (hG : X.A.guards = some []) (hg : Gl X x) (hm : X.mg x = some (.ref f)) (hk : PySem.W.keepIn X.K (.ref f) = true) (hb : Binds X.K fd ps [])
    (h0 : PE X (.Name y q) (tVar i)) (ha : VL X es t wl) (hdb : (x == ("__debug__" : Str)) = false := by decide) (he : starEach (.Name y q :: es) X.env = (false, eval (.Name y q) X.env) :: starEach es X.env := by rfl) (hpl : (backTo pos (starEach es X.env)).any (·.1) = false := by rfl) :
    VE X (.Call (.Name x p) (.Name y q :: es) [] pos) (tCall (spOf X.K spec) [] E0 (tCons (tVar i) t)) (wCallIo i spec wl) := ⟨pe_callg F room hG hg hm hk hb (pa_cons h0 ha.p he) hdb he hpl, .callIo ha.ok⟩
end
end G

namespace G
open PySem PySem.Spec PyProof.Rows L2
section
variable {X : Cx} {a b c e : Expr} {rest es : List Expr} {pos apos cpos p : Pos} {ta tb te : TE} {wa wb we : WE} {x : Str} {id T : String}
/-! ### dict comprehensions -/
def compK (own : List Nat) (bd : WB) (wt : WT) (wk wv : WE) : List D → List (Key × D) → En → (List (Key × D) → En → Prop) → Prop
  | [], acc, ρ, k => k acc ρ
  | d :: ds, acc, ρ, k => bd d ρ fun ρ1 => wt ρ1 fun b ρ2 => if b = true then wk ρ2 fun y ρ3 => wv ρ3 fun z ρ4 => ∃ kk, dKey y = some kk ∧ compK own bd wt wk wv ds (putE acc kk z) (wipeE ρ4 own) k else compK own bd wt wk wv ds acc (wipeE ρ2 own) k
def wDc (own : List Nat) (wi : WL) (bd : WB) (wt : WT) (wk wv : WE) : WF := fun ρ Q => wi ρ fun ds ρ1 => NoOwn ρ1 own ∧ ds.length ≤ sizeLine ∧ compK own bd wt wk wv ds [] (wipeE ρ1 own) fun acc ρ2 => Q (.k acc) (backE ρ1 own ρ2)
theorem putE_len (es : List (Key × D)) (k : Key) (d : D) : (putE es k d).length ≤ es.length + 1 := by
  unfold putE
  split
  · rw [List.length_map]; omega
  · rw [List.length_append]; simp
theorem VFok.dc {K : Fg} {ti : TI} {wi : WL} {g : TG} {bd : WB} {js own : List Nat} {tt : TT} {wt : WT} {tk tv : TE} {wk wv : WE} (hi : VIok K ti wi) (hg : VGok K g bd js) (hj : ∀ j ∈ js, j ∈ own) (ht : VTok K tt wt) (hk : VEok K tk wk) (he : VEok K tv wv) : VFok K (tDc ti g tt tk tv own) (wDc own wi bd wt wk wv) := by
  intro pin B F0 F H σ ρ Q R r hw k
  refine hi pin B F0 F H σ ρ _ _ r hw fun J B1 F01 H1 F1 ds ρ1 l1 ex r1 walk q1 => fun p hp => ?_
  obtain ⟨no, hz, q1⟩ := q1
  have r1' := (r1.lay (o := .dK []) hp).wipe own
  have lo1 := (r1.lays (o := .dK []) hp).wipe own
  refine ⟨fun i m H' => ∃ F' ρ' accV acc, Le F1 F' ∧ RE K pin B1 F01 F' H' (L2.wipe σ own) ρ' ∧ Loose B1 F' H' (L2.wipe σ own) ρ' p (.dK accV) ∧ CtOk K F' (.dK accV) (.k acc) ∧ acc.length ≤ i ∧ i + m = ds.length ∧
    compK own bd wt wk wv (ds.drop i) acc ρ' (fun acc ρ2 => Q (.k acc) (backE ρ1 own ρ2)), ⟨ds.length, F1, _, [], [], Le.refl _, r1', lo1, ⟨rfl, .nil⟩, Nat.le_refl _, by omega, by simpa using q1⟩, ?_⟩
  rintro i m H' ⟨F', ρ', accV, acc, l2, r2, lo, ra, hacc, em, q2⟩
  obtain ⟨w1, w2⟩ := walk F' H' l2 r2.sub r2.keep i
  by_cases hlt : i < ds.length
  · obtain ⟨go, yl⟩ := w1 ds[i] (List.getElem?_eq_getElem hlt)
    rw [List.drop_eq_getElem_cons hlt] at q2
    refine .inr ⟨go, fun H2 => ∃ F2 ρ2 accV acc, Le F1 F2 ∧ RE K pin B1 F01 F2 H2 (L2.wipe σ own) ρ2 ∧ Loose B1 F2 H2 (L2.wipe σ own) ρ2 p (.dK accV) ∧ CtOk K F2 (.dK accV) (.k acc) ∧ acc.length ≤ i + 1 ∧
      compK own bd wt wk wv (ds.drop (i + 1)) acc ρ2 (fun acc ρ2 => Q (.k acc) (backE ρ1 own ρ2)), fun H2 ⟨F2, ρ2, accV, acc, a, b, c, d, e, f⟩ => ⟨m - 1, by omega, F2, ρ2, accV, acc, a, b, c, d, e, by omega, f⟩, fun y H2 hy => ?_⟩
    have rh := r2.hide lo
    have fin : ∀ F2, Le F' F2 → RE K pin (upd B1 p (.dK accV)) F' F2 H2 (L2.wipe σ own) ρ' → Rp K F2 y ds[i] → _ := fun F2 l3 r3 p3 =>
      hg pin (upd B1 p (.dK accV)) F' F2 H2 (L2.wipe σ own) ρ' y ds[i] _ (fun σ2 H2 => L2.wipe σ2 own = L2.wipe σ own ∧ tt σ2 H2 fun b H3 =>
        if b = true then tk σ2 H3 fun y H4 => tv σ2 H4 fun z H5 => ∃ kvs k, y = kV k ∧ H5 p = some (.dK kvs) ∧ kvs.length < sizeLine ∧ (fun H2 => ∃ F2 ρ2 accV acc, Le F1 F2 ∧ RE K pin B1 F01 F2 H2 (L2.wipe σ own) ρ2 ∧ Loose B1 F2 H2 (L2.wipe σ own) ρ2 p (.dK accV) ∧ CtOk K F2 (.dK accV) (.k acc) ∧ acc.length ≤ i + 1 ∧
          compK own bd wt wk wv (ds.drop (i + 1)) acc ρ2 (fun acc ρ2 => Q (.k acc) (backE ρ1 own ρ2))) (upd H5 p (.dK (putK kvs k z)))
        else (fun H2 => ∃ F2 ρ2 accV acc, Le F1 F2 ∧ RE K pin B1 F01 F2 H2 (L2.wipe σ own) ρ2 ∧ Loose B1 F2 H2 (L2.wipe σ own) ρ2 p (.dK accV) ∧ CtOk K F2 (.dK accV) (.k acc) ∧ acc.length ≤ i + 1 ∧
          compK own bd wt wk wv (ds.drop (i + 1)) acc ρ2 (fun acc ρ2 => Q (.k acc) (backE ρ1 own ρ2))) H3) r3 p3 q2 fun σ4 ρ4 r4 kp q4 => by
      have ew : L2.wipe σ4 own = L2.wipe σ own := by
        rw [wipe_eq kp.1 (fun j hj' => kp.2 j fun z => hj' (hj j z))]
        exact wipe_eq (wipe_length ..) fun j hj' => wipe_out hj'
      refine ⟨ew, ht pin _ F' F2 H2 σ4 ρ4 _ _ r4 q4 fun b H5 F5 ρ5 l5 r5 q5 => ite_both q5 (fun q5 => ?_) fun q5 => ?_⟩
      · refine hk pin _ F' F5 H5 σ4 ρ5 _ _ r5 q5 fun y6 H6 F6 dy ρ6 l6 r6 p6 q6 => he pin _ F' F6 H6 σ4 ρ6 _ _ r6 q6 fun z H7 F7 dz ρ7 l7 r7 p7 q7 => ?_
        obtain ⟨kk, ek, q7⟩ := q7
        obtain ⟨s1, s2⟩ := r2.show lo r7
        have hl : accV.length = acc.length := by
          have := congrArg List.length ra.1
          simpa using this
        refine ⟨accV, kk, rp_key p6 ek, s2.h, by omega, ?_⟩
        obtain ⟨s3, s4⟩ := s1.poke s2 (.dK (putK accV kk z))
        have s5 := s3.wipe own
        have s6 := s4.wipe own
        rw [ew] at s5 s6
        have ll := l3.trans (l5.trans (l6.trans l7))
        exact ⟨F7, _, _, putE acc kk dz, l2.trans ll, s5, s6, putK_rp p7 ra.1 (ra.2.le ll), by have := putE_len acc kk dz; omega, q7⟩
      · obtain ⟨s1, s2⟩ := r2.show lo r5
        have s5 := s1.wipe own
        have s6 := s2.wipe own
        rw [ew] at s5 s6
        exact ⟨F5, _, _, acc, l2.trans (l3.trans l5), s5, s6, CtOk.le (l3.trans l5) ra, by omega, q5⟩
    rcases yl y H2 hy with ⟨e, pp⟩ | ⟨T, o, hT, e, pp⟩
    · subst e; exact fin F' (Le.refl _) rh pp
    · subst e; exact fin _ (le_upd (r2.fnone hT)) (rh.alloc hT) pp
  · refine .inl ⟨w2 (by omega), ?_⟩
    rw [List.drop_eq_nil_of_le (by omega)] at q2
    exact k p (.dK accV) H' F' (.k acc) _ (l1.trans l2) (ex.back l2 (r1.back l2 no r2)) (ex.loose (lo.back r2 no r1.len)) ra q2
theorem vf_dc {kx vx tg iter : Expr} {ifs : List Expr} {scope : Scope} {own : List (Str × Nat)} {js : List Nat} {pos : Pos} {ti : TI} {wi : WL} {g : TG} {bd : WB} {tt : TT} {wt : WT} {tk tv : TE} {wk wv : WE} (hc : X.calm = true) (hN : X.N.Nodup) (hi : VI X tg iter ti wi) (ok : BlkOk X.N X.env.scope scope own)
    (hg : ∀ (s : Shared) (H : Hp) (C : Addr) (cl : List (Str × Addr)) (fp : List Addr), VG (X.blk s H scope (compEnvC scope cl C X.env) fp) tg g bd js) (ht : ∀ (s : Shared) (H : Hp) (C : Addr) (cl : List (Str × Addr)) (fp : List Addr), VTs (X.blk s H scope (compEnvC scope cl C X.env) fp) ifs tt wt)
    (hk : ∀ (s : Shared) (H : Hp) (C : Addr) (cl : List (Str × Addr)) (fp : List Addr), VE (X.blk s H scope (compEnvC scope cl C X.env) fp) kx tk wk)
    (he : ∀ (s : Shared) (H : Hp) (C : Addr) (cl : List (Str × Addr)) (fp : List Addr), VE (X.blk s H scope (compEnvC scope cl C X.env) fp) vx tv wv) (hj : ∀ j ∈ js, j ∈ own.map (·.2) := by decide) (hs : ∀ x, foldedSetIterable iter X.env x = pure x := by intro _; rfl) :
    VF X (.DictComp kx vx [⟨tg, iter, ifs, 0⟩] scope pos) (tDc ti g tt tk tv (own.map (·.2))) (wDc (own.map (·.2)) wi bd wt wk wv) :=
  ⟨pe_dc hc hN hi.p ok (fun s H C cl fp => (hg s H C cl fp).p) (fun s H C cl fp => (ht s H C cl fp).p) (fun s H C cl fp => (hk s H C cl fp).p) (fun s H C cl fp => (he s H C cl fp).p) hs, .dc hi.ok (hg X.s_0 X.H_0 0 [] []).ok hj (ht X.s_0 X.H_0 0 [] []).ok (hk X.s_0 X.H_0 0 [] []).ok (he X.s_0 X.H_0 0 [] []).ok⟩
/-! ### + of tuples, texts, ints -/
def fAdd : D → D → (D → Prop) → Prop := fun x y Q => match x, y with
  | .int i, .int j => Q (.int (i + j))
  | .str i, .str j => i.length + j.length ≤ sizeLine ∧ Q (.str (i ++ j))
  | .tuple xs, .tuple ys => xs.length + ys.length ≤ sizeLine ∧ Q (.tuple (xs ++ ys))
  | _, _ => False
def rAddS : R2 := fun x y H Q => ∃ i j, x = .str i ∧ y = .str j ∧ i.length + j.length ≤ sizeLine ∧ Q (.str (i ++ j)) H
def rAddA (K : Fg) : R2 := rOr (rI0 fun i j => .int (i + j)) (rOr rAddS (rCatA K))
theorem op_addA : OpR X (binaryOp .Add) (rAddA X.K) := OpR.or op_add (OpR.or op_add_str op_catA)
theorem opok_add {K : Fg} : OpOk K (rAddA K) fAdd := by
  intro pin B F0 F H σ ρ x y dx dy Q R r px py hq k
  cases dx <;> cases dy <;> first | exact False.elim hq | skip
  · cases px; cases py
    exact .inl ⟨_, _, rfl, rfl, k _ H F _ (Le.refl F) r (.int _) hq⟩
  · cases px; cases py
    exact .inr (.inl ⟨_, _, rfl, rfl, hq.1, k _ H F _ (Le.refl F) r (.str _) hq.2⟩)
  · cases px with
    | tup h1 r1 =>
      cases py with
      | tup h2 r2 =>
        rename_i ds es a xs b ys
        refine .inr (.inr ⟨a, b, xs, ys, rfl, rfl, r.sub.sqT h1, r.sub.sqT h2, by rw [r1.length, r2.length]; exact hq.1, fun e => ?_, fun _ e => ?_, fun _ _ p hp => ?_⟩)
        · subst e
          cases r1
          exact k _ H F _ (Le.refl F) r (.tup h2 r2) hq.2
        · subst e
          cases r2
          have q2 := hq.2
          rw [List.append_nil] at q2
          exact k _ H F _ (Le.refl F) r (.tup h1 r1) q2
        · have le2 : Le F (upd F p (.tup (xs ++ ys))) := le_upd (r.fnone hp)
          exact k _ _ _ _ le2 (r.alloc hp) (.tup (.inl (.inl upd_same)) ((r1.append r2).le le2)) hq.2
/-! ### in, not in -/
/-- a list or tuple of numbers, texts, truths, None; a dict's keys -/
def flatD : D → Bool
  | .none => true | .bool _ => true | .int _ => true | .str _ => true
  | _ => false
def inD (x : D) (ds : List D) : Bool := ds.any fun y => PyData.eqv y x
def fIn (neg : Bool) : D → D → (D → Prop) → Prop := fun x y Q => match y with
  | .list ds => flatD x = true ∧ ds.all flatD = true ∧ Q (.bool (if neg then !inD x ds else inD x ds))
  | .tuple ds => flatD x = true ∧ ds.all flatD = true ∧ Q (.bool (if neg then !inD x ds else inD x ds))
  | .dict kvs => ∃ k, dKey x = some k ∧ Q (.bool (if neg then !(lookD kvs k).isSome else (lookD kvs k).isSome))
  | _ => False
def rDIn (neg : Bool) : R2 := fun y x H Q => ∃ a o, x = .ref a ∧ DGet H a y o ∧ Q (.bl (if neg then !o.isSome else o.isSome)) H
def rInA (K : Fg) (neg : Bool) : R2 := rOr (rIn K neg) (rDIn neg)
theorem op_din (hu : X.A.units + 1 < cLine) : OpR X (compareOp .In) (rDIn false) := fun pins s σ H x y v u Q I rx ry h => by
  obtain ⟨a, o, rfl, g, q⟩ := h
  cases ry
  exact d_in hu I g rx fun s3 I3 => ⟨.bl o.isSome, H, I3, rfl, q⟩
theorem op_dnotin (hu : X.A.units + 1 < cLine) : OpR X (compareOp .NotIn) (rDIn true) := fun pins s σ H x y v u Q I rx ry h => by
  obtain ⟨a, o, rfl, g, q⟩ := h
  cases ry
  exact d_notIn hu I g rx fun s3 I3 => ⟨.bl (!o.isSome), H, I3, rfl, q⟩
theorem op_inA (hu : X.A.units + 1 < cLine) : OpR X (compareOp .In) (rInA X.K false) := OpR.or op_in_seq (op_din hu)
theorem op_notinA (hu : X.A.units + 1 < cLine) : OpR X (compareOp .NotIn) (rInA X.K true) := OpR.or op_notIn_seq (op_dnotin hu)
theorem flat_rp {K : Fg} {F : Hp} {v : V} {d : D} (h : Rp K F v d) (e : flatD d = true) : flatV v = true := by cases h <;> first | rfl | cases e
theorem flats_rp {K : Fg} {F : Hp} : ∀ {vs : List V} {ds : List D}, RpA K F vs ds → ds.all flatD = true → vs.all flatV = true
  | _, _, .nil, _ => rfl
  | _, _, .cons h t, e => by
    rw [List.all_cons, Bool.and_eq_true] at e ⊢
    exact ⟨flat_rp h e.1, flats_rp t e.2⟩
theorem eqV_rp {K : Fg} {F : Hp} {x y : V} {dx dy : D} (px : Rp K F x dx) (py : Rp K F y dy) (e1 : flatD dx = true) (e2 : flatD dy = true) : eqV y x = PyData.eqv dy dx := by
  cases px <;> first | cases e1 | skip
  all_goals cases py <;> first | cases e2 | skip
  all_goals first
    | rfl
    | (simp [eqV, PyData.eqv]; done)
    | (simp only [eqV, PyData.eqv]; first | rfl | (rename_i i j; by_cases z : j = i <;> simp [z]; done))
theorem inV_rp {K : Fg} {F : Hp} {x : V} {dx : D} (px : Rp K F x dx) (e1 : flatD dx = true) : ∀ {vs : List V} {ds : List D}, RpA K F vs ds → ds.all flatD = true → inV x vs = inD dx ds
  | _, _, .nil, _ => rfl
  | _, _, .cons h t, e => by
    rw [List.all_cons, Bool.and_eq_true] at e
    have ih := inV_rp px e1 t e.2
    unfold inV inD at ih ⊢
    rw [List.any_cons, List.any_cons, eqV_rp px h e1 e.1, ih]
theorem opok_in {K : Fg} {neg : Bool} : OpOkB K (rInA K neg) (fIn neg) := by
  intro pin B F0 F H σ ρ x y dx dy Q R r px py hq k
  cases dy <;> first | exact False.elim hq | skip
  · rename_i ds
    obtain ⟨a, xs, rfl, hs, ra⟩ := py.lst r.sub
    refine .inl ⟨a, xs, rfl, .inl hs, flat_rp px hq.1, flats_rp ra hq.2.1, ?_⟩
    rw [inV_rp px hq.1 ra hq.2.1]
    exact k _ H F _ (Le.refl F) r (.bl _) hq.2.2
  · rename_i ds
    obtain ⟨a, xs, rfl, hs, ra⟩ := py.tup r.sub
    refine .inl ⟨a, xs, rfl, .inr hs, flat_rp px hq.1, flats_rp ra hq.2.1, ?_⟩
    rw [inV_rp px hq.1 ra hq.2.1]
    exact k _ H F _ (Le.refl F) r (.bl _) hq.2.2
  · rename_i kvs
    obtain ⟨a, vs, es, rfl, hr, e1, ra, rfl⟩ := py.dct r.sub
    obtain ⟨kk, ek, q⟩ := hq
    have hk := rp_key px ek
    rcases look_rp (k := kk) e1 ra with ⟨z1, z2⟩ | ⟨v, d', z1, z2, p⟩
    · refine .inr ⟨a, none, rfl, .inl ⟨vs, kk, hr, hk, z2.symm⟩, ?_⟩
      rw [z1] at q
      exact k _ H F _ (Le.refl F) r (.bl _) q
    · refine .inr ⟨a, some v, rfl, .inl ⟨vs, kk, hr, hk, z2.symm⟩, ?_⟩
      rw [z1] at q
      exact k _ H F _ (Le.refl F) r (.bl _) q
/-! ### two arguments: max, min -/
def C2 (K : Fg) (r : RC) (f : D → D → (D → Prop) → Prop) : Prop := ∀ (pin : Nat → Addr → Prop) (B F0 F H : Hp) (σ : L2.St) (ρ : En) (x y : V) (dx dy : D) (Q : D → Prop) (R : VK), RE K pin B F0 F H σ ρ → Rp K F x dx → Rp K F y dy → f dx dy Q →
  (∀ v H' F' d', Le F F' → RE K pin B F0 F' H' σ ρ → Rp K F' v d' → Q d' → R v H') → r [x, y] H R
theorem VEok.c2 {K : Fg} {r : RC} {f : D → D → (D → Prop) → Prop} (hr : C2 K r f) (ha : VEok K ta wa) (hb : VEok K tb wb) : VEok K (tCB r (tCons ta (tCons tb tNil))) (wOp f wa wb) := fun pin B F0 F H σ ρ Q R rr hw k =>
  ha pin B F0 F H σ ρ _ _ rr hw fun x H1 F1 dx ρ1 l1 r1 p1 q1 => hb pin B F0 F1 H1 σ ρ1 _ _ r1 q1 fun y H2 F2 dy ρ2 l2 r2 p2 q2 => hr pin B F0 F2 H2 σ ρ2 x y dx dy _ _ r2 (p1.le l2) p2 q2 fun v H3 F3 d l3 r3 p3 q3 => k v H3 F3 d ρ2 ((l1.trans l2).trans l3) r3 p3 q3
theorem ve_b2 {r : RC} {f : D → D → (D → Prop) → Prop} (hc : CallR X (.builtin id) r) (hr : C2 X.K r f) (hg : Gl X x) (hm : X.mg x = none) (hv : bootBuiltins x = some (.builtin id)) (ha : VE X a ta wa) (hb : VE X b tb wb) (hn : x ≠ "__name__" := by decide) (hdb : (x == ("__debug__" : Str)) = false := by decide)
    (hs : starEach [a, b] X.env = (false, eval a X.env) :: starEach [b] X.env := by rfl) (hs2 : starEach [b] X.env = [(false, eval b X.env)] := by rfl) (hpl : (backTo pos (starEach [b] X.env)).any (·.1) = false := by rfl) : VE X (.Call (.Name x p) [a, b] [] pos) (tCB r (tCons ta (tCons tb tNil))) (wOp f wa wb) :=
  ⟨pe_callB hc hg hm hv (pa_cons ha.p (pa_cons hb.p pa_nil hs2) hs) hn hdb hs hpl, .c2 hr ha.ok hb.ok⟩
theorem c2_max {K : Fg} : C2 K (fun xs H Q => ∃ i j, xs = [.int i, .int j] ∧ Q (.int (if j > i then j else i)) H) (fI0 fun i j => .int (if j > i then j else i)) := by
  intro pin B F0 F H σ ρ x y dx dy Q R r px py hq k
  cases px <;> cases py <;> first | exact False.elim hq | skip
  exact ⟨_, _, rfl, k _ H F _ (Le.refl F) r (.int _) hq⟩
theorem c2_min {K : Fg} : C2 K (fun xs H Q => ∃ i j, xs = [.int i, .int j] ∧ Q (.int (if j < i then j else i)) H) (fI0 fun i j => .int (if j < i then j else i)) := by
  intro pin B F0 F H σ ρ x y dx dy Q R r px py hq k
  cases px <;> cases py <;> first | exact False.elim hq | skip
  exact ⟨_, _, rfl, k _ H F _ (Le.refl F) r (.int _) hq⟩
/-! ### isinstance(x, T), T a built-in class -/
def tyN : D → String
  | .none => "NoneType" | .bool _ => "bool" | .int _ => "int" | .str _ => "str" | .list _ => "list" | .tuple _ => "tuple" | .dict _ => "dict"
def isiB (n T : String) : Bool := n == T || (n == "bool" && T == "int")
def IsiOk (T : String) : Prop := ∀ n ∈ ["NoneType", "bool", "int", "str", "list", "tuple", "dict"], kitB n T = some (isiB n T)
theorem tyX_rp {K : Fg} {F H : Hp} (s : Sub F H) {v : V} {d : D} (h : Rp K F v d) : TyX K H v (.type (tyN d)) := by
  cases h with
  | non => exact .base .non
  | bl b => exact .base (.bl b)
  | int b => exact .base (.int b)
  | str b => exact .base (.str b)
  | lst h r =>
    rcases s.sqL h with (h | ⟨o, h⟩) | ⟨o, its, n, h, hc, _⟩
    · exact .base (.lst h)
    · exact .base (.frz h)
    · exact .kList h hc
  | tup h r =>
    rcases s.sqT h with (h | ⟨o, h⟩) | ⟨o, its, n, h, hc, _⟩
    · exact .base (.tup h)
    · exact .fTuple h
    · exact .kTuple h hc
  | dct h r =>
    rcases s _ _ h with h | ⟨o, h⟩
    · exact .base (.dK h)
    · exact .fDict h
def wIsi (T : String) (we : WE) : WE := fun ρ Q => we ρ fun d ρ' => Q (.bool (isiB (tyN d) T)) ρ'
theorem ve_isi {T : String} {y : Str} {p2 : Pos} {v : Value} (ok : IsiOk T) (hg : Gl X "isinstance") (hm : X.mg "isinstance" = none) (h : VE X e te we) (ht : PE X (.Name y p2) (tC (.ty T)))
    (hs : starEach [e, .Name y p2] X.env = (false, eval e X.env) :: starEach [.Name y p2] X.env := by rfl) (hs2 : starEach [.Name y p2] X.env = [(false, eval (.Name y p2) X.env)] := by rfl) (hpl : (backTo pos (starEach [.Name y p2] X.env)).any (·.1) = false := by rfl) :
    VE X (.Call (.Name "isinstance" p) [e, .Name y p2] [] pos) (tCB (rIsi X.K) (tCons te (tCons (tC (.ty T)) tNil))) (wIsi T we) :=
  ⟨pe_callB call_isi hg hm (by decide +kernel) (pa_cons h.p (pa_cons ht pa_nil hs2) hs) (by decide) (by decide) hs hpl, fun pin B F0 F H σ ρ Q R r hw k => h.ok pin B F0 F H σ ρ _ _ r hw fun v H' F' d ρ' le r' p q =>
    ⟨v, .ty T, .type (tyN d), .type T, isiB (tyN d) T, rfl, .ty T, tyX_rp r'.sub p, kit_ty (ok _ (by cases d <;> simp [tyN])), k _ H' F' _ ρ' le r' (.bl _) q⟩⟩
/-! ### -x -/
def wNeg (we : WE) : WE := fun ρ Q => we ρ fun d ρ' => match d with
  | .int i => Q (.int (-i)) ρ'
  | _ => False
theorem ve_neg (h : VE X e te we) : VE X (.UnaryOp .USub e pos) (tUn (rU fun i => .int (-i)) te) (wNeg we) := ⟨pe_un un_neg h.p, fun pin B F0 F H σ ρ Q R r hw k => h.ok pin B F0 F H σ ρ _ _ r hw fun v H' F' d ρ' le r' p q => by
  cases p <;> first | exact False.elim q | exact ⟨_, rfl, k _ H' F' _ ρ' le r' (.int _) q⟩⟩
/-! ### methods of what a slot holds -/
/-- d.get(k) -/
def wGet (i : Nat) (wk : WE) : WE := fun ρ Q => wPeek i ρ fun _ _ => wk ρ fun kd ρ1 => wPeek i ρ1 fun d ρ2 => match d with
  | .dict kvs => ∃ k, dKey kd = some k ∧ Q ((lookD kvs k).getD .none) ρ2
  | _ => False
theorem isD_rp {K : Fg} {F H : Hp} {v : V} {d : D} {kvs : List (D × D)} (s : Sub F H) (h : RpB K F H v d) (e : d = .dict kvs) : ∃ a, v = .ref a ∧ IsD H a := by
  subst e
  obtain ⟨a, vs, es, rfl, hr, _⟩ := h.dct s
  exact ⟨a, rfl, .inl ⟨vs, hr⟩⟩
def isDict : D → Bool
  | .dict _ => true
  | _ => false
def wGetN (i : Nat) (wk : WE) : WE := fun ρ Q => wPeek i ρ fun d _ => isDict d = true ∧ wk ρ fun kd ρ1 => wPeek i ρ1 fun d ρ2 => match d with
  | .dict kvs => ∃ k, dKey kd = some k ∧ Q ((lookD kvs k).getD .none) ρ2
  | _ => False
theorem ve_get {i : Nat} (hu : X.A.units + 1 < cLine) (ho : PE X (.Name x p) (tVar i)) (hk : VE X e te we) (m : M1 X (.Name x p) "get" apos e cpos) : VE X (.Call (.Attribute (.Name x p) "get" apos) [e] [] cpos) (tDGet1 (tVar i) te) (wGetN i we) :=
  ⟨pe_dget1 hu ho hk.p m, fun pin B F0 F H σ ρ Q R r hw kk => by
    obtain ⟨v, d, ev, pb, hd, hw2⟩ := peek_rp r hw
    cases d <;> first | (exact Bool.noConfusion hd) | skip
    obtain ⟨a, rfl, isd⟩ := isD_rp r.sub pb rfl
    refine ⟨.ref a, ev, a, rfl, isd, hk.ok pin B F0 F H σ ρ _ _ r hw2 fun y H2 F2 dy ρ2 l2 r2 p2 q2 => ?_⟩
    obtain ⟨v', d', ev', pb', q3⟩ := peek_rp r2 q2
    rw [ev] at ev'; cases ev'
    cases d' <;> first | exact False.elim q3 | skip
    obtain ⟨a', vs, es, ea, hr, e1, ra, rfl⟩ := pb'.dct r2.sub
    cases ea
    obtain ⟨k, ek, q⟩ := q3
    rcases look_rp (k := k) e1 ra with ⟨z1, z2⟩ | ⟨v, d', z1, z2, pp⟩
    · rw [z1] at q
      exact ⟨none, .inl ⟨vs, k, hr, rp_key p2 ek, z2.symm⟩, kk _ H2 F2 _ ρ2 l2 r2 .non q⟩
    · rw [z1] at q
      exact ⟨some v, .inl ⟨vs, k, hr, rp_key p2 ek, z2.symm⟩, kk _ H2 F2 _ ρ2 l2 r2 pp q⟩⟩
/-- d.pop(k, x) of an owned dict -/
def lookE (es : List (Key × D)) (k : Key) : Option D := (es.find? fun kv => decide (kv.1 = k)).map (·.2)
theorem lookE_eq (es : List (Key × D)) (k : Key) : lookE es k = lookD (es.map fun (p : Key × D) => (kD p.1, p.2)) k := by
  induction es with
  | nil => rfl
  | cons e es ih =>
    unfold lookE lookD at ih ⊢
    rw [List.map_cons, List.find?_cons, List.find?_cons]
    by_cases z : e.1 = k
    · rw [decide_eq_true z, decide_eq_true (show dKey (kD e.1) = some k by rw [dKey_kD, z])]; rfl
    · have z1 : decide (dKey (kD e.1) = some k) = false := decide_eq_false (by rw [dKey_kD]; exact fun y => z (Option.some.inj y))
      dsimp only
      rw [decide_eq_false z, z1]
      exact ih
def wPop2 (i : Nat) (wk wx : WE) : WE := fun ρ Q => match ρ[i]? with
  | some (.o _ (.k _)) => wk ρ fun kd ρ1 => wx ρ1 fun xd ρ2 => match ρ2[i]? with
    | some (.o b (.k es)) => ∃ k, dKey kd = some k ∧ (∀ d, lookE es k = some d → Q d (ρ2.set i (.o b (.k (dropE es k))))) ∧ (lookE es k = none → Q xd ρ2)
    | _ => False
  | _ => False
theorem ve_pop2 {i : Nat} (ho : PE X (.Name x p) (tVar i)) (hk : VE X e te we) (hx : VE X a ta wa) (m : M2 X (.Name x p) "pop" apos e a cpos) : VE X (.Call (.Attribute (.Name x p) "pop" apos) [e, a] [] cpos) (tDPop2 (tVar i) te ta) (wPop2 i we wa) :=
  ⟨pe_dpop2 ho hk.p hx.p m, fun pin B F0 F H σ ρ Q R r hw kk => by
    unfold wPop2 at hw
    split at hw <;> first | exact False.elim hw | skip
    rename_i b0 es0 e0
    obtain ⟨q, o, ev, ha, hc⟩ := r.get_o e0
    cases o <;> first | exact False.elim hc | skip
    rename_i kvs0
    refine ⟨.ref q, ev, q, rfl, .inl ⟨kvs0, .inl ha⟩, hk.ok pin B F0 F H σ ρ _ _ r hw fun y H2 F2 dy ρ2 l2 r2 p2 q2 => hx.ok pin B F0 F2 H2 σ ρ2 _ _ r2 q2 fun z H3 F3 dz ρ3 l3 r3 p3 q3 => ?_⟩
    split at q3 <;> first | exact False.elim q3 | skip
    rename_i b es e3
    obtain ⟨q', o', ev', ha', hc'⟩ := r3.get_o e3
    rw [ev] at ev'; cases ev'
    cases o' <;> first | exact False.elim hc' | skip
    rename_i kvs
    obtain ⟨k, ek, g1, g2⟩ := q3
    refine ⟨kvs, k, ha', rp_key p2 ek, fun v hv => ?_, fun hv => ?_⟩
    · rcases look_rp (k := k) hc'.1 hc'.2 with ⟨_, z2⟩ | ⟨v', d', z1, z2, pp⟩
      · rw [hv] at z2; cases z2
      · rw [hv] at z2; cases z2
        rw [← lookE_eq] at z1
        exact kk _ _ F3 _ _ (l2.trans l3) (r3.write (c' := .k (dropE es k)) e3 ev (dropK_rp hc'.1 hc'.2)) pp (g1 d' z1)
    · rcases look_rp (k := k) hc'.1 hc'.2 with ⟨z1, _⟩ | ⟨v', d', z1, z2, pp⟩
      · rw [← lookE_eq] at z1
        exact kk _ H3 F3 _ ρ3 (l2.trans l3) r3 p3 (g2 z1)
      · rw [hv] at z2; cases z2⟩
/-- x.append(e) -/
def wAppend (i : Nat) (we : WE) : WE := fun ρ Q => match ρ[i]? with
  | some (.o _ (.l _)) => we ρ fun d ρ1 => match ρ1[i]? with
    | some (.o b (.l ds)) => ds.length < sizeLine ∧ Q .none (ρ1.set i (.o b (.l (ds ++ [d]))))
    | _ => False
  | _ => False
theorem ve_append {i : Nat} (ho : PE X (.Name x p) (tVar i)) (h : VE X e te we) (hp : PE X (.Call (.Attribute (.Name x p) "append" apos) [e] [] cpos) (tBM X.K "list" rAppend (tVar i) (tCons te tNil))) : VE X (.Call (.Attribute (.Name x p) "append" apos) [e] [] cpos) (tBM X.K "list" rAppend (tVar i) (tCons te tNil)) (wAppend i we) :=
  ⟨hp, fun pin B F0 F H σ ρ Q R r hw kk => by
    unfold wAppend at hw
    split at hw <;> first | exact False.elim hw | skip
    rename_i b0 ds0 e0
    obtain ⟨q, o, ev, ha, hc⟩ := r.get_o e0
    cases o <;> first | exact False.elim hc | skip
    rename_i xs0
    refine ⟨.ref q, ev, .inl ⟨rfl, xs0, .inl (.inl ha)⟩, h.ok pin B F0 F H σ ρ _ _ r hw fun y H2 F2 dy ρ2 l2 r2 p2 q2 => ?_⟩
    split at q2 <;> first | exact False.elim q2 | skip
    rename_i b ds e3
    obtain ⟨q', o', ev', ha', hc'⟩ := r2.get_o e3
    rw [ev] at ev'; cases ev'
    cases o' <;> first | exact False.elim hc' | skip
    rename_i xs
    have hl : xs.length = ds.length := RpA.length hc'
    exact ⟨q, xs, y, rfl, rfl, ha', by rw [hl]; exact q2.1, kk _ _ F2 _ _ l2 (r2.write (c' := .l (ds ++ [dy])) e3 ev (RpA.append hc' (.cons p2 .nil))) .non q2.2⟩⟩
/-! ### x += e (ints) -/
def wAug (i : Nat) (f : Int → Int → Int) (we : WE) : WS := fun D ρ => match ρ[i]? with
  | some (.d (.int z)) => we ρ fun d ρ' => match d with
    | .int y => D.nx (ρ'.set i (.d (.int (f z y))))
    | _ => False
  | _ => False
theorem vs_aug {i : Nat} {op : Operator} {f : Int → Int → Int} {pos' : Pos} (hp : PS X (.AugAssign (.Name x pos') op e pos) (tAug i te (ipI f))) (h : VE X e te we) : VS X (.AugAssign (.Name x pos') op e pos) (tAug i te (ipI f)) (wAug i f we) :=
  ⟨hp, fun pin B F0 F H σ ρ D E r hw ke => by
    unfold wAug at hw
    split at hw <;> first | exact False.elim hw | skip
    rename_i z e0
    obtain ⟨v, e1, hv⟩ := r.get_d e0
    cases hv
    refine ⟨_, e1, h.ok pin B F0 F H σ ρ _ _ r hw fun y H' F' d ρ' le r' p q => ?_⟩
    cases p <;> first | exact False.elim q | exact ⟨_, _, rfl, rfl, ke.nx _ H' F' _ le (r'.setD (.int _)) q⟩⟩
/-! ### [x] * n -/
def wRepL (wl : WF) (we : WE) : WF := fun ρ Q => wl ρ fun c ρ1 => we ρ1 fun d ρ2 => match c, d with
  | .l ds, .int n => -(2 ^ 63) ≤ n ∧ n < 2 ^ 63 ∧ ds.length * n.toNat ≤ sizeLine ∧ Q (.l (List.replicate n.toNat ds).flatten) ρ2
  | _, _ => False
theorem vf_rep {wl : WF} (h : VF X a ta wl) (h2 : VE X e te we) : VF X (.BinOp a .Mult e pos) (tOp rRep ta te) (wRepL wl we) := ⟨pe_op op_rep h.p h2.p, fun pin B F0 F H σ ρ Q R r hw k =>
  h.ok pin B F0 F H σ ρ _ _ r hw fun q o H1 F1 c ρ1 l1 r1 lo hc q1 => h2.ok pin _ F1 F1 H1 σ ρ1 _ _ (r1.hide lo) q1 fun v H2 F2 d ρ2 l2 r2 p2 q2 => by
    obtain ⟨r3, lo3⟩ := r1.show lo r2
    cases c <;> cases d <;> first | exact False.elim q2 | skip
    cases p2
    cases o <;> first | exact False.elim hc | skip
    rename_i ds n xs
    have hl : xs.length = ds.length := RpA.length hc
    exact ⟨q, n, xs, rfl, rfl, lo3.h, q2.1, q2.2.1, by rw [hl]; exact q2.2.2.1, fun p hp => k p _ _ F2 (.l _) ρ2 (l1.trans l2) (r3.lay hp) (r3.lays hp) (RpA.flat (RpA.le l2 hc) _) q2.2.2.2⟩⟩
end
end G

namespace G
open PySem PySem.Spec PyProof.Rows L2
/-- the script's abstract heap: nothing but the script, locked -/
theorem law_g {P : Program} {w : World} {K : Fg} {mg mb : Str → Option Value} {k : Nat} {fa a : Addr} {fd : FuncData} {x : Str} {sp : Sp} {s1 : Shared} {vs : List Value} {ns : List Int}
    (KX : K.In s1.heap) (hns : s1.heap.Ns mainGlobals mg) (hb : s1.heap.Ns builtinsNs mb) (hbb : ∀ x : Str, x ≠ "__name__" → mb x = bootBuiltins x) (hlim : s1.heap.NoLimit) (hg : s1.gens = #[])
    (ha : s1.heap.get? a = some { cls := .type "list", data := .seq vs.toArray }) (hi : IntsAre vs ns) (hl : ns.length ≤ sizeLine) (room : Room k callerA)
    (F : ∀ base : Heap, K.In base → base.Ns mainGlobals mg → FnG P w K mg base k fa fd [x] sp) (hbind : ∀ (s : Shared) (u : Value), BindsTo s fd ⟨[u], []⟩ [(x, u)])
    (hsp : ∀ H : Hp, SqL K H a (ns.map V.int) → sp [.ref a] H (fun v _ => v = .bl true) fun _ _ _ => False) :
    codeAny (model P w) callerA (.call (.ref fa) ⟨[.ref a], []⟩) (fun r s' => r = .ok (.ret (.bool true)) ∧ OldK s1.heap s'.heap ∧ s'.os = s1.os ∧ AllBare s'.gens) s1 := by
  have rv := vals_ints hi
  let ob : Obj := { cls := .type "list", data := .seq vs.toArray }
  let H : Hp := fun b => if b = a ∧ K.lookup a = none then some (.frz ob (.lst (ns.map V.int))) else none
  have hS : SqL K H a (ns.map V.int) := by
    cases hk : K.lookup a with
    | none => exact .inl (.inr ⟨ob, if_pos ⟨rfl, hk⟩⟩)
    | some o =>
      have e := KX a o hk
      rw [ha] at e; cases e
      exact .inr ⟨_, vs.toArray, _, hk, rfl, rfl, rfl, by rw [List.size_toArray, hi.length]; exact hl, by simpa using rv⟩
  have at_ : ∀ {b u}, H b = some u → b = a ∧ K.lookup a = none ∧ u = .frz ob (.lst (ns.map V.int)) := fun {b u} e => by
    by_cases hc : b = a ∧ K.lookup a = none
    · have e2 : H b = some (.frz ob (.lst (ns.map V.int))) := if_pos hc
      rw [e2] at e; cases e
      exact ⟨hc.1, hc.2, rfl⟩
    · have e2 : H b = none := if_neg hc
      rw [e2] at e; cases e
  have hok : HOk P w H s1.heap := fun b u e => by
    obtain ⟨rfl, _, rfl⟩ := at_ e
    exact ⟨ha, by rw [List.length_map]; exact hl, vs, _, rv, ha⟩
  have noD : ∀ {b : Addr} {o : Obj} {es : Array DictEntry} {ep : Nat}, s1.heap.get? b = some o → o.data = .dict es ep → H b = none := fun {b o es ep} e d => by
    cases q : H b with
    | none => rfl
    | some u =>
      obtain ⟨rfl, _, _⟩ := at_ q
      rw [ha] at e; cases e
      cases d
  have ns_ : ∀ {b : Addr} {m : Str → Option Value}, s1.heap.Ns b m → (hidT s1.heap H).Ns b m := fun {b m} ⟨o, es, ep, e, d, r⟩ => ⟨o, es, ep, hidT_get e (noD e d), d, r⟩
  have kin : K.In (hidT s1.heap H) := fun b o e => hidT_get (KX b o e) (by
    cases q : H b with
    | none => rfl
    | some u =>
      obtain ⟨rfl, hk, _⟩ := at_ q
      rw [hk] at e; cases e)
  have hM : Mod K mg (hidT s1.heap H) := ⟨kin, ns_ hns, ⟨mb, ns_ hb, hbb⟩, hlim.imp fun mc h => ⟨ns_ h.1, h.2⟩⟩
  have e0 : Env0 P w K mg (hidT s1.heap H) callerA [] s1 H := ⟨rfl, hM, fun b o e => of_hidT e, Nat.le_of_eq (hidT_size _ _), trivial, fun b hb => (List.not_mem_nil hb).elim, hok, .of_eq hg⟩
  refine codeAny_mono ((F _ kin (ns_ hns)).run callerA [] s1 H ⟨[.ref a], []⟩ [.ref a] [.ref a] _ _ room rfl e0 (hbind s1 (.ref a)) (.cons rfl .nil) (hsp H hS)) fun r s' h => ?_
  cases r with
  | error e => exact h.elim
  | ok fl =>
    cases fl with
    | next => exact h.elim
    | brk => exact h.elim
    | cont => exact h.elim
    | ret u =>
      obtain ⟨v, H', os, bare, un, hok', r', q⟩ := h
      subst q
      obtain rfl : u = Value.bool true := r'
      refine ⟨rfl, OldK.of_keep fun b o e => ?_, os, bare⟩
      cases q : H b with
      | none => exact un.keep b o e q (fun z => (List.not_mem_nil z).elim) (fun z => (List.not_mem_nil z).elim)
      | some u =>
        obtain ⟨rfl, _, rfl⟩ := at_ q
        have z1 := (hok _ _ q).1
        have z2 := (hok' _ _ (un.frzs _ _ _ q)).1
        rw [e] at z1; cases z1
        exact z2
/-- what the law is asked: a list of at most n ints, none longer than 2 ^ 20 bits; it is to tell True -/
def LawOk (n : Nat) (spec : Spc) : Prop := ∀ ns : List Int, ns.length ≤ n → (∀ z ∈ ns, Builtin.Int.intBits z ≤ 1048576) → spec [.d (.list (ns.map .int))] fun r _ => r = .fz (.bool true)
theorem walk_g {l : PySem.W.OpenLaw} {n k : Nat} {q : Program} {loose : List Str} {XP : (Str → Option Value) → Heap → Prop} {YP : World → Heap → Prop} {d : DefRec} {K : Params → Fg} {spec : Spc} {x : Str}
    (hn : l.most = some n) (hn2 : n ≤ sizeLine) (hdf : d.params.defaults = []) (room : Room k callerA) (hY : ∀ (w : World) (h : Heap), YP w h → (K w.params).In h)
    (F : ∀ (w : World) (mg : Str → Option Value) (fa : Addr) (h : Heap), (K w.params).In h → h.Ns mainGlobals mg → mg d.name = some (.ref fa) →
      ∃ fd : FuncData, (∀ (s : Shared) (u : Value), BindsTo s fd ⟨[u], []⟩ [(x, u)]) ∧ ∀ base : Heap, (K w.params).In base → base.Ns mainGlobals mg → FnG l.prog w (K w.params) mg base k fa fd [x] (spOf (K w.params) spec))
    (hsp : LawOk n spec) : PySem.W.WalkO q loose XP YP l.row.toRowW d [] (fun f vs => PySem.call f vs) := by
  refine Att.attach_callB hn hdf fun w s0 s1 mg mb fa o pm cd doc a vs ns G Y ho hd hcd hmg hobj hints hlen hbits hg => ?_
  have KX := hY w _ Y
  obtain ⟨fd, hb, hF⟩ := F w mg fa _ KX G.T.g hmg
  refine law_g KX G.T.g G.T.b G.T.builtins G.T.nolimit hg hobj hints (Nat.le_trans hlen hn2) room hF hb fun H hS => ?_
  refine ⟨H, [.d (.list (ns.map .int))], _, ?_, hsp ns hlen hbits, fun r outs v H' F' hr le r2 ro => ?_⟩
  · have base : RE (K w.params) (fun _ _ => True) H H H H [] [] := ⟨rfl, .of_le (Le.refl H), Sub.refl H, fun _ h => .inl h, fun i s e => by simp at e, fun i j a h => by obtain ⟨⟨b, c, e⟩, _⟩ := h; simp at e⟩
    exact base.args (vs := [.ref a]) (ds := [.list (ns.map .int)]) (.cons (.lst hS (RpA.ints ns)) .nil)
  · subst hr
    cases ro
    rfl
end G

namespace G
open PySem PySem.Spec PyProof.Rows L2
section
variable {X : Cx} {a b c e : Expr} {rest es : List Expr} {pos apos cpos p : Pos} {ta tb te : TE} {wa wb we : WE} {x : Str} {id T : String}
/-! ### is not -/
def rNIsB : R2 := fun x y H Q => ∃ a b, x = .bl a ∧ y = .bl b ∧ Q (.bl (!decide (a = b))) H
def fIsNot : D → D → (D → Prop) → Prop := fun x y Q => match x, y with
  | x, .none => Q (.bool (!isNone x))
  | .bool a, .bool b => Q (.bool (!(a == b)))
  | _, _ => False
theorem opok_isnot {K : Fg} : OpOk K (rOr rNotN rNIsB) fIsNot := by
  intro pin B F0 F H σ ρ x y dx dy Q R r px py hq k
  cases py with
  | non =>
    refine .inl ⟨rfl, ?_⟩
    rw [none_rp px]
    exact k _ H F _ (Le.refl F) r (.bl _) (by cases dx <;> exact hq)
  | bl b =>
    cases px <;> first | exact False.elim hq | skip
    rename_i a
    refine .inr ⟨a, b, rfl, rfl, ?_⟩
    refine k _ H F (.bool (!(a == b))) (Le.refl F) r ?_ hq
    cases a <;> cases b <;> exact .bl _
  | int _ => cases px <;> exact False.elim hq
  | str _ => cases px <;> exact False.elim hq
  | lst _ _ => cases px <;> exact False.elim hq
  | tup _ _ => cases px <;> exact False.elim hq
  | dct _ _ => cases px <;> exact False.elim hq
theorem op_isnotA : OpR X (compareOp .IsNot) (rOr rNotN rNIsB) := OpR.or op_notN op_isnot_bl
/-! ### products -/
def CMulA (i j : Int) : Prop := CMul i j ∨ CMulW i j
theorem op_mulA : OpR X (binaryOp .Mult) (rI CMulA fun i j => .int (i * j)) := fun pins s σ H x y v u Q I rx ry h => by
  obtain ⟨i, j, e1, e2, hc, q⟩ := h
  rcases hc with hc | hc
  · exact op_mul pins s σ H x y v u Q I rx ry ⟨i, j, e1, e2, hc, q⟩
  · exact op_mulW pins s σ H x y v u Q I rx ry ⟨i, j, e1, e2, hc, q⟩
/-! ### dict(pairs) -/
def mergeE (es more : List (Key × D)) : List (Key × D) := more.foldl (fun acc kv => putE acc kv.1 kv.2) es
def fDict : D → (Ct → Prop) → Prop := fun d Q => ∃ kvs : List (Key × D), d = .list (kvs.map fun (p : Key × D) => .tuple [kD p.1, p.2]) ∧ Q (.k (mergeE [] kvs))
def rDictP (K : Fg) : RC := fun xs H Q => ∃ (a : Addr) (ps : List Addr) (kvs : List (Key × V)), xs = [.ref a] ∧ SqL K H a (ps.map V.ref) ∧ Paired (fun p kv => SqT K H p [kV kv.1, kv.2]) ps kvs ∧ ∀ p, H p = none → Q (.ref p) (upd H p (.dK (mergeK [] kvs)))
theorem kD_rp {K : Fg} {F : Hp} {v : V} {k : Key} (h : Rp K F v (kD k)) : v = kV k := rp_key h (dKey_kD k)
theorem pairs_rp {K : Fg} {F : Hp} : ∀ {vs : List V} {kvs : List (Key × D)}, RpA K F vs (kvs.map fun (p : Key × D) => .tuple [kD p.1, p.2]) →
    ∃ (ps : List Addr) (ws : List (Key × V)), vs = ps.map V.ref ∧ Paired (fun p kv => SqT K F p [kV kv.1, kv.2]) ps ws ∧ ws.map (·.1) = kvs.map (·.1) ∧ RpA K F (ws.map (·.2)) (kvs.map (·.2))
  | _, [], h => by cases h; exact ⟨[], [], rfl, .nil, rfl, .nil⟩
  | _, kv :: kvs, h => by
    cases h with
    | cons h t =>
      obtain ⟨ps, ws, e1, e2, e3, e4⟩ := pairs_rp t
      cases h with
      | tup hs ra =>
        rename_i a xs
        cases ra with
        | cons p1 ra =>
          cases ra with
          | cons p2 ra =>
            cases ra
            rename_i v1 v2
            rw [kD_rp p1] at hs
            exact ⟨a :: ps, (kv.1, v2) :: ws, by simp [e1], .cons hs e2, by simp [e3], .cons p2 e4⟩
theorem merge_rp {K : Fg} {F : Hp} : ∀ {ws : List (Key × V)} {kvs : List (Key × D)} {as : List (Key × V)} {bs : List (Key × D)}, ws.map (·.1) = kvs.map (·.1) → RpA K F (ws.map (·.2)) (kvs.map (·.2)) → as.map (·.1) = bs.map (·.1) → RpA K F (as.map (·.2)) (bs.map (·.2)) →
    (mergeK as ws).map (·.1) = (mergeE bs kvs).map (·.1) ∧ RpA K F ((mergeK as ws).map (·.2)) ((mergeE bs kvs).map (·.2))
  | [], [], as, bs, _, _, h3, h4 => ⟨h3, h4⟩
  | [], _ :: _, _, _, h, _, _, _ => by simp at h
  | _ :: _, [], _, _, h, _, _, _ => by simp at h
  | w :: ws, kv :: kvs, as, bs, h1, h2, h3, h4 => by
    simp only [List.map_cons, List.cons.injEq] at h1
    cases h2 with
    | cons p t =>
      obtain ⟨i1, i2⟩ := putK_rp (k := kv.1) p h3 h4
      have := merge_rp h1.2 t i1 i2
      unfold mergeK mergeE at this ⊢
      rw [List.foldl_cons, List.foldl_cons, h1.1]
      exact this
theorem Paired.sub {K : Fg} {F H : Hp} (s : Sub F H) : ∀ {ps : List Addr} {ws : List (Key × V)}, Paired (fun p (kv : Key × V) => SqT K F p [kV kv.1, kv.2]) ps ws → Paired (fun p (kv : Key × V) => SqT K H p [kV kv.1, kv.2]) ps ws
  | _, _, .nil => .nil
  | _, _, .cons h t => .cons (s.sqT h) (Paired.sub s t)
theorem c1_dict {K : Fg} : C1F K (rDictP K) fDict := by
  intro pin B F0 F H σ ρ x d Q R r px hq k
  obtain ⟨kvs, rfl, q⟩ := hq
  obtain ⟨a, xs, rfl, hs, ra⟩ := px.lst r.sub
  obtain ⟨ps, ws, rfl, e2, e3, e4⟩ := pairs_rp ra
  refine ⟨a, ps, ws, rfl, hs, Paired.sub r.sub e2, fun p hp => k p _ _ F (.k (mergeE [] kvs)) (Le.refl F) (r.lay hp) (r.lays hp) ?_ q⟩
  exact merge_rp e3 e4 rfl .nil
theorem cr_dict (hc : X.calm = true) : CallR X (.type "dict") (rDictP X.K) := call_dictP hc
/-! ### enumerate, reversed -/
def wEnum (we : WE) : WL := fun ρ Q => we ρ fun d ρ' => match d with
  | .list ds => Q (ds.mapIdx fun i d => .tuple [.int (i : Int), d]) ρ'
  | _ => False
theorem walk_enum {K : Fg} {F : Hp} {a : Addr} {xs : List V} {ds : List D} (h : SqL K F a xs) (r : RpA K F xs ds) : Walk K F (Ite K a) (ds.mapIdx fun i d => .tuple [.int (i : Int), d]) := fun F' H' le sb i => by
  have h' := sb.sqL ((le.sub).sqL h)
  refine ⟨fun d e => ?_, fun hl => ⟨xs, h', by rw [r.length]; simpa using hl⟩⟩
  rw [List.getElem?_mapIdx] at e
  cases q : ds[i]? with
  | none => rw [q] at e; cases e
  | some d0 =>
    rw [q] at e; cases e
    obtain ⟨v, e1, p⟩ := r.get q
    refine ⟨⟨xs, v, h', e1⟩, fun y H'' qq => .inr ?_⟩
    obtain ⟨T, x1, rfl, hT, rfl, c1⟩ := qq
    have z := c1 xs h'
    rw [e1] at z; cases z
    exact ⟨T, _, hT, rfl, pair_rp sb hT (.int _) (p.le le)⟩
theorem vi_enum {tpos : Pos} {elts : List Expr} {kk : Nat} (hg : Gl X "enumerate") (hm : X.mg "enumerate" = none) (h : VE X e te we) (hs : starEach [e] X.env = [(false, eval e X.env)] := by rfl) :
    VI X (.Tuple elts kk tpos) (.Call (.Name "enumerate" p) [e] [] pos) (iEnum X.K (tCons te tNil)) (wEnum we) :=
  ⟨pi_enum hg hm (pa_cons h.p pa_nil hs) hs, .of fun pin B F0 F H σ ρ Q R r hw k => h.ok pin B F0 F H σ ρ _ _ r hw fun v H' F' d ρ' le r' p q => by
    cases p <;> first | exact False.elim q | skip
    rename_i a xs ds hs ra
    exact ⟨a, xs, rfl, r'.sub.sqL hs, k _ H' F' _ ρ' le r' (walk_enum hs ra) q⟩⟩
def wRev (we : WE) : WL := fun ρ Q => we ρ fun d ρ' => match d with
  | .list ds => Q ds.reverse ρ'
  | _ => False
theorem walk_rev {K : Fg} {F : Hp} {a : Addr} {xs : List V} {ds : List D} (h : SqL K F a xs) (r : RpA K F xs ds) : Walk K F (Itv K a xs.length) ds.reverse := fun F' H' le sb i => by
  have h' := sb.sqL ((le.sub).sqL h)
  have hl := r.length
  refine ⟨fun d e => ?_, fun hl2 => by show xs.length ≤ i; simpa [hl] using hl2⟩
  have hi : i < ds.length := by
    have := (List.getElem?_eq_some_iff.mp e).1
    rwa [List.length_reverse] at this
  rw [List.getElem?_reverse hi] at e
  obtain ⟨v, e1, p⟩ := r.get e
  rw [← hl] at e1
  refine ⟨⟨by omega, xs, v, h', e1⟩, fun y H'' q => .inl ⟨q.1, ?_⟩⟩
  have := q.2 xs h'
  rw [e1] at this; cases this
  exact p.le le
theorem vi_rev {tg : Expr} (hg : Gl X "reversed") (hm : X.mg "reversed" = none) (h : VE X e te we) (hs : starEach [e] X.env = [(false, eval e X.env)] := by rfl) :
    VI X tg (.Call (.Name "reversed" p) [e] [] pos) (iRev X.K (tCons te tNil)) (wRev we) :=
  ⟨pi_reversed hg hm (pa_cons h.p pa_nil hs) hs, .of fun pin B F0 F H σ ρ Q R r hw k => h.ok pin B F0 F H σ ρ _ _ r hw fun v H' F' d ρ' le r' p q => by
    cases p <;> first | exact False.elim q | skip
    rename_i a xs ds hs ra
    exact ⟨a, xs, rfl, r'.sub.sqL hs, k _ H' F' _ ρ' le r' (walk_rev hs ra) q⟩⟩
/-! ### e.get(k) -/
def wGetE (wo wk : WE) : WE := fun ρ Q => wo ρ fun d ρ1 => isDict d = true ∧ wk ρ1 fun kd ρ2 => match d with
  | .dict kvs => ∃ k, dKey kd = some k ∧ Q ((lookD kvs k).getD .none) ρ2
  | _ => False
theorem ve_getE (hu : X.A.units + 1 < cLine) (ho : VE X a ta wa) (hk : VE X e te we) (m : M1 X a "get" apos e cpos) : VE X (.Call (.Attribute a "get" apos) [e] [] cpos) (tDGet1 ta te) (wGetE wa we) :=
  ⟨pe_dget1 hu ho.p hk.p m, fun pin B F0 F H σ ρ Q R r hw kk => ho.ok pin B F0 F H σ ρ _ _ r hw fun v H1 F1 d ρ1 l1 r1 p1 q1 => by
    obtain ⟨hd, q1⟩ := q1
    cases d <;> first | (exact Bool.noConfusion hd) | skip
    obtain ⟨a, rfl, isd⟩ := isD_rp r1.sub (.inl p1) rfl
    refine ⟨a, rfl, isd, hk.ok pin B F0 F1 H1 σ ρ1 _ _ r1 q1 fun y H2 F2 dy ρ2 l2 r2 p2 q2 => ?_⟩
    obtain ⟨a', vs, es, ea, hr, e1, ra, rfl⟩ := (RpB.dct (.inl (p1.le l2)) r2.sub)
    cases ea
    obtain ⟨k, ek, q⟩ := q2
    rcases look_rp (k := k) e1 ra with ⟨z1, z2⟩ | ⟨v, d', z1, z2, pp⟩
    · rw [z1] at q
      exact ⟨none, .inl ⟨vs, k, hr, rp_key p2 ek, z2.symm⟩, kk _ H2 F2 _ ρ2 (l1.trans l2) r2 .non q⟩
    · rw [z1] at q
      exact ⟨some v, .inl ⟨vs, k, hr, rp_key p2 ek, z2.symm⟩, kk _ H2 F2 _ ρ2 (l1.trans l2) r2 pp q⟩⟩
/-! ### a name of a built-in class as a value -/
theorem pe_ty {y : Str} {T : String} (hg : Gl X y) (hm : X.mg y = none) (hv : bootBuiltins y = some (.type T)) (hn : y ≠ "__name__" := by decide) (hdb : (y == ("__debug__" : Str)) = false := by decide) : PE X (.Name y p) (tC (.ty T)) := pe_bltn hg hm hv rfl hn hdb
end
end G

namespace G
open PySem PySem.Spec PyProof.Rows L2
def vd (n : Nat) (R : RetV → En → Prop) : VD := ⟨fun ρ => R (.fz .none) (outsOf n ρ), fun r ρ => R r (outsOf n ρ), fun _ => False, fun _ => False⟩
/-- what is to be shown of a def in values: n parameters, m further names -/
def Body (n m : Nat) (w : WS) (sp : Spc) : Prop := ∀ as R, sp as R → w (vd n R) (as ++ List.replicate m .no)
/-! ### how long data are when shown -/
mutual
def cost : D → Nat
  | .none => 4
  | .bool _ => 5
  | .int i => i.natAbs.log2 + 2
  | .str x => 10 * x.length + 2
  | .list xs => 2 + costs xs
  | .tuple xs => 3 + costs xs
  | .dict _ => 0
def costs : List D → Nat
  | [] => 0
  | x :: xs => cost x + 2 + costs xs
end
mutual
/-- may be shown, whatever its size -/
def fine : D → Bool
  | .none => true
  | .bool _ => true
  | .int i => decide (i.natAbs.log2 < 1900)
  | .str x => x.cps.toList.all fun c => decide (c < 16 ^ 8)
  | .list xs => fines xs
  | .tuple xs => fines xs
  | .dict _ => false
def fines : List D → Bool
  | [] => true
  | x :: xs => fine x && fines xs
end
mutual
theorem fine_show : ∀ d : D, fine d = true → d.showable = true ∧ d.hasDict = false
  | .none, _ => ⟨rfl, rfl⟩
  | .bool _, _ => ⟨rfl, rfl⟩
  | .int i, h => by
    simp only [fine, decide_eq_true_eq] at h
    simp only [PyData.showable, PyData.hasDict, decide_eq_true_eq, and_true]
    omega
  | .str _, _ => ⟨rfl, rfl⟩
  | .list xs, h => by simp only [fine] at h; simpa only [PyData.showable, PyData.hasDict] using fines_show xs h
  | .tuple xs, h => by simp only [fine] at h; simpa only [PyData.showable, PyData.hasDict] using fines_show xs h
  | .dict _, h => by simp [fine] at h
theorem fines_show : ∀ ds : List D, fines ds = true → PyData.showableAll ds = true ∧ PyData.hasDictAll ds = false
  | [], _ => ⟨rfl, rfl⟩
  | d :: ds, h => by
    simp only [fines, Bool.and_eq_true] at h
    have a := fine_show d h.1
    have b := fines_show ds h.2
    simp only [PyData.showableAll, PyData.hasDictAll, a.1, a.2, b.1, b.2, Bool.and_self, Bool.or_self, and_self]
end
theorem piled_list : ∀ ts : List Str, (listText ts).length ≤ piled ts + 2 := fun ts => by
  have aux : ∀ (ts : List Str) (k : Nat) (acc : Str), (textFrom k acc ts).length ≤ acc.length + piled ts := by
    intro ts
    induction ts with
    | nil => intro k acc; exact Nat.le_refl _
    | cons t r ih =>
      intro k acc
      have h := ih (k + 1) (acc ++ (if k > 0 then ", " else "" : String) ++ t)
      have e : (acc ++ (if k > 0 then ", " else "" : String) ++ t).length ≤ acc.length + 2 + t.length := by
        rw [strLen_append, strLen_append]
        split
        · have : ((", " : String) : Str).length = 2 := rfl
          omega
        · have : (("" : String) : Str).length = 0 := rfl
          omega
      have e2 : (textFrom k acc (t :: r)).length = (textFrom (k + 1) (acc ++ (if k > 0 then ", " else "" : String) ++ t) r).length := rfl
      have e3 : piled (t :: r) = t.length + 2 + piled r := by simp [piled]
      omega
  have h := aux ts 0 "["
  unfold listText
  rw [strLen_append]
  have e1 : (("[" : String) : Str).length = 1 := rfl
  have e2 : (("]" : String) : Str).length = 1 := rfl
  omega
theorem piled_tup : ∀ ts : List Str, (tupleText ts).length ≤ piled ts + 3 := fun ts => by
  unfold tupleText
  rw [strLen_append, strLen_append]
  have e1 : (("(" : String) : Str).length = 1 := rfl
  have e2 : ((if ts.length == 1 then ",)" else ")" : String) : Str).length ≤ 2 := by split <;> decide
  cases ts with
  | nil =>
    have : (Str.join ", " ([] : List Str)).length = 0 := rfl
    omega
  | cons t r =>
    have := join_length_add (t :: r) (by simp)
    omega
mutual
theorem shown_cost : ∀ d : D, fine d = true → d.shown.length ≤ cost d
  | .none, _ => by decide
  | .bool b, _ => by cases b <;> decide
  | .int i, h => by
    simp only [PyData.shown, cost]
    have := int_text_length_le (a := i) (k := i.natAbs.log2 + 1) (by omega) (by omega)
    have e : (Str.ofString (toString i)).length = (toString i).length := PySem.ofString_length _
    rw [e]; omega
  | .str x, h => by
    simp only [fine, List.all_eq_true, decide_eq_true_eq] at h
    simp only [PyData.shown, cost]
    exact StrLaws.reprText_len x h
  | .list xs, h => by
    simp only [fine] at h
    have := shownAll_cost xs h
    have e := piled_list (PyData.shownAll xs)
    simp only [PyData.shown, cost]; omega
  | .tuple xs, h => by
    simp only [fine] at h
    have := shownAll_cost xs h
    have e := piled_tup (PyData.shownAll xs)
    simp only [PyData.shown, cost]; omega
  | .dict _, h => by simp [fine] at h
theorem shownAll_cost : ∀ ds : List D, fines ds = true → piled (PyData.shownAll ds) ≤ costs ds
  | [], _ => by simp [PyData.shownAll, piled, costs]
  | d :: ds, h => by
    simp only [fines, Bool.and_eq_true] at h
    have a := shown_cost d h.1
    have b := shownAll_cost ds h.2
    have e : piled (PyData.shownAll (d :: ds)) = d.shown.length + 2 + piled (PyData.shownAll ds) := by simp [PyData.shownAll, piled]
    rw [e]; simp only [costs]; omega
end
theorem shows_of {d : D} (h : fine d = true) (hd : d.depth ≤ 60) (hc : cost d ≤ 16777216) : Shows d := ⟨(fine_show d h).1, (fine_show d h).2, hd, Nat.le_trans (shown_cost d h) hc⟩
theorem log2_le {i : Int} {k : Nat} (h0 : 0 ≤ i) (h : i < 2 ^ k) (hk : 0 < k) : i.natAbs.log2 < k := by
  by_cases z : i.natAbs = 0
  · rw [z]; simpa using hk
  · refine (Nat.log2_lt z).mpr ?_
    have e : (i.natAbs : Int) = i := Int.natAbs_of_nonneg h0
    have : (i.natAbs : Int) < ((2 ^ k : Nat) : Int) := by rw [e]; simpa using h
    exact Int.ofNat_lt.mp this
end G

namespace G
open PySem PySem.Spec PyProof.Rows L2
/-! ### small words for reading a value program -/
theorem exS {α : Type} {x : α} {P : α → Prop} : (∃ d, some x = some d ∧ P d) = P x := propext ⟨fun ⟨d, e, h⟩ => by cases e; exact h, fun h => ⟨x, rfl, h⟩⟩
theorem exSp {α : Type} {x : α} {P : α → Prop} {q : Prop} : (∃ d, q ∧ some x = some d ∧ P d) = (q ∧ P x) := propext ⟨fun ⟨d, hq, e, h⟩ => by cases e; exact ⟨hq, h⟩, fun h => ⟨x, h.1, rfl, h.2⟩⟩
theorem at0 {α : Type} {x : α} {xs : List α} : atI (x :: xs) 0 = some x := atI_nat (j := 0) rfl
theorem at1 {α : Type} {x y : α} {xs : List α} : atI (x :: y :: xs) 1 = some y := atI_nat (j := 1) rfl
theorem at2 {α : Type} {x y z : α} {xs : List α} : atI (x :: y :: z :: xs) 2 = some z := atI_nat (j := 2) rfl
theorem at3 {α : Type} {x y z u : α} {xs : List α} : atI (x :: y :: z :: u :: xs) 3 = some u := atI_nat (j := 3) rfl
theorem at4 {α : Type} {x y z u v : α} {xs : List α} : atI (x :: y :: z :: u :: v :: xs) 4 = some v := atI_nat (j := 4) rfl
theorem ixJ {n j : Nat} (hj : j < n) : ixN n (j : Int) = some j := by
  unfold ixN
  rw [if_pos (by omega), if_pos (by omega)]
  simp
theorem ix0 {n : Nat} : ixN (n + 1) 0 = some 0 := ixJ (j := 0) (by omega)
theorem ix1 {n : Nat} : ixN (n + 1 + 1) 1 = some 1 := ixJ (j := 1) (by omega)
theorem ix2 {n : Nat} : ixN (n + 1 + 1 + 1) 2 = some 2 := ixJ (j := 2) (by omega)
theorem atI_lt {α : Type} {xs : List α} {i : Int} (h0 : 0 ≤ i) (h : i < xs.length) : ∃ x, atI xs i = some x ∧ xs[i.toNat]? = some x := by
  obtain ⟨j, rfl⟩ : ∃ j : Nat, i = j := ⟨i.toNat, by omega⟩
  have hj : j < xs.length := by omega
  exact ⟨xs[j], atI_nat (List.getElem?_eq_getElem hj), by simp [hj]⟩
theorem eqvI {i j : Int} : PyData.eqv (.int i) (.int j) = decide (i = j) := by simp only [PyData.eqv]; by_cases h : i = j <;> simp [h]
theorem eqvS {i j : Str} : PyData.eqv (.str i) (.str j) = decide (i = j) := by simp only [PyData.eqv]; by_cases h : i = j <;> simp [h]
theorem eqvB {i j : Bool} : PyData.eqv (.bool i) (.bool j) = decide (i = j) := by simp only [PyData.eqv]; by_cases h : i = j <;> simp [h]
theorem scalI {i j : Int} : scalD (.int i) (.int j) = true := rfl
theorem scalS {i j : Str} : scalD (.str i) (.str j) = true := rfl
theorem scalB {i j : Bool} : scalD (.bool i) (.bool j) = true := rfl
theorem isi_none_int : isiB (tyN .none) "int" = false := by show isiB "NoneType" "int" = _; decide
theorem isi_none_bool : isiB (tyN .none) "bool" = false := by show isiB "NoneType" "bool" = _; decide
theorem isi_none_str : isiB (tyN .none) "str" = false := by show isiB "NoneType" "str" = _; decide
theorem isi_none_tuple : isiB (tyN .none) "tuple" = false := by show isiB "NoneType" "tuple" = _; decide
theorem isi_none_list : isiB (tyN .none) "list" = false := by show isiB "NoneType" "list" = _; decide
theorem isi_none_dict : isiB (tyN .none) "dict" = false := by show isiB "NoneType" "dict" = _; decide
theorem isi_bool_int {b : Bool} : isiB (tyN (.bool b)) "int" = true := by show isiB "bool" "int" = _; decide
theorem isi_bool_bool {b : Bool} : isiB (tyN (.bool b)) "bool" = true := by show isiB "bool" "bool" = _; decide
theorem isi_bool_str {b : Bool} : isiB (tyN (.bool b)) "str" = false := by show isiB "bool" "str" = _; decide
theorem isi_bool_tuple {b : Bool} : isiB (tyN (.bool b)) "tuple" = false := by show isiB "bool" "tuple" = _; decide
theorem isi_bool_list {b : Bool} : isiB (tyN (.bool b)) "list" = false := by show isiB "bool" "list" = _; decide
theorem isi_bool_dict {b : Bool} : isiB (tyN (.bool b)) "dict" = false := by show isiB "bool" "dict" = _; decide
theorem isi_int_int {i : Int} : isiB (tyN (.int i)) "int" = true := by show isiB "int" "int" = _; decide
theorem isi_int_bool {i : Int} : isiB (tyN (.int i)) "bool" = false := by show isiB "int" "bool" = _; decide
theorem isi_int_str {i : Int} : isiB (tyN (.int i)) "str" = false := by show isiB "int" "str" = _; decide
theorem isi_int_tuple {i : Int} : isiB (tyN (.int i)) "tuple" = false := by show isiB "int" "tuple" = _; decide
theorem isi_int_list {i : Int} : isiB (tyN (.int i)) "list" = false := by show isiB "int" "list" = _; decide
theorem isi_int_dict {i : Int} : isiB (tyN (.int i)) "dict" = false := by show isiB "int" "dict" = _; decide
theorem isi_str_int {z : Str} : isiB (tyN (.str z)) "int" = false := by show isiB "str" "int" = _; decide
theorem isi_str_bool {z : Str} : isiB (tyN (.str z)) "bool" = false := by show isiB "str" "bool" = _; decide
theorem isi_str_str {z : Str} : isiB (tyN (.str z)) "str" = true := by show isiB "str" "str" = _; decide
theorem isi_str_tuple {z : Str} : isiB (tyN (.str z)) "tuple" = false := by show isiB "str" "tuple" = _; decide
theorem isi_str_list {z : Str} : isiB (tyN (.str z)) "list" = false := by show isiB "str" "list" = _; decide
theorem isi_str_dict {z : Str} : isiB (tyN (.str z)) "dict" = false := by show isiB "str" "dict" = _; decide
theorem isi_list_int {ds : List D} : isiB (tyN (.list ds)) "int" = false := by show isiB "list" "int" = _; decide
theorem isi_list_bool {ds : List D} : isiB (tyN (.list ds)) "bool" = false := by show isiB "list" "bool" = _; decide
theorem isi_list_str {ds : List D} : isiB (tyN (.list ds)) "str" = false := by show isiB "list" "str" = _; decide
theorem isi_list_tuple {ds : List D} : isiB (tyN (.list ds)) "tuple" = false := by show isiB "list" "tuple" = _; decide
theorem isi_list_list {ds : List D} : isiB (tyN (.list ds)) "list" = true := by show isiB "list" "list" = _; decide
theorem isi_list_dict {ds : List D} : isiB (tyN (.list ds)) "dict" = false := by show isiB "list" "dict" = _; decide
theorem isi_tuple_int {ds : List D} : isiB (tyN (.tuple ds)) "int" = false := by show isiB "tuple" "int" = _; decide
theorem isi_tuple_bool {ds : List D} : isiB (tyN (.tuple ds)) "bool" = false := by show isiB "tuple" "bool" = _; decide
theorem isi_tuple_str {ds : List D} : isiB (tyN (.tuple ds)) "str" = false := by show isiB "tuple" "str" = _; decide
theorem isi_tuple_tuple {ds : List D} : isiB (tyN (.tuple ds)) "tuple" = true := by show isiB "tuple" "tuple" = _; decide
theorem isi_tuple_list {ds : List D} : isiB (tyN (.tuple ds)) "list" = false := by show isiB "tuple" "list" = _; decide
theorem isi_tuple_dict {ds : List D} : isiB (tyN (.tuple ds)) "dict" = false := by show isiB "tuple" "dict" = _; decide
theorem isi_dict_int {kv : List (D × D)} : isiB (tyN (.dict kv)) "int" = false := by show isiB "dict" "int" = _; decide
theorem isi_dict_bool {kv : List (D × D)} : isiB (tyN (.dict kv)) "bool" = false := by show isiB "dict" "bool" = _; decide
theorem isi_dict_str {kv : List (D × D)} : isiB (tyN (.dict kv)) "str" = false := by show isiB "dict" "str" = _; decide
theorem isi_dict_tuple {kv : List (D × D)} : isiB (tyN (.dict kv)) "tuple" = false := by show isiB "dict" "tuple" = _; decide
theorem isi_dict_list {kv : List (D × D)} : isiB (tyN (.dict kv)) "list" = false := by show isiB "dict" "list" = _; decide
theorem isi_dict_dict {kv : List (D × D)} : isiB (tyN (.dict kv)) "dict" = true := by show isiB "dict" "dict" = _; decide
def noOwnB (ρ : En) (vs : List Nat) : Bool := vs.all fun v => match ρ[v]? with
  | some (.o _ _) => false
  | _ => true
theorem noOwn_of {ρ : En} {vs : List Nat} (h : noOwnB ρ vs = true) : NoOwn ρ vs := fun v hv b c e => by
  unfold noOwnB at h
  rw [List.all_eq_true] at h
  have := h v hv
  rw [e] at this
  cases this
theorem small_len {n : Nat} (h : n ≤ 100000) : n ≤ sizeLine := Nat.le_trans h (by decide)
section
variable {X : Cx} {a b c e : Expr} {rest es : List Expr} {pos apos cpos p : Pos} {ta tb te : TE} {wa wb we : WE} {x : Str}
theorem ve_globI {i : Int} (hg : Gl X x) (hm : ∃ t, X.mg x = some (.int i t)) (hd : (x == ("__debug__" : Str)) = false := by decide) : VE X (.Name x pos) (tC (.int i)) (wC (.int i)) := by
  obtain ⟨t, h⟩ := hm
  exact ve_glob hg h ⟨t, rfl⟩ (fun _ => .int i) hd
theorem ve_globS {z : Str} (hg : Gl X x) (hm : ∃ t, X.mg x = some (.str z t)) (hd : (x == ("__debug__" : Str)) = false := by decide) : VE X (.Name x pos) (tC (.str z)) (wC (.str z)) := by
  obtain ⟨t, h⟩ := hm
  exact ve_glob hg h ⟨t, rfl⟩ (fun _ => .str z) hd
theorem vk1 {kws : List Keyword} {nm : Option Str} {kpos : Pos} {t : TA} {wl : WL} (h1 : VE X e te we) (h2 : VK' X kws t wl) : VK' X (⟨nm, e, kpos⟩ :: kws) (tCons te t) (wCons we wl) := vk_cons (pk_cons h1.p h2.p) h1 h2
/-- a list comprehension; the readings of its parts may hang on the block, but are the same for all blocks -/
theorem vf_lcB {elt tg iter : Expr} {ifs : List Expr} {scope : Scope} {own : List (Str × Nat)} {js : List Nat} {pos : Pos} {ti : TI} {wi : WL} {g : Shared → Hp → Addr → List (Str × Addr) → List Addr → TG} {bd : WB} {tt : Shared → Hp → Addr → List (Str × Addr) → List Addr → TT} {wt : WT} {te : Shared → Hp → Addr → List (Str × Addr) → List Addr → TE} {we : WE}
    (hc : X.calm = true) (hN : X.N.Nodup) (hi : VI X tg iter ti wi) (ok : BlkOk X.N X.env.scope scope own)
    (hg : ∀ (s : Shared) (H : Hp) (C : Addr) (cl : List (Str × Addr)) (fp : List Addr), VG (X.blk s H scope (compEnvC scope cl C X.env) fp) tg (g s H C cl fp) bd js) (ht : ∀ (s : Shared) (H : Hp) (C : Addr) (cl : List (Str × Addr)) (fp : List Addr), VTs (X.blk s H scope (compEnvC scope cl C X.env) fp) ifs (tt s H C cl fp) wt)
    (he : ∀ (s : Shared) (H : Hp) (C : Addr) (cl : List (Str × Addr)) (fp : List Addr), VE (X.blk s H scope (compEnvC scope cl C X.env) fp) elt (te s H C cl fp) we) (hj : ∀ j ∈ js, j ∈ own.map (·.2) := by decide) (hs : ∀ x, foldedSetIterable iter X.env x = pure x := by intro _; rfl)
    (e1 : ∀ s H C cl fp, g s H C cl fp = g X.s_0 X.H_0 0 [] [] := by intros; rfl) (e2 : ∀ s H C cl fp, tt s H C cl fp = tt X.s_0 X.H_0 0 [] [] := by intros; rfl) (e3 : ∀ s H C cl fp, te s H C cl fp = te X.s_0 X.H_0 0 [] [] := by intros; rfl) :
    VF X (.ListComp elt [⟨tg, iter, ifs, 0⟩] scope pos) (tLc ti (g X.s_0 X.H_0 0 [] []) (tt X.s_0 X.H_0 0 [] []) (te X.s_0 X.H_0 0 [] []) (own.map (·.2))) (wLc (own.map (·.2)) wi bd wt we) :=
  vf_lc (js := js) hc hN hi ok (fun s H C cl fp => by have := hg s H C cl fp; rw [e1] at this; exact this) (fun s H C cl fp => by have := ht s H C cl fp; rw [e2] at this; exact this) (fun s H C cl fp => by have := he s H C cl fp; rw [e3] at this; exact this) hj hs
theorem vf_dcB {kx vx tg iter : Expr} {ifs : List Expr} {scope : Scope} {own : List (Str × Nat)} {js : List Nat} {pos : Pos} {ti : TI} {wi : WL} {g : Shared → Hp → Addr → List (Str × Addr) → List Addr → TG} {bd : WB} {tt : Shared → Hp → Addr → List (Str × Addr) → List Addr → TT} {wt : WT} {tk tv : Shared → Hp → Addr → List (Str × Addr) → List Addr → TE} {wk wv : WE}
    (hc : X.calm = true) (hN : X.N.Nodup) (hi : VI X tg iter ti wi) (ok : BlkOk X.N X.env.scope scope own)
    (hg : ∀ (s : Shared) (H : Hp) (C : Addr) (cl : List (Str × Addr)) (fp : List Addr), VG (X.blk s H scope (compEnvC scope cl C X.env) fp) tg (g s H C cl fp) bd js) (ht : ∀ (s : Shared) (H : Hp) (C : Addr) (cl : List (Str × Addr)) (fp : List Addr), VTs (X.blk s H scope (compEnvC scope cl C X.env) fp) ifs (tt s H C cl fp) wt)
    (hk : ∀ (s : Shared) (H : Hp) (C : Addr) (cl : List (Str × Addr)) (fp : List Addr), VE (X.blk s H scope (compEnvC scope cl C X.env) fp) kx (tk s H C cl fp) wk)
    (he : ∀ (s : Shared) (H : Hp) (C : Addr) (cl : List (Str × Addr)) (fp : List Addr), VE (X.blk s H scope (compEnvC scope cl C X.env) fp) vx (tv s H C cl fp) wv) (hj : ∀ j ∈ js, j ∈ own.map (·.2) := by decide) (hs : ∀ x, foldedSetIterable iter X.env x = pure x := by intro _; rfl)
    (e1 : ∀ s H C cl fp, g s H C cl fp = g X.s_0 X.H_0 0 [] [] := by intros; rfl) (e2 : ∀ s H C cl fp, tt s H C cl fp = tt X.s_0 X.H_0 0 [] [] := by intros; rfl) (e3 : ∀ s H C cl fp, tk s H C cl fp = tk X.s_0 X.H_0 0 [] [] := by intros; rfl) (e4 : ∀ s H C cl fp, tv s H C cl fp = tv X.s_0 X.H_0 0 [] [] := by intros; rfl) :
    VF X (.DictComp kx vx [⟨tg, iter, ifs, 0⟩] scope pos) (tDc ti (g X.s_0 X.H_0 0 [] []) (tt X.s_0 X.H_0 0 [] []) (tk X.s_0 X.H_0 0 [] []) (tv X.s_0 X.H_0 0 [] []) (own.map (·.2))) (wDc (own.map (·.2)) wi bd wt wk wv) :=
  vf_dc (js := js) hc hN hi ok (fun s H C cl fp => by have := hg s H C cl fp; rw [e1] at this; exact this) (fun s H C cl fp => by have := ht s H C cl fp; rw [e2] at this; exact this) (fun s H C cl fp => by have := hk s H C cl fp; rw [e3] at this; exact this) (fun s H C cl fp => by have := he s H C cl fp; rw [e4] at this; exact this) hj hs
theorem vts1 {t : TT} {w : WT} (h : VT X c t w) : VTs X [c] t w := ⟨pts_one h.p, h.ok⟩
theorem ve_app {i : Nat} (ho : PE X (.Name x p) (tVar i)) (h : VE X e te we) (hbase : attributeBase (.Name x p) "append" X.env (eval (.Name x p) X.env) = eval (.Name x p) X.env := by rfl)
    (hfew : ((backTo cpos (starEach [e] X.env)).all (fun x => !x.1) && (backToKw cpos (keywordEach [] X.env)).all (fun x => x.1.isSome)
      && decide (([e] : List Expr).length + ([] : List Keyword).length + (if ([] : List Keyword).isEmpty then 0 else 1) < 30)) = true := by rfl)
    (hline : (apos.endLine == cpos.line) = true := by rfl) (hs : starEach [e] X.env = [(false, eval e X.env)] := by rfl) : VE X (.Call (.Attribute (.Name x p) "append" apos) [e] [] cpos) (tBM X.K "list" rAppend (tVar i) (tCons te tNil)) (wAppend i we) :=
  ve_append ho h (pe_bm PySem.F.plainAttrs_list PySem.F.slot_list_append PySem.F.type_list_append mt_append ho (pa_cons h.p pa_nil hs) hbase hfew hline hs rfl)
theorem vs_put' {i : Nat} {k : Expr} {ti : TE} {wi : WE} {p pos' : Pos} (hu : X.A.units + 1 < cLine) (ho : PE X (.Name x p) (tVar i)) (hk : VE X k ti wi) (he : VE X e te we)
    (ha : ∀ v, assign (.Subscript (.Name x p) k pos') X.env v = (do
      let ov ← holding [v] (eval (.Name x p) X.env)
      let iv ← holding [v, ov] (eval k X.env)
      standAt pos'
      holding [v, ov, iv] (setItem ov iv v)
      release [v, ov, iv] []) := by intro _; rfl)
    (h1 : swapsWithSole [.Subscript (.Name x p) k pos'] e pos.line X.env = pure false := by rfl) (h2 : swappedStores [.Subscript (.Name x p) k pos'] e X.env = pure none := by rfl) (h3 : (assignEach [.Subscript (.Name x p) k pos'] X.env).map (·.2) = [assign (.Subscript (.Name x p) k pos') X.env] := by rfl)
    (hs : swapsWith e (some (.Subscript (.Name x p) k pos')) pos.line X.env = pure false := by rfl) :
    VS X (.Assign [.Subscript (.Name x p) k pos'] e pos) (sPut te ti i) (wPut i wi we) := vs_put hu ho hk he (ps_asg he.p (pg_sub ho hk.p set_list ha) h1 h2 h3) hs
theorem vs_aug' {i : Nat} {op : Operator} {f : Int → Int → Int} {pos' : Pos} (hN : X.N.Nodup) (hi : X.N[i]? = some x) (hx : Loc X.env.scope x) (ip : PIp X op (ipI f)) (h : VE X e te we)
    (hf : X.fn x = true ∨ X.env.scope.names.lookup x = some .local := by first | exact .inl rfl | exact .inr rfl | assumption) : VS X (.AugAssign (.Name x pos') op e pos) (tAug i te (ipI f)) (wAug i f we) := vs_aug (ps_aug hN hi hx h.p ip hf) h
end
end G

namespace G
open PySem PySem.Spec PyProof.Rows L2
section
variable {X : Cx} {a b c e : Expr} {rest es : List Expr} {pos apos cpos p : Pos} {ta tb te : TE} {wa wb we : WE} {x : Str}
/-- name = [..], the name a local -/
theorem vs_setLcB {i : Nat} {y : Str} {py : Pos} {elt tg iter : Expr} {ifs : List Expr} {scope : Scope} {own : List (Str × Nat)} {js : List Nat} {pos spos : Pos} {ti : TI} {wi : WL} {g : Shared → Hp → Addr → List (Str × Addr) → List Addr → TG} {bd : WB} {tt : Shared → Hp → Addr → List (Str × Addr) → List Addr → TT} {wt : WT} {te : Shared → Hp → Addr → List (Str × Addr) → List Addr → TE} {we : WE}
    (hy : X.N[i]? = some y) (hyl : X.env.scope.names.lookup y = some .local) (hk : X.env.scope.kind = .function) (hl : (py.line == pos.line) = true)
    (ha : (scope.names.any fun (n, k) => n == y && (k == .local || k == .cell)) = false)
    (hc : X.calm = true) (hN : X.N.Nodup) (hi : VI X tg iter ti wi) (ok : BlkOk X.N X.env.scope scope own)
    (hg : ∀ (s : Shared) (H : Hp) (C : Addr) (cl : List (Str × Addr)) (fp : List Addr), VG (X.blk s H scope (compEnvC scope cl C X.env) fp) tg (g s H C cl fp) bd js) (ht : ∀ (s : Shared) (H : Hp) (C : Addr) (cl : List (Str × Addr)) (fp : List Addr), VTs (X.blk s H scope (compEnvC scope cl C X.env) fp) ifs (tt s H C cl fp) wt)
    (he : ∀ (s : Shared) (H : Hp) (C : Addr) (cl : List (Str × Addr)) (fp : List Addr), VE (X.blk s H scope (compEnvC scope cl C X.env) fp) elt (te s H C cl fp) we) (hj : ∀ j ∈ js, j ∈ own.map (·.2) := by decide) (hs : ∀ x, foldedSetIterable iter X.env x = pure x := by intro _; rfl)
    (e1 : ∀ s H C cl fp, g s H C cl fp = g X.s_0 X.H_0 0 [] [] := by intros; rfl) (e2 : ∀ s H C cl fp, tt s H C cl fp = tt X.s_0 X.H_0 0 [] [] := by intros; rfl) (e3 : ∀ s H C cl fp, te s H C cl fp = te X.s_0 X.H_0 0 [] [] := by intros; rfl) :
    VS X (.Assign [.Name y py] (.ListComp elt [⟨tg, iter, ifs, 0⟩] scope pos) spos) (tAsg (tLc ti (g X.s_0 X.H_0 0 [] []) (tt X.s_0 X.H_0 0 [] []) (te X.s_0 X.H_0 0 [] []) (own.map (·.2))) (gName i)) (wSetF i (wLc (own.map (·.2)) wi bd wt we)) :=
  ⟨ps_setLc hc hN hy hyl (sw_true hk hyl hl ha) hi.p ok (fun s H C cl fp => by have := (hg s H C cl fp).p; rw [e1] at this; exact this) (fun s H C cl fp => by have := (ht s H C cl fp).p; rw [e2] at this; exact this) (fun s H C cl fp => by have := (he s H C cl fp).p; rw [e3] at this; exact this) hs,
    fun pin B F0 F H σ ρ D E r hw ke => (VFok.lc hi.ok (hg X.s_0 X.H_0 0 [] []).ok hj (ht X.s_0 X.H_0 0 [] []).ok (he X.s_0 X.H_0 0 [] []).ok) pin B F0 F H σ ρ _ _ r hw fun p o H' F' c ρ' le r' l hc q => ke.nx _ H' F' _ le (r'.setO l hc) q⟩
/-- a new list + an owned one -/
def wCatO (wl : WF) (i : Nat) : WF := fun ρ Q => wl ρ fun c ρ1 => match c, ρ1[i]? with
  | .l xs, some (.o _ (.l ds)) => xs.length + ds.length ≤ sizeLine ∧ Q (.l (xs ++ ds)) ρ1
  | _, _ => False
theorem vf_catO {wl : WF} {i : Nat} (h : VF X a ta wl) (ho : PE X (.Name x p) (tVar i)) : VF X (.BinOp a .Add (.Name x p) pos) (tOp rCat ta (tVar i)) (wCatO wl i) := ⟨pe_op op_cat h.p ho, fun pin B F0 F H σ ρ Q R r hw k =>
  h.ok pin B F0 F H σ ρ _ _ r hw fun q o H1 F1 c ρ1 l1 r1 lo hc q1 => by
    split at q1 <;> first | exact False.elim q1 | skip
    rename_i xs b ds e2
    obtain ⟨a', o', es', ha', hc'⟩ := r1.get_o e2
    cases o <;> first | exact False.elim hc | skip
    cases o' <;> first | exact False.elim hc' | skip
    rename_i vs us
    have h1 : vs.length = xs.length := RpA.length hc
    have h2 : us.length = ds.length := RpA.length hc'
    exact ⟨_, es', q, a', vs, us, rfl, rfl, lo.h, ha', by rw [h1, h2]; exact q1.1, fun p hp => k p _ _ F1 (.l _) ρ1 l1 (r1.lay hp) (r1.lays hp) (RpA.append hc hc') q1.2⟩⟩
end
end G

namespace G
open PySem PySem.Spec PyProof.Rows L2
/-! ### what is shown is a text of true characters -/
def okS (x : Str) : Prop := ∀ c ∈ x.cps.toList, c < 0x110000
theorem okS.ok {x : Str} (h : okS x) : PyData.strOk x = true := by
  unfold PyData.strOk
  rw [Array.all_eq_true']
  intro c hc
  exact decide_eq_true (h c (Array.mem_toList_iff.mpr hc))
theorem okS_of (s : String) : okS (Str.ofString s) := fun c hc => by
  rw [signs_ofString] at hc
  obtain ⟨ch, _, rfl⟩ := List.mem_map.mp hc
  have := ch.valid
  unfold UInt32.isValidChar Nat.isValidChar at this
  show ch.val.toNat < _
  omega
theorem okS.app {x y : Str} (h : okS x) (k : okS y) : okS (x ++ y) := fun c hc => by
  rcases mem_cps_append.mp hc with z | z
  · exact h c z
  · exact k c z
theorem okS_from : ∀ (ts : List Str) (k : Nat) (acc : Str), okS acc → (∀ t ∈ ts, okS t) → okS (textFrom k acc ts)
  | [], _, _, h, _ => h
  | t :: r, k, acc, h, ht => okS_from r (k + 1) _ ((h.app (okS_of _)).app (ht t (by simp))) fun t h => ht t (by simp [h])
theorem okS_list {ts : List Str} (h : ∀ t ∈ ts, okS t) : okS (listText ts) := (okS_from ts 0 _ (okS_of _) h).app (okS_of _)
theorem okS_tup {ts : List Str} (h : ∀ t ∈ ts, okS t) : okS (tupleText ts) := ((okS_of _).app (fun c hc => by
  rcases (mem_join _ _ _).mp hc with ⟨t, ht, z⟩ | ⟨_, z⟩
  · exact h t ht c z
  · exact okS_of _ c z)).app (okS_of _)
mutual
def okD : D → Prop
  | .none => True
  | .bool _ => True
  | .int _ => True
  | .str x => okS (reprText x)
  | .list xs => okDs xs
  | .tuple xs => okDs xs
  | .dict _ => False
def okDs : List D → Prop
  | [] => True
  | x :: xs => okD x ∧ okDs xs
end
mutual
theorem okD_shown : ∀ d : D, okD d → okS d.shown
  | .none, _ => okS_of _
  | .bool b, _ => by cases b <;> exact okS_of _
  | .int i, _ => by simp only [PyData.shown]; exact okS_of _
  | .str x, h => by simp only [PyData.shown]; simpa only [okD] using h
  | .list xs, h => by simp only [PyData.shown]; exact okS_list (okDs_shown xs (by simpa only [okD] using h))
  | .tuple xs, h => by simp only [PyData.shown]; exact okS_tup (okDs_shown xs (by simpa only [okD] using h))
  | .dict _, h => by simp only [okD] at h
theorem okDs_shown : ∀ ds : List D, okDs ds → ∀ t ∈ PyData.shownAll ds, okS t
  | [], _, t, h => by simp [PyData.shownAll] at h
  | d :: ds, h, t, ht => by
    simp only [okDs] at h
    simp only [PyData.shownAll, List.mem_cons] at ht
    rcases ht with rfl | ht
    · exact okD_shown d h.1
    · exact okDs_shown ds h.2 t ht
end
instance (x : Str) : Decidable (okS x) := List.decidableBAll _ _
theorem eqv_same {d : D} (h : d.canLay0 = true) : PyData.eqv d d = true := SeqAt.eqv_refl d h
theorem strs_shaped {xs : List Str} (h : ∀ x ∈ xs, okS x) : SeqAt.shaped (.list (xs.map .str)) = true := by
  have a : ∀ xs : List Str, (∀ x ∈ xs, okS x) → PyData.canLayAll0 (xs.map .str) = true ∧ PyData.depthAll (xs.map .str) ≤ 1 := by
    intro xs
    induction xs with
    | nil => intro _; exact ⟨rfl, by simp [PyData.depthAll]⟩
    | cons x xs ih =>
      intro h
      obtain ⟨b, c⟩ := ih fun x hx => h x (by simp [hx])
      constructor
      · simp only [List.map_cons, PyData.canLayAll0, PyData.canLay0, (h x (by simp)).ok, b, Bool.and_self]
      · simp only [List.map_cons, PyData.depthAll, PyData.depth]; omega
  obtain ⟨b, c⟩ := a xs h
  unfold SeqAt.shaped
  rw [Bool.and_eq_true]
  refine ⟨by simpa only [PyData.canLay0] using b, decide_eq_true ?_⟩
  simp only [PyData.depth]
  omega
end G

namespace G
open PySem PySem.Spec PyProof.Rows L2
section
variable {X : Cx} {a b c e : Expr} {rest es : List Expr} {pos apos cpos p : Pos} {ta tb te : TE} {wa wb we : WE} {x : Str}
theorem ip_and : PIp X .BitAnd (ipI fun i j => Builtin.bitAnd i j) := by
  intro pins s σ H x y v u Q I r1 r2 h
  obtain ⟨i, j, e1, e2, q⟩ := h
  subst e1; subst e2
  obtain ⟨t, rfl⟩ := r1
  obtain ⟨t', rfl⟩ := r2
  exact iand_int ⟨.int _, H, I.tok _, ⟨_, rfl⟩, q⟩
/-- a new list + a new list -/
def wCatF (wl wr : WF) : WF := fun ρ Q => wl ρ fun c ρ1 => wr ρ1 fun c' ρ2 => match c, c' with
  | .l xs, .l ds => xs.length + ds.length ≤ sizeLine ∧ Q (.l (xs ++ ds)) ρ2
  | _, _ => False
theorem vf_catF {wl wr : WF} (h : VF X a ta wl) (h2 : VF X b tb wr) : VF X (.BinOp a .Add b pos) (tOp rCat ta tb) (wCatF wl wr) := ⟨pe_op op_cat h.p h2.p, fun pin B F0 F H σ ρ Q R r hw k =>
  h.ok pin B F0 F H σ ρ _ _ r hw fun q o H1 F1 c ρ1 l1 r1 lo hc q1 => h2.ok pin _ F1 F1 H1 σ ρ1 _ _ (r1.hide lo) q1 fun q' o' H2 F2 c' ρ2 l2 r2 lo' hc' q2 => by
    obtain ⟨r3, lo3⟩ := r1.show lo r2
    cases c <;> cases c' <;> first | exact False.elim q2 | skip
    cases o <;> first | exact False.elim hc | skip
    cases o' <;> first | exact False.elim hc' | skip
    rename_i ds es xs ys
    have h1 : xs.length = ds.length := RpA.length hc
    have h2 : ys.length = es.length := RpA.length hc'
    exact ⟨q, q', xs, ys, rfl, rfl, lo3.h, lo'.h, by rw [h1, h2]; exact q2.1, fun p hp => k p _ _ F2 (.l _) ρ2 (l1.trans l2) (r3.lay hp) (r3.lays hp) (RpA.append (RpA.le l2 hc) hc') q2.2⟩⟩
theorem sw_trueD {kx vx : Expr} {gs : List Comprehension} {scope : Scope} {pos py : Pos} {y : Str} {l : Nat} {env : Env} (hk : env.scope.kind = .function) (hy : env.scope.names.lookup y = some .local) (hl : (py.line == pos.line) = true)
    (ha : (scope.names.any fun (n, k) => n == y && (k == .local || k == .cell)) = false) : swapsWith (.DictComp kx vx gs scope pos) (some (.Name y py)) l env = pure true := by
  have ky : env.kindOf y = some .local := hy
  have hb : env.blockKind = .function := by unfold Env.blockKind; rw [hk]; rfl
  unfold swapsWith
  simp only [hb, ky, ha, Expr.pos, hl]
  rfl
/-- name = {..}, the name a local -/
theorem ps_setDc {i : Nat} {y : Str} {py : Pos} {kx vx tg iter : Expr} {ifs : List Expr} {scope : Scope} {own : List (Str × Nat)} {pos spos : Pos} {wi : TI} {g : TG} {tt : TT} {tk tv : TE} (hc : X.calm = true) (hN : X.N.Nodup) (hy : X.N[i]? = some y) (hyl : X.env.scope.names.lookup y = some .local)
    (hsw : swapsWith (.DictComp kx vx [⟨tg, iter, ifs, 0⟩] scope pos) (some (.Name y py)) spos.line X.env = pure true) (hi : PI X tg iter wi) (ok : BlkOk X.N X.env.scope scope own)
    (hg : ∀ (s : Shared) (H : Hp) (C : Addr) (cl : List (Str × Addr)) (fp : List Addr), PG (X.blk s H scope (compEnvC scope cl C X.env) fp) tg g) (ht : ∀ (s : Shared) (H : Hp) (C : Addr) (cl : List (Str × Addr)) (fp : List Addr), PTs (X.blk s H scope (compEnvC scope cl C X.env) fp) ifs tt)
    (hk : ∀ (s : Shared) (H : Hp) (C : Addr) (cl : List (Str × Addr)) (fp : List Addr), PE (X.blk s H scope (compEnvC scope cl C X.env) fp) kx tk)
    (he : ∀ (s : Shared) (H : Hp) (C : Addr) (cl : List (Str × Addr)) (fp : List Addr), PE (X.blk s H scope (compEnvC scope cl C X.env) fp) vx tv) (hs : ∀ x, foldedSetIterable iter X.env x = pure x := by intro _; rfl) :
    PS X (.Assign [.Name y py] (.DictComp kx vx [⟨tg, iter, ifs, 0⟩] scope pos) spos) (tAsg (tDc wi g tt tk tv (own.map (·.2))) (gName i)) := by
  refine ⟨fun pins s σ H D I h => ?_⟩
  rw [exec_Assign_Name_used _ _ _ _ hsw]
  refine wpAny_bind (wpAny_standAt (wpAny_bind ?_))
  show wpAny _ X.A (do let _ ← comprehension (.DictComp kx vx [⟨tg, iter, ifs, 0⟩] scope pos) scope X.env (firstIterPos [⟨tg, iter, ifs, 0⟩] pos) newDict false (eval iter X.env) (some (assign (.Name y py) X.env))) _ _ s
  have h : tDc wi g tt tk tv (own.map (·.2)) σ H (fun x H1 => gName i x σ H1 D.nx) := h
  refine wpAny_bind (thn (dc_core (Qf := fun _ s' => SP X pins D .next s') hc hN I hi ok hg ht hk he hs h fun L C s' m H' I' q hn f => ?_) fun _ s' hq => wpAny_pure (wpAny_pure hq))
  show wpAny _ _ (assign (.Name y py) X.env (.ref L)) _ _ _
  refine wpAny_assign_Name (store_ok2 (v := V.ref L) I' hN hy (.inl hyl) rfl (fun s2 I2 ⟨a, sb, ha⟩ => ?_) (.inr hyl))
  obtain ⟨f0, f1, f2, f3, f4, f5⟩ := f
  have haC : C ≠ a := by
    rcases ha with z | z
    · rw [z]; exact f1
    · exact fun e => f4 y a z e.symm
  refine ⟨m, hn.sameBut sb haC, fun h3 sb3 => ?_⟩
  exact ⟨_, H', I2.turned (t' := s2.toks) (fun b o hb e => (sb3.2 b hb).trans e) f0 f1 f3 f4 f5, q⟩
theorem vs_setDcB {i : Nat} {y : Str} {py : Pos} {kx vx tg iter : Expr} {ifs : List Expr} {scope : Scope} {own : List (Str × Nat)} {js : List Nat} {pos spos : Pos} {ti : TI} {wi : WL} {g : Shared → Hp → Addr → List (Str × Addr) → List Addr → TG} {bd : WB} {tt : Shared → Hp → Addr → List (Str × Addr) → List Addr → TT} {wt : WT} {tk tv : Shared → Hp → Addr → List (Str × Addr) → List Addr → TE} {wk wv : WE}
    (hy : X.N[i]? = some y) (hyl : X.env.scope.names.lookup y = some .local) (hkf : X.env.scope.kind = .function) (hl : (py.line == pos.line) = true)
    (ha : (scope.names.any fun (n, k) => n == y && (k == .local || k == .cell)) = false)
    (hc : X.calm = true) (hN : X.N.Nodup) (hi : VI X tg iter ti wi) (ok : BlkOk X.N X.env.scope scope own)
    (hg : ∀ (s : Shared) (H : Hp) (C : Addr) (cl : List (Str × Addr)) (fp : List Addr), VG (X.blk s H scope (compEnvC scope cl C X.env) fp) tg (g s H C cl fp) bd js) (ht : ∀ (s : Shared) (H : Hp) (C : Addr) (cl : List (Str × Addr)) (fp : List Addr), VTs (X.blk s H scope (compEnvC scope cl C X.env) fp) ifs (tt s H C cl fp) wt)
    (hk : ∀ (s : Shared) (H : Hp) (C : Addr) (cl : List (Str × Addr)) (fp : List Addr), VE (X.blk s H scope (compEnvC scope cl C X.env) fp) kx (tk s H C cl fp) wk)
    (he : ∀ (s : Shared) (H : Hp) (C : Addr) (cl : List (Str × Addr)) (fp : List Addr), VE (X.blk s H scope (compEnvC scope cl C X.env) fp) vx (tv s H C cl fp) wv) (hj : ∀ j ∈ js, j ∈ own.map (·.2) := by decide) (hs : ∀ x, foldedSetIterable iter X.env x = pure x := by intro _; rfl)
    (e1 : ∀ s H C cl fp, g s H C cl fp = g X.s_0 X.H_0 0 [] [] := by intros; rfl) (e2 : ∀ s H C cl fp, tt s H C cl fp = tt X.s_0 X.H_0 0 [] [] := by intros; rfl) (e3 : ∀ s H C cl fp, tk s H C cl fp = tk X.s_0 X.H_0 0 [] [] := by intros; rfl) (e4 : ∀ s H C cl fp, tv s H C cl fp = tv X.s_0 X.H_0 0 [] [] := by intros; rfl) :
    VS X (.Assign [.Name y py] (.DictComp kx vx [⟨tg, iter, ifs, 0⟩] scope pos) spos) (tAsg (tDc ti (g X.s_0 X.H_0 0 [] []) (tt X.s_0 X.H_0 0 [] []) (tk X.s_0 X.H_0 0 [] []) (tv X.s_0 X.H_0 0 [] []) (own.map (·.2))) (gName i)) (wSetF i (wDc (own.map (·.2)) wi bd wt wk wv)) :=
  ⟨ps_setDc hc hN hy hyl (sw_trueD hkf hyl hl ha) hi.p ok (fun s H C cl fp => by have := (hg s H C cl fp).p; rw [e1] at this; exact this) (fun s H C cl fp => by have := (ht s H C cl fp).p; rw [e2] at this; exact this) (fun s H C cl fp => by have := (hk s H C cl fp).p; rw [e3] at this; exact this) (fun s H C cl fp => by have := (he s H C cl fp).p; rw [e4] at this; exact this) hs,
    fun pin B F0 F H σ ρ D E r hw ke => (VFok.dc hi.ok (hg X.s_0 X.H_0 0 [] []).ok hj (ht X.s_0 X.H_0 0 [] []).ok (hk X.s_0 X.H_0 0 [] []).ok (he X.s_0 X.H_0 0 [] []).ok) pin B F0 F H σ ρ _ _ r hw fun p o H' F' c ρ' le r' l hc q => ke.nx _ H' F' _ le (r'.setO l hc) q⟩
end
end G

namespace G
open PySem PySem.Spec PyProof.Rows L2
open Sem (wp)
open AutoSeq1 (wpAny_loadPart')
/-! ### enumerate(tuple) -/
theorem meets_enumerate_newT (l : Addr) (items : Array Value) (n : Nat) (dct : Option Addr) (sl : Array (Option Value)) :
    Meets (Builtin.«enumerate.__new__» ⟨[.type "enumerate", .ref l], []⟩) (fun _ R s => s.heap.get? l = some { cls := .type "tuple", dict := dct, data := .seq items n, slots := sl } ∧
      R (.ok (.ret (.ref (s.heap.push { cls := .type "tuple_iterator", data := .fields #[.ref l, .int 0 0] }).objs.size)))
        { s with heap := (s.heap.push { cls := .type "tuple_iterator", data := .fields #[.ref l, .int 0 0] }).push { cls := .type "enumerate", data := .fields #[.none, .bool false, .ref s.heap.objs.size, rawInt 0, .none, .none] } }) :=
  .of_wp fun prog w A R s h => by
    obtain ⟨hp, g, d, tk, os⟩ := s; obtain ⟨hl, h⟩ := h
    have hsub := sub_enumerate
    have hL : Heap.IsTuple (Shared.heap ⟨hp, g, d, tk, os⟩) l items := ⟨_, hl, rfl, n, rfl⟩
    wp_walk using wpAny_loadPart' hl
    refine wpAny_stack_any fun st => wpAny_pure ?_
    split
    · rename_i c _ _ _ _ _
      cases (c == Value.type "enumerate")
      · wp_walk using wpAny_loadPart' hl, wpAny_pyIter_tuple hL
        exact ⟨_, rfl, h⟩
      · wp_walk using wpAny_loadPart' hl, wpAny_pyIter_tuple hL
        exact ⟨_, rfl, h⟩
    · wp_walk using wpAny_loadPart' hl, wpAny_pyIter_tuple hL
      exact ⟨_, rfl, h⟩
theorem call_enumerate_tup {prog : Program} {w : World} {A : Around} {E : Value → Shared → Prop} {s : Shared} {l : Addr} {items : Array Value} {Q : Value → Shared → Prop} (hL : s.heap.IsTuple l items)
    (h : ∀ h', IsEnum h' (s.heap.objs.size + 1) s.heap.objs.size 0 .none → h'.IsTupleIter s.heap.objs.size l 0 → h'.objs.size = s.heap.objs.size + 2 →
      (∀ b o, s.heap.get? b = some o → h'.get? b = some o) → Q (.ref (s.heap.objs.size + 1)) { s with heap := h' }) :
    wpAny (model prog w) A (call (.type "enumerate") [.ref l]) Q E s := by
  obtain ⟨⟨c, dct, dt, sl⟩, hl, hc, n, hd⟩ := hL
  replace hc : c = .type "tuple" := hc
  replace hd : dt = .seq items n := hd
  subst hc hd
  refine callType_new F.called_enumerate (by decide) (F.typeCall_enumerate_1 _) (F.newCall_enumerate_1 _) (fun obj => F.args_object_init_2 obj _) F.entry_enumerate_new
    (meets_enumerate_newT l items n dct sl) ⟨hl, ?_⟩
  have hz : (s.heap.push { cls := .type "tuple_iterator", data := .fields #[.ref l, .int 0 0] }).objs.size = s.heap.objs.size + 1 := Heap.size_push ..
  show _ ∧ _
  rw [hz]
  have he : IsEnum ((s.heap.push { cls := .type "tuple_iterator", data := .fields #[.ref l, .int 0 0] }).push
      { cls := .type "enumerate", data := .fields #[.none, .bool false, .ref s.heap.objs.size, rawInt 0, .none, .none] }) (s.heap.objs.size + 1) s.heap.objs.size 0 .none := by
    have := Heap.get?_push_size (s.heap.push { cls := .type "tuple_iterator", data := .fields #[.ref l, .int 0 0] })
      (o := { cls := .type "enumerate", data := .fields #[.none, .bool false, .ref s.heap.objs.size, rawInt 0, .none, .none] }) rfl
    rw [hz] at this; exact this
  refine ⟨⟨_, he, rfl⟩, h _ he ⟨_, Heap.get?_push_of_some _ (Heap.get?_push_size _ rfl), rfl, rfl⟩ (by rw [Heap.size_push, hz]) fun b o x => Heap.get?_push_of_some _ (Heap.get?_push_of_some _ x)⟩
theorem enumT_end {prog : Program} {w : World} {A : Around} {E : Value → Shared → Prop} {s : Shared} {e it l : Addr} {i : Nat} {items : Array Value} {old : Value} {Q : Option Value → Shared → Prop} (hh : A.handled = none)
    (he : IsEnum s.heap e it i old) (hit : s.heap.IsTupleIter it l i) (hl : s.heap.IsTuple l items) (hx : items[i]? = none)
    (hQ : ∀ h', Heap.ExtBut it s.heap h' → Q none { s with heap := h' }) : wpAny (model prog w) A (pyNext (.ref e)) Q E s := by
  have hT : s.TypeIs (.ref e) "enumerate" := ⟨_, he, rfl⟩
  unfold pyNext
  refine wpAny_bind (wpAny_attempt (wpAny_callSpecial?_slot (name := Str.ofString "__next__") hT F.slot_enumerate_next
    (wpAny_call_entry F.slot_enumerate_next hT F.entry_enumerate_next ?_ (F.args_enumerate_next_1 _))))
  show wpAny _ _ (field (.ref e) 2 >>= _) _ _ _
  refine wpAny_bind (wpAny_field he rfl (x := .ref it) rfl ?_)
  refine wpAny_bind (wpAny_nextOf_tuple_end hh hit hl hx fun h' x he' hx' => ?_)
  obtain ⟨o, ho, hc⟩ := hx'
  refine wpAny_bind (wpAny_isInstance (T := "StopIteration") (b := true) ⟨o, ho, hc⟩ isSubtype_stop ?_)
  exact wpAny_pure (hQ _ he')
def IteT (K : PySem.W.Frag) (a : Addr) : It :=
  ⟨fun i H => ∃ (xs : List V) (x : V), SqT K H a xs ∧ xs[i]? = some x, fun i H v H' => ∃ T x, v = .ref T ∧ H T = none ∧ H' = upd H T (.tup [.int (i : Nat), x]) ∧ ∀ xs, SqT K H a xs → xs[i]? = some x, fun i H => ∃ xs : List V, SqT K H a xs ∧ xs.length ≤ i⟩
theorem turn_enumT {P : Program} {w : World} {K : PySem.W.Frag} {elts : List Expr} {kk : Nat} {tpos : Pos} (a e it : Addr) :
    Turn P w K (.Tuple elts kk tpos) (IteT K a) [e, it] e (fun i h => (∃ old, IsEnum h e it ((i : Nat) : Int) old) ∧ h.IsTupleIter it a i ∧ e ≠ it) where
  mem := by simp
  obj := fun i h st b hb => by
    obtain ⟨⟨old, he⟩, ⟨o, ho, hc, hd⟩, _⟩ := st
    have e' : b = e ∨ b = it := by simpa using hb
    rcases e' with z | z
    · rw [z]; exact ⟨_, he, fun v q => nomatch q⟩
    · rw [z]; exact ⟨o, ho, fun v q => by rw [hd] at q; cases q⟩
  keep := fun i h h' st k => let ⟨⟨old, he⟩, hi, hne⟩ := st; ⟨⟨old, k e (by simp) _ he⟩, hi.at fun o q => k it (by simp) o q, hne⟩
  item := by
    intro X hP hw hK hc i pins s σ H E I hf st hg
    subst hP hw hK
    obtain ⟨⟨old, he⟩, hit, hne⟩ := st
    obtain ⟨xs, x, hq, hx⟩ := hg
    obtain ⟨its, rv, p, hz⟩ := I.tuple hq
    obtain ⟨u, hu, ru⟩ := rv.get hx
    have p' : s.heap.IsTuple a its.toArray := p
    have hel : e < s.heap.objs.size := Heap.lt_size he
    have hil : it < s.heap.objs.size := by obtain ⟨_, q, _⟩ := hit; exact Heap.lt_size q
    have hai : a ≠ it := fun z => by
      obtain ⟨o, q1, q2, _⟩ := hit
      obtain ⟨o', q3, q4, _⟩ := p'
      rw [z, q1] at q3; cases q3; exact absurd (q2.symm.trans q4) (by decide)
    have hae : e ≠ a := fun z => by
      obtain ⟨o', q3, q4, _⟩ := p'
      have he' : s.heap.get? e = _ := he
      rw [z, q3] at he'; cases he'; exact absurd (show Value.type "enumerate" = Value.type "tuple" from q4) (by decide)
    have hlt : i < its.toArray.size := by
      have := (List.getElem?_eq_some_iff.mp hu).1
      simpa using this
    refine wpAny_pyNext_enum_itemD (D := Draws.tuple (A := X.A.in1) (I.ok.hd hc) it a hai its.toArray) he ⟨hit, p'⟩ hlt hne (by simp [hne, hae]) fun x' h' tk hP ho hit' hT hsz hk => ?_
    have ex : x' = u := by
      have : its[i]? = some x' := by simpa using hP
      rw [hu] at this; cases this; rfl
    subst ex
    refine ⟨_, rfl, wpAny_letOwnedTupleGo_enum (s := { s with heap := h', toks := tk + 1 }) ho fun h'' he' sb => ?_⟩
    have hT2 : h''.get? s.heap.objs.size = some { cls := .type "tuple", data := .seq #[.int i tk, x'] } := (sb.2 _ (Nat.ne_of_gt hel)).trans hT
    have new : ObjOk X.prog X.w (upd H s.heap.objs.size (.tup [.int (i : Nat), x])) h'' s.heap.objs.size (.tup [.int (i : Nat), x]) :=
      ⟨by show 2 ≤ sizeLine; decide, [.int i tk, x'], .cons ⟨_, rfl⟩ (.cons ru .nil), ⟨_, hT2, rfl, _, rfl⟩⟩
    have I1 : Inv X pins σ (upd H s.heap.objs.size (.tup [.int (i : Nat), x])) { s with heap := h'', toks := tk + 1 } :=
      I.turnedNew (ch := [e, it]) (fun b ob hb q => (sb.2 b (fun z => hb (by simp [z]))).trans (hk b ob (fun z => hb (by simp [z])) (fun z => hb (by simp [z])) q)) hf (Nat.le_refl _) new
    refine ⟨.ref s.heap.objs.size, _, I1, rfl, ⟨_, x, rfl, I.hok.fresh (Nat.le_refl _), rfl, fun ys hy => by rw [I.tuple_inj hy hq]; exact hx⟩, ⟨⟨x', ?_⟩, hit'.1.at fun o q => (sb.2 it (Ne.symm hne)).trans q, hne⟩, fun b hb => ?_⟩
    · have e1 : ((i + 1 : Nat) : Int) = (i : Int) + 1 := by omega
      rw [e1]; exact he'
    · have hb' : b < s.heap.objs.size := by
        have e' : b = e ∨ b = it := by simpa using hb
        rcases e' with z | z
        · rw [z]; exact hel
        · rw [z]; exact hil
      rw [upd_ne (Nat.ne_of_lt hb')]
      exact (hf b hb).1
  done := by
    intro X hP hw hK hc i pins s σ H E I hf st hg
    subst hP hw hK
    obtain ⟨⟨old, he⟩, hit, hne⟩ := st
    obtain ⟨xs, hq, hx⟩ := hg
    obtain ⟨its, rv, p, hz⟩ := I.tuple hq
    obtain ⟨f0, f1, f2, f3, f4, f5⟩ := hf it (by simp)
    have hl := rv.length
    exact enumT_end (I.ok.hd hc) he hit p (by simp; omega) fun h' eb => ⟨rfl, I.turned (t' := s.toks) (fun b o hb q => eb b o hb q) f0 f1 f3 f4 f5⟩
  self := fun A i s Q E st h => let ⟨⟨_, he⟩, _⟩ := st; wpAny_pyIter_enum he h
section
variable {X : Cx} {a b c e : Expr} {rest es : List Expr} {pos apos cpos p : Pos} {ta tb te : TE} {wa wb we : WE} {x : Str}
def iEnumA (K : PySem.W.Frag) (ta : TA) : TI := fun σ H R => ta σ H fun vs H1 => (∃ a xs, vs = [.ref a] ∧ SqL K H1 a xs ∧ R (Ite K a) H1) ∨ ∃ a xs, vs = [.ref a] ∧ SqT K H1 a xs ∧ R (IteT K a) H1
theorem pi_enumA {e : Expr} {ta : TA} {p pos tpos : Pos} {elts : List Expr} {kk : Nat} (hg : Gl X "enumerate") (hm : X.mg "enumerate" = none) (ha : PA X [e] ta) (hs : starEach [e] X.env = [(false, eval e X.env)] := by rfl) :
    PI X (.Tuple elts kk tpos) (.Call (.Name "enumerate" p) [e] [] pos) (iEnumA X.K ta) := by
  refine ⟨fun pins s σ H R I h => ?_⟩
  refine Call_ (ld_blt I hg hm boot_enumerate (PyProof.Rows.callWith_type1 (thn (ha.run pos pins s σ H _ I h) fun us s1 ⟨vs, H1, I1, r1, q1⟩ => ?_) hs rfl))
  rcases q1 with ⟨a, xs, ex, hq, q⟩ | ⟨a, xs, ex, hq, q⟩
  · subst ex
    cases r1 with
    | cons r rr =>
      cases rr
      cases r
      obtain ⟨its, rv, p', hz⟩ := I1.list hq
      refine call_enumerate_list p'.isList fun h' he hit hsz hk => wpAny_pyIter_enum he ?_
      have I2 : Inv X pins σ H1 { s1 with heap := h' } := I1.kept (t' := s1.toks) hk
      refine ⟨s1.heap.objs.size + 1, [s1.heap.objs.size + 1, s1.heap.objs.size], _, _, H1, rfl, I2, turn_enum a (s1.heap.objs.size + 1) s1.heap.objs.size, ⟨⟨.none, he⟩, hit, Nat.succ_ne_self _⟩, fun b hb => ?_, q⟩
      have e' : b = s1.heap.objs.size + 1 ∨ b = s1.heap.objs.size := by simpa using hb
      have hle : s1.heap.objs.size ≤ b := by
        rcases e' with z | z
        · rw [z]; exact Nat.le_add_right _ _
        · rw [z]; exact Nat.le_refl _
      exact I1.fpOk hle (I1.hok.fresh hle)
  · subst ex
    cases r1 with
    | cons r rr =>
      cases rr
      cases r
      obtain ⟨its, rv, p', hz⟩ := I1.tuple hq
      refine call_enumerate_tup p' fun h' he hit hsz hk => wpAny_pyIter_enum he ?_
      have I2 : Inv X pins σ H1 { s1 with heap := h' } := I1.kept (t' := s1.toks) hk
      refine ⟨s1.heap.objs.size + 1, [s1.heap.objs.size + 1, s1.heap.objs.size], _, _, H1, rfl, I2, turn_enumT a (s1.heap.objs.size + 1) s1.heap.objs.size, ⟨⟨.none, he⟩, hit, Nat.succ_ne_self _⟩, fun b hb => ?_, q⟩
      have e' : b = s1.heap.objs.size + 1 ∨ b = s1.heap.objs.size := by simpa using hb
      have hle : s1.heap.objs.size ≤ b := by
        rcases e' with z | z
        · rw [z]; exact Nat.le_add_right _ _
        · rw [z]; exact Nat.le_refl _
      exact I1.fpOk hle (I1.hok.fresh hle)
theorem walk_enumT {K : Fg} {F : Hp} {a : Addr} {xs : List V} {ds : List D} (h : SqT K F a xs) (r : RpA K F xs ds) : Walk K F (IteT K a) (ds.mapIdx fun i d => .tuple [.int (i : Int), d]) := fun F' H' le sb i => by
  have h' := sb.sqT ((le.sub).sqT h)
  refine ⟨fun d e => ?_, fun hl => ⟨xs, h', by rw [r.length]; simpa using hl⟩⟩
  rw [List.getElem?_mapIdx] at e
  cases q : ds[i]? with
  | none => rw [q] at e; cases e
  | some d0 =>
    rw [q] at e; cases e
    obtain ⟨v, e1, p⟩ := r.get q
    refine ⟨⟨xs, v, h', e1⟩, fun y H'' qq => .inr ?_⟩
    obtain ⟨T, x1, rfl, hT, rfl, c1⟩ := qq
    have z := c1 xs h'
    rw [e1] at z; cases z
    exact ⟨T, _, hT, rfl, pair_rp sb hT (.int _) (p.le le)⟩
def wEnumA (we : WE) : WL := fun ρ Q => we ρ fun d ρ' => match d with
  | .list ds => Q (ds.mapIdx fun i d => .tuple [.int (i : Int), d]) ρ'
  | .tuple ds => Q (ds.mapIdx fun i d => .tuple [.int (i : Int), d]) ρ'
  | _ => False
theorem vi_enumA {tpos : Pos} {elts : List Expr} {kk : Nat} (hg : Gl X "enumerate") (hm : X.mg "enumerate" = none) (h : VE X e te we) (hs : starEach [e] X.env = [(false, eval e X.env)] := by rfl) :
    VI X (.Tuple elts kk tpos) (.Call (.Name "enumerate" p) [e] [] pos) (iEnumA X.K (tCons te tNil)) (wEnumA we) :=
  ⟨pi_enumA hg hm (pa_cons h.p pa_nil hs) hs, .of fun pin B F0 F H σ ρ Q R r hw k => h.ok pin B F0 F H σ ρ _ _ r hw fun v H' F' d ρ' le r' p q => by
    cases p <;> first | exact False.elim q | skip
    · rename_i a xs ds hs ra
      exact .inl ⟨a, xs, rfl, r'.sub.sqL hs, k _ H' F' _ ρ' le r' (walk_enum hs ra) q⟩
    · rename_i a xs ds hs ra
      exact .inr ⟨a, xs, rfl, r'.sub.sqT hs, k _ H' F' _ ρ' le r' (walk_enumT hs ra) q⟩⟩
end
end G

namespace G
open PySem PySem.Spec PyProof.Rows L2
/-! ### while -/
/-- at most n turns -/
def wWhN (wt : WT) (wb : WS) (E : VD) : Nat → En → Prop
  | 0, ρ => wt ρ fun b ρ' => if b = true then False else E.nx ρ'
  | n + 1, ρ => wt ρ fun b ρ' => if b = true then wb ⟨fun ρ2 => wWhN wt wb E n ρ2, E.rt, E.nx, fun ρ2 => wWhN wt wb E n ρ2⟩ ρ' else E.nx ρ'
def wWhile (wt : WT) (wb : WS) : WS := fun D ρ => ∃ n, wWhN wt wb D n ρ
section
variable {X : Cx} {pos : Pos}
theorem VSok.while {K : Fg} {tc : TT} {wt : WT} {tb : TS} {wb : WS} (ht : VTok K tc wt) (hb : VSok K tb wb) : VSok K (tWhile tc tb) (wWhile wt wb) := by
  intro pin B F0 F H σ ρ D E r hw ke
  obtain ⟨n, hw⟩ := hw
  refine ⟨fun m σ' H' => ∃ F' ρ', Le F F' ∧ RE K pin B F0 F' H' σ' ρ' ∧ wWhN wt wb D m ρ', ⟨n, F, ρ, Le.refl _, r, hw⟩, ?_⟩
  rintro m σ' H' ⟨F', ρ', l2, r2, q2⟩
  cases m with
  | zero =>
    refine ht pin B F0 F' H' σ' ρ' _ _ r2 q2 fun b H1 F1 ρ1 l3 r3 q3 => ?_
    cases b with
    | false => rw [if_neg (by simp)]; rw [if_neg (by simp)] at q3; exact ke.nx _ _ _ _ (l2.trans l3) r3 q3
    | true => rw [if_pos rfl] at q3; exact q3.elim
  | succ m =>
    refine ht pin B F0 F' H' σ' ρ' _ _ r2 q2 fun b H1 F1 ρ1 l3 r3 q3 => ?_
    cases b with
    | false => rw [if_neg (by simp)]; rw [if_neg (by simp)] at q3; exact ke.nx _ _ _ _ (l2.trans l3) r3 q3
    | true =>
      rw [if_pos rfl] at q3
      rw [if_pos rfl]
      refine ⟨fun σ2 H2 => ∃ F2 ρ2, Le F F2 ∧ RE K pin B F0 F2 H2 σ2 ρ2 ∧ wWhN wt wb D m ρ2, fun σ2 H2 h => ⟨m, by omega, h⟩, ?_⟩
      refine hb pin B F0 F1 H1 σ' ρ1 _ _ r3 q3 ⟨fun σ5 H5 F5 ρ5 l5 r5 q5 => ⟨F5, ρ5, (l2.trans l3).trans l5, r5, q5⟩, fun v rr σ5 H5 F5 ρ5 l5 r5 ro5 => ke.rt v rr σ5 H5 F5 ρ5 ((l2.trans l3).trans l5) r5 ro5, fun σ5 H5 F5 ρ5 l5 r5 => ke.nx σ5 H5 F5 ρ5 ((l2.trans l3).trans l5) r5, fun σ5 H5 F5 ρ5 l5 r5 q5 => ⟨F5, ρ5, (l2.trans l3).trans l5, r5, q5⟩⟩
theorem vs_while {c : Expr} {body : List Stmt} {tc : TT} {wt : WT} {tb : TS} {wb : WS} (hp : PassesOwn (model X.prog X.w) X.A X.env X.xe) (hc : VT X c tc wt) (hb : VSs X body tb wb) : VS X (.While c body [] pos) (tWhile tc tb) (wWhile wt wb) :=
  ⟨ps_while hp hc.p hb.p, .while hc.ok hb.ok⟩
end
end G

namespace G
open PySem PySem.Spec PyProof.Rows L2
/-! ### what is never come to -/
section
variable {X : Cx} {st : Stmt} {e : Expr}
def wNever : WS := fun _ _ => False
def wNeverE : WE := fun _ _ => False
theorem vs_never : VS X st (fun _ _ _ => False) wNever := ⟨⟨fun _ _ _ _ _ _ h => h.elim⟩, fun _ _ _ _ _ _ _ _ _ _ h _ => h.elim⟩
theorem ve_never : VE X e (fun _ _ _ => False) wNeverE := ⟨⟨fun _ _ _ _ _ _ h => h.elim⟩, fun _ _ _ _ _ _ _ _ _ _ h _ => h.elim⟩
end
theorem fng_zero {P : Program} {w : World} {K : Fg} {mg : Str → Option Value} {base : Heap} {k : Nat} {f : Addr} {fd : FuncData} {ps : List Str} {spec : Spc} (h : ∀ as R, spec as R → False) : FnG P w K mg base k f fd ps (spOf K spec) :=
  ⟨fun _ _ _ _ ⟨_, as, R, _, q, _⟩ => (h as R q).elim, fun _ _ _ _ _ _ _ _ _ _ _ _ _ _ ⟨_, as, R, _, q, _⟩ => (h as R q).elim⟩
/-! ### arguments of all kinds: data, slots that own, new things -/
inductive Av where
  | d (x : D)
  | s (i : Nat)
  | f (c : Ct)
abbrev WM := En → (List Av → En → Prop) → Prop
inductive AvOk (K : Fg) (B F H : Hp) (σ : L2.St) (ρ : En) : List V → List Av → List Addr → Prop
  | nil : AvOk K B F H σ ρ [] [] []
  | d {v : V} {x : D} {vs : List V} {as : List Av} {ps : List Addr} : Rp K F v x → AvOk K B F H σ ρ vs as ps → AvOk K B F H σ ρ (v :: vs) (.d x :: as) ps
  | s {v : V} {i : Nat} {vs : List V} {as : List Av} {ps : List Addr} : σ[i]? = some (some v) → AvOk K B F H σ ρ vs as ps → AvOk K B F H σ ρ (v :: vs) (.s i :: as) ps
  | f {p : Addr} {o : HO} {c : Ct} {vs : List V} {as : List Av} {ps : List Addr} : Loose B F H σ ρ p o → CtOk K F o c → p ∉ ps → AvOk K B F H σ ρ vs as ps → AvOk K B F H σ ρ (.ref p :: vs) (.f c :: as) (p :: ps)
def VMok (K : Fg) (t : TA) (w : WM) : Prop := ∀ (pin : Nat → Addr → Prop) (B F0 F H : Hp) (σ : L2.St) (ρ : En) (Q : List Av → En → Prop) (R : List V → Hp → Prop), RE K pin B F0 F H σ ρ → w ρ Q →
  (∀ vs H' F' as ps ρ', Le F F' → RE K pin B F0 F' H' σ ρ' → AvOk K B F' H' σ ρ' vs as ps → Q as ρ' → R vs H') → t σ H R
structure VM (X : Cx) (e : List Expr) (t : TA) (w : WM) : Prop where
  p : PA X e t
  ok : VMok X.K t w
def wmNil : WM := fun ρ Q => Q [] ρ
def wmD (we : WE) (wm : WM) : WM := fun ρ Q => we ρ fun d ρ1 => wm ρ1 fun as ρ2 => Q (.d d :: as) ρ2
def wmS (i : Nat) (wm : WM) : WM := fun ρ Q => wPeek i ρ fun _ _ => wm ρ fun as ρ2 => Q (.s i :: as) ρ2
def wmF (wf : WF) (wm : WM) : WM := fun ρ Q => wf ρ fun c ρ1 => wm ρ1 fun as ρ2 => Q (.f c :: as) ρ2
theorem VMok.nil {K : Fg} : VMok K tNil wmNil := fun pin B F0 F H σ ρ Q R r hw k => k [] H F [] [] ρ (Le.refl F) r .nil hw
section
variable {K : Fg} {te : TE} {t : TA} {wm : WM}
theorem VMok.d {we : WE} (h1 : VEok K te we) (h2 : VMok K t wm) : VMok K (tCons te t) (wmD we wm) := fun pin B F0 F H σ ρ Q R r hw k =>
  h1 pin B F0 F H σ ρ _ _ r hw fun v H' F' d ρ' le r' p q => h2 pin B F0 F' H' σ ρ' _ _ r' q fun vs H2 F2 as ps ρ2 l2 r2 p2 q2 => k _ H2 F2 _ _ ρ2 (le.trans l2) r2 (.d (p.le l2) p2) q2
theorem VMok.s {i : Nat} (h2 : VMok K t wm) : VMok K (tCons (tVar i) t) (wmS i wm) := fun pin B F0 F H σ ρ Q R r hw k => by
  obtain ⟨v, d, ev, _, hw2⟩ := peek_rp r hw
  exact ⟨v, ev, h2 pin B F0 F H σ ρ _ _ r hw2 fun vs H2 F2 as ps ρ2 l2 r2 p2 q2 => k _ H2 F2 _ _ ρ2 l2 r2 (.s ev p2) q2⟩
theorem AvOk.unhide {B F H : Hp} {σ : L2.St} {ρ : En} {p : Addr} {o : HO} (lB : B p = none) : ∀ {vs : List V} {as : List Av} {ps : List Addr}, AvOk K (upd B p o) F H σ ρ vs as ps → AvOk K B F H σ ρ vs as ps ∧ p ∉ ps
  | _, _, _, .nil => ⟨.nil, by simp⟩
  | _, _, _, .d h t => ⟨.d h (AvOk.unhide lB t).1, (AvOk.unhide lB t).2⟩
  | _, _, _, .s h t => ⟨.s h (AvOk.unhide lB t).1, (AvOk.unhide lB t).2⟩
  | _, _, _, .f (p := q) l hc n t => by
    have nq : q ≠ p := fun z => by have := l.b; rw [z, upd_same] at this; cases this
    have lb : B q = none := by have := l.b; rwa [upd_ne nq] at this
    obtain ⟨t1, t2⟩ := AvOk.unhide lB t
    exact ⟨.f ⟨l.f, lb, l.h, l.ap⟩ hc n t1, by simp only [List.mem_cons, not_or]; exact ⟨fun z => nq z.symm, t2⟩⟩
theorem VMok.f {wf : WF} (h1 : VFok K te wf) (h2 : VMok K t wm) : VMok K (tCons te t) (wmF wf wm) := fun pin B F0 F H σ ρ Q R r hw k =>
  h1 pin B F0 F H σ ρ _ _ r hw fun p o H' F' c ρ' le r' l hc q => h2 pin (upd B p o) F' F' H' σ ρ' _ _ (r'.hide l) q fun vs H2 F2 as ps ρ2 l2 r2 p2 q2 => by
    obtain ⟨r3, l3⟩ := r'.show l r2
    obtain ⟨p3, np⟩ := p2.unhide l.b
    exact k _ H2 F2 _ _ ρ2 (le.trans l2) r3 (.f l3 (hc.le l2) np p3) q2
end
section
variable {X : Cx} {e : Expr} {es : List Expr} {te : TE} {t : TA} {wm : WM}
theorem vm_nil : VM X [] tNil wmNil := ⟨pa_nil, .nil⟩
theorem vm_d {we : WE} (h1 : VE X e te we) (h2 : VM X es t wm) (hs : starEach (e :: es) X.env = (false, eval e X.env) :: starEach es X.env := by rfl) : VM X (e :: es) (tCons te t) (wmD we wm) := ⟨pa_cons h1.p h2.p hs, .d h1.ok h2.ok⟩
theorem vm_s {i : Nat} {y : Str} {q : Pos} (h1 : PE X (.Name y q) (tVar i)) (h2 : VM X es t wm) (hs : starEach (.Name y q :: es) X.env = (false, eval (.Name y q) X.env) :: starEach es X.env := by rfl) : VM X (.Name y q :: es) (tCons (tVar i) t) (wmS i wm) := ⟨pa_cons h1 h2.p hs, .s h2.ok⟩
theorem vm_f {wf : WF} (h1 : VF X e te wf) (h2 : VM X es t wm) (hs : starEach (e :: es) X.env = (false, eval e X.env) :: starEach es X.env := by rfl) : VM X (e :: es) (tCons te t) (wmF wf wm) := ⟨pa_cons h1.p h2.p hs, .f h1.ok h2.ok⟩
end
/-! ### the call with such arguments -/
def avSl (ρ : En) : Av → Option Sl
  | .d x => some (.d x)
  | .s i => match ρ[i]? with
    | some (.o _ c) => some (.o true c)
    | _ => none
  | .f c => some (.o true c)
def avSls (ρ : En) : List Av → Option En
  | [] => some []
  | a :: as => match avSl ρ a, avSls ρ as with
    | some s, some ss => some (s :: ss)
    | _, _ => none
def avIx : List Av → List Nat
  | [] => []
  | .s i :: as => i :: avIx as
  | _ :: as => avIx as
/-- the slots behind the call -/
def avBack : List Av → En → En → Option En
  | [], _, ρ => some ρ
  | .s i :: as, .o _ c' :: outs, ρ => match ρ[i]? with
    | some (.o b _) => avBack as outs (ρ.set i (.o b c'))
    | _ => none
  | .d _ :: as, _ :: outs, ρ => avBack as outs ρ
  | .f _ :: as, _ :: outs, ρ => avBack as outs ρ
  | _, _, _ => none
def wCallM (spec : Spc) (wm : WM) : WE := fun ρ Q => wm ρ fun as ρ1 => (avIx as).Nodup ∧ match avSls ρ1 as with
  | some ss => spec ss fun r outs => match avBack as outs ρ1 with
    | some ρ2 => Q (retD r) ρ2
    | none => False
  | none => False
section
variable {K : Fg} {pin : Nat → Addr → Prop} {B F0 F F' H H' : Hp} {σ : L2.St} {ρ : En}
theorem avSls_cons {a : Av} {as : List Av} {ss : En} (h : avSls ρ (a :: as) = some ss) : ∃ s ss', avSl ρ a = some s ∧ avSls ρ as = some ss' ∧ ss = s :: ss' := by
  unfold avSls at h
  cases q : avSl ρ a with
  | none => rw [q] at h; simp at h
  | some s =>
    cases q2 : avSls ρ as with
    | none => rw [q, q2] at h; simp at h
    | some ss' =>
      rw [q, q2] at h; cases h
      exact ⟨s, ss', rfl, rfl, rfl⟩
theorem avSl_s {i : Nat} {s : Sl} (h : avSl ρ (.s i) = some s) : ∃ b c, ρ[i]? = some (.o b c) ∧ s = .o true c := by
  have h : (match ρ[i]? with
    | some (.o _ c) => some (Sl.o true c)
    | _ => none) = some s := h
  cases q : ρ[i]? with
  | none => rw [q] at h; cases h
  | some z =>
    rw [q] at h
    cases z with
    | no => cases h
    | d x => cases h
    | o b c => cases h; exact ⟨b, c, rfl, rfl⟩
theorem av_len {vs : List V} {as : List Av} {ps : List Addr} (h : AvOk K B F H σ ρ vs as ps) : ∀ {ss : En}, avSls ρ as = some ss → ss.length = vs.length := by
  induction h with
  | nil => intro ss e; cases e; rfl
  | d _ _ ih => intro ss e; obtain ⟨s, ss', _, e2, rfl⟩ := avSls_cons e; simp [ih e2]
  | s _ _ ih => intro ss e; obtain ⟨s, ss', _, e2, rfl⟩ := avSls_cons e; simp [ih e2]
  | f _ _ _ _ ih => intro ss e; obtain ⟨s, ss', _, e2, rfl⟩ := avSls_cons e; simp [ih e2]
/-- where an argument that is owned stands -/
theorem av_own {vs : List V} {as : List Av} {ps : List Addr} (h : AvOk K B F H σ ρ vs as ps) : ∀ {ss : En}, avSls ρ as = some ss → ∀ {j : Nat} {a : Addr}, Own (vs.map some) ss j a →
    (∃ i b c, as[j]? = some (.s i) ∧ i ∈ avIx as ∧ ρ[i]? = some (.o b c) ∧ ss[j]? = some (.o true c) ∧ σ[i]? = some (some (.ref a))) ∨ (∃ c o, as[j]? = some (.f c) ∧ ss[j]? = some (.o true c) ∧ a ∈ ps ∧ Loose B F H σ ρ a o ∧ CtOk K F o c) := by
  induction h with
  | nil => intro ss e j a ⟨⟨b, c, z⟩, _⟩; cases e; simp at z
  | @d v x vs as ps hr ht ih =>
    intro ss e j a ⟨⟨b, c, z⟩, z2⟩
    obtain ⟨s, ss', e1, q, rfl⟩ := avSls_cons e
    cases e1
    cases j with
    | zero => simp at z
    | succ j =>
      simp only [List.getElem?_cons_succ, List.map_cons] at z z2 ⊢
      rcases ih q ⟨⟨b, c, z⟩, z2⟩ with ⟨i, b', c', h1, h2, h3⟩ | h1
      · exact .inl ⟨i, b', c', h1, by unfold avIx; exact h2, h3⟩
      · exact .inr h1
  | @s v i vs as ps hr ht ih =>
    intro ss e j a ⟨⟨b, c, z⟩, z2⟩
    obtain ⟨s, ss', e1, q, rfl⟩ := avSls_cons e
    obtain ⟨b0, c0, e3, rfl⟩ := avSl_s e1
    cases j with
    | zero =>
      simp only [List.getElem?_cons_zero, List.map_cons, Option.some.injEq] at z2
      exact .inl ⟨i, b0, c0, rfl, by unfold avIx; simp, e3, rfl, by rw [hr, z2]⟩
    | succ j =>
      simp only [List.getElem?_cons_succ, List.map_cons] at z z2 ⊢
      rcases ih q ⟨⟨b, c, z⟩, z2⟩ with ⟨i', b', c', h1, h2, h3⟩ | h1
      · exact .inl ⟨i', b', c', h1, by unfold avIx; simp [h2], h3⟩
      · exact .inr h1
  | @f p o c0 vs as ps hl hc hn ht ih =>
    intro ss e j a ⟨⟨b, c, z⟩, z2⟩
    obtain ⟨s, ss', e1, q, rfl⟩ := avSls_cons e
    cases e1
    cases j with
    | zero =>
      simp only [List.getElem?_cons_zero, List.map_cons, Option.some.injEq, V.ref.injEq] at z2
      subst z2
      exact .inr ⟨c0, o, rfl, rfl, by simp, hl, hc⟩
    | succ j =>
      simp only [List.getElem?_cons_succ, List.map_cons] at z z2 ⊢
      rcases ih q ⟨⟨b, c, z⟩, z2⟩ with ⟨i', b', c', h1, h2, h3⟩ | ⟨c', o', h1, h2, h3, h4⟩
      · exact .inl ⟨i', b', c', h1, by unfold avIx; exact h2, h3⟩
      · exact .inr ⟨c', o', h1, h2, by simp [h3], h4⟩
/-- no two arguments are one thing -/
theorem av_ap (r : RE K pin B F0 F H σ ρ) {vs : List V} {as : List Av} {ps : List Addr} (h : AvOk K B F H σ ρ vs as ps) : (avIx as).Nodup → ∀ {ss : En}, avSls ρ as = some ss → ∀ {j k : Nat} {a : Addr}, Own (vs.map some) ss j a → Own (vs.map some) ss k a → j = k := by
  have tl : ∀ {v : V} {vs : List V} {s : Sl} {ss : En} {j : Nat} {a : Addr}, Own ((v :: vs).map some) (s :: ss) (j + 1) a → Own (vs.map some) ss j a := fun ⟨⟨b, c, z⟩, z2⟩ => ⟨⟨b, c, by simpa using z⟩, by simpa using z2⟩
  induction h with
  | nil => intro nd ss e j k a ⟨⟨b, c, z⟩, _⟩; cases e; simp at z
  | @d v x vs as ps hr ht ih =>
    intro nd ss e j k a h1 h2
    obtain ⟨s, ss', e1, q, rfl⟩ := avSls_cons e
    cases e1
    cases j with
    | zero => obtain ⟨⟨b, c, z⟩, _⟩ := h1; simp at z
    | succ j =>
      cases k with
      | zero => obtain ⟨⟨b, c, z⟩, _⟩ := h2; simp at z
      | succ k => rw [ih (by unfold avIx at nd; exact nd) q (tl h1) (tl h2)]
  | @s v i vs as ps hr ht ih =>
    intro nd ss e j k a h1 h2
    obtain ⟨s, ss', e1, q, rfl⟩ := avSls_cons e
    obtain ⟨b0, c0, e3, rfl⟩ := avSl_s e1
    unfold avIx at nd
    rw [List.nodup_cons] at nd
    have no : ∀ k, Own ((v :: vs).map some) (Sl.o true c0 :: ss') 0 a → Own (vs.map some) ss' k a → False := fun k ⟨_, z2⟩ h9 => by
      simp only [List.getElem?_cons_zero, List.map_cons, Option.some.injEq] at z2
      subst z2
      rcases av_own ht q h9 with ⟨i', b', c', _, h5, h6, _, h7⟩ | ⟨c', o', _, _, _, h5, _⟩
      · exact nd.1 ((r.ap i i' a ⟨⟨b0, c0, e3⟩, hr⟩ ⟨⟨b', c', h6⟩, h7⟩) ▸ h5)
      · exact h5.ap i ⟨⟨b0, c0, e3⟩, hr⟩
    cases j with
    | zero =>
      cases k with
      | zero => rfl
      | succ k => exact (no k h1 (tl h2)).elim
    | succ j =>
      cases k with
      | zero => exact (no j h2 (tl h1)).elim
      | succ k => rw [ih nd.2 q (tl h1) (tl h2)]
  | @f p o c0 vs as ps hl hc hn ht ih =>
    intro nd ss e j k a h1 h2
    obtain ⟨s, ss', e1, q, rfl⟩ := avSls_cons e
    cases e1
    have no : ∀ k, Own ((V.ref p :: vs).map some) (Sl.o true c0 :: ss') 0 a → Own (vs.map some) ss' k a → False := fun k ⟨_, z2⟩ h9 => by
      simp only [List.getElem?_cons_zero, List.map_cons, Option.some.injEq, V.ref.injEq] at z2
      subst z2
      rcases av_own ht q h9 with ⟨i', b', c', _, h5, h6, _, h7⟩ | ⟨c', o', _, _, h4, h5, _⟩
      · exact hl.ap i' ⟨⟨b', c', h6⟩, h7⟩
      · exact hn h4
    cases j with
    | zero =>
      cases k with
      | zero => rfl
      | succ k => exact (no k h1 (tl h2)).elim
    | succ j =>
      cases k with
      | zero => exact (no j h2 (tl h1)).elim
      | succ k => rw [ih (by unfold avIx at nd; exact nd) q (tl h1) (tl h2)]
theorem av_data {vs : List V} {as : List Av} {ps : List Addr} (h : AvOk K B F H σ ρ vs as ps) : ∀ {ss : En}, avSls ρ as = some ss → ∀ {j : Nat} {s : Sl}, ss[j]? = some s → (∃ v, vs[j]? = some v ∧ ((∃ x, s = .d x ∧ Rp K F v x) ∨ ∃ c a, s = .o true c ∧ v = .ref a)) ∨ (∃ i b c, as[j]? = some (.s i) ∧ ρ[i]? = some (.o b c) ∧ s = .o true c ∧ ∃ v, vs[j]? = some v ∧ σ[i]? = some (some v)) := by
  induction h with
  | nil => intro ss e j s h; cases e; simp at h
  | @d v x vs as ps hr ht ih =>
    intro ss e j s h
    obtain ⟨s0, ss', e1, q, rfl⟩ := avSls_cons e
    cases e1
    cases j with
    | zero => simp at h; exact .inl ⟨v, rfl, .inl ⟨x, h.symm, hr⟩⟩
    | succ j => simpa using ih q (by simpa using h)
  | @s v i vs as ps hr ht ih =>
    intro ss e j s h
    obtain ⟨s0, ss', e1, q, rfl⟩ := avSls_cons e
    obtain ⟨b0, c0, e3, rfl⟩ := avSl_s e1
    cases j with
    | zero => simp at h; exact .inr ⟨i, b0, c0, rfl, e3, h.symm, v, rfl, hr⟩
    | succ j => simpa using ih q (by simpa using h)
  | @f p o c0 vs as ps hl hc hn ht ih =>
    intro ss e j s h
    obtain ⟨s0, ss', e1, q, rfl⟩ := avSls_cons e
    cases e1
    cases j with
    | zero => simp at h; exact .inl ⟨_, rfl, .inr ⟨c0, p, h.symm, rfl⟩⟩
    | succ j => simpa using ih q (by simpa using h)
/-- the state in which the def begins -/
theorem RE.argsM (r : RE K pin B F0 F H σ ρ) {vs : List V} {as : List Av} {ps : List Addr} (h : AvOk K B F H σ ρ vs as ps) (nd : (avIx as).Nodup) {ss : En} (e : avSls ρ as = some ss) : RE K (pinOf vs) (Bof H vs ss) F F H (vs.map some) ss where
  len := by rw [List.length_map, av_len h e]
  keep := fun q o hq => by unfold Bof at hq; split at hq <;> first | cases hq | exact .inl hq
  sub := r.sub
  new := fun _ h => .inl h
  sl := fun j s ej => by
    have hj : j < vs.length := by rw [← av_len h e]; exact (List.getElem?_eq_some_iff.mp ej).1
    have ev : vs[j]? = some vs[j] := List.getElem?_eq_getElem hj
    refine ⟨some vs[j], by rw [List.getElem?_map, ev]; rfl, ?_⟩
    have own : ∀ {c : Ct} {a : Addr}, s = .o true c → vs[j] = .ref a → SlOk K (pinOf vs) (Bof H vs ss) F H j (some vs[j]) s := fun {c a} es ea => by
      have hO : Own (vs.map some) ss j a := ⟨⟨true, c, by rw [ej, es]⟩, by rw [List.getElem?_map, ev, ea]; rfl⟩
      have hB : Bof H vs ss a = none := by unfold Bof; rw [if_pos ⟨j, hO⟩]
      subst es
      rcases av_own h e hO with ⟨i, b, c', _, _, h3, h4, h5⟩ | ⟨c', o, _, h2, _, h4, h5⟩
      · rw [ej] at h4; cases h4
        obtain ⟨fa, _, o, b', c'', ha, e', hc, _⟩ := r.own ⟨⟨b, c, h3⟩, h5⟩
        rw [h3] at e'; cases e'
        exact ⟨a, o, by rw [ea], fun _ => by show vs[j]? = _; rw [ev, ea], fa, hB, ha, hc⟩
      · rw [ej] at h2; cases h2
        exact ⟨a, o, by rw [ea], fun _ => by show vs[j]? = _; rw [ev, ea], h4.f, hB, h4.h, h5⟩
    rcases av_data h e ej with ⟨v, e1, ⟨x, rfl, hx⟩ | ⟨c, a, es, ea⟩⟩ | ⟨i, b, c, _, e2, es, v, e3, e4⟩
    · rw [ev] at e1; cases e1
      exact ⟨_, rfl, hx⟩
    · rw [ev] at e1; cases e1
      exact own es ea
    · rw [ev] at e3; cases e3
      obtain ⟨ov, z1, a, o, z2, _⟩ := r.sl i _ e2
      rw [e4] at z1
      have hv : vs[j] = .ref a := by
        have := z1.symm
        rw [z2] at this
        exact (Option.some.inj (Option.some.inj this)).symm
      exact own es hv
  ap := fun j k a h1 h2 => av_ap r h nd e h1 h2
end
end G

namespace G
open PySem PySem.Spec PyProof.Rows L2
section
variable {K : Fg} {pin : Nat → Addr → Prop} {B F0 F F' H H' : Hp} {σ : L2.St} {ρ : En}
theorem av_back : ∀ {as : List Av} {outs ρ ρ2 : En}, (avIx as).Nodup → avBack as outs ρ = some ρ2 → ρ2.length = ρ.length ∧ (∀ k, k ∉ avIx as → ρ2[k]? = ρ[k]?) ∧
    (∀ k, k ∈ avIx as → ∃ (j : Nat) (b : Bool) (c : Ct) (b1 : Bool) (c' : Ct), as[j]? = some (.s k) ∧ outs[j]? = some (.o b1 c') ∧ ρ[k]? = some (.o b c) ∧ ρ2[k]? = some (.o b c'))
  | [], outs, ρ, ρ2, _, e => by
    unfold avBack at e; cases e
    exact ⟨rfl, fun _ _ => rfl, fun k h => by unfold avIx at h; cases h⟩
  | .d x :: as, [], ρ, ρ2, _, e => by simp [avBack] at e
  | .f x :: as, [], ρ, ρ2, _, e => by simp [avBack] at e
  | .s i :: as, [], ρ, ρ2, _, e => by simp [avBack] at e
  | .d x :: as, o :: outs, ρ, ρ2, nd, e => by
    unfold avBack at e
    unfold avIx at nd ⊢
    obtain ⟨h1, h2, h3⟩ := av_back nd e
    refine ⟨h1, h2, fun k hk => ?_⟩
    obtain ⟨j, b, c, b1, c', q1, q2, q3⟩ := h3 k hk
    exact ⟨j + 1, b, c, b1, c', by simpa using q1, by simpa using q2, q3⟩
  | .f x :: as, o :: outs, ρ, ρ2, nd, e => by
    unfold avBack at e
    unfold avIx at nd ⊢
    obtain ⟨h1, h2, h3⟩ := av_back nd e
    refine ⟨h1, h2, fun k hk => ?_⟩
    obtain ⟨j, b, c, b1, c', q1, q2, q3⟩ := h3 k hk
    exact ⟨j + 1, b, c, b1, c', by simpa using q1, by simpa using q2, q3⟩
  | .s i :: as, .no :: outs, ρ, ρ2, nd, e => by simp [avBack] at e
  | .s i :: as, .d y :: outs, ρ, ρ2, nd, e => by simp [avBack] at e
  | .s i :: as, .o b1 c' :: outs, ρ, ρ2, nd, e => by
    unfold avBack at e
    unfold avIx at nd ⊢
    rw [List.nodup_cons] at nd
    cases q : ρ[i]? with
    | none => rw [q] at e; cases e
    | some z =>
      rw [q] at e
      cases z with
      | no => cases e
      | d y => cases e
      | o b c =>
        obtain ⟨h1, h2, h3⟩ := av_back nd.2 e
        have lt : i < ρ.length := (List.getElem?_eq_some_iff.mp q).1
        refine ⟨by rw [h1, List.length_set], fun k hk => ?_, fun k hk => ?_⟩
        · simp only [List.mem_cons, not_or] at hk
          rw [h2 k hk.2, List.getElem?_set_ne (Ne.symm hk.1)]
        · rcases List.mem_cons.mp hk with rfl | hk
          · exact ⟨0, b, c, b1, c', rfl, rfl, q, by rw [h2 k nd.1, List.getElem?_set_self lt]⟩
          · have ne : k ≠ i := fun z => nd.1 (z ▸ hk)
            obtain ⟨j, b, c, b1, c', q1, q2, q3, q4⟩ := h3 k hk
            rw [List.getElem?_set_ne (Ne.symm ne)] at q3
            exact ⟨j + 1, b, c, b1, c', by simpa using q1, by simpa using q2, q3, q4⟩
theorem av_at {vs : List V} {as : List Av} {ps : List Addr} (h : AvOk K B F H σ ρ vs as ps) : ∀ {j i : Nat}, as[j]? = some (.s i) → ∃ v, vs[j]? = some v ∧ σ[i]? = some (some v) := by
  induction h with
  | nil => intro j i e; simp at e
  | d _ _ ih => intro j i e; cases j with
    | zero => simp at e
    | succ j => simpa using ih (by simpa using e)
  | s hs _ ih => intro j i e; cases j with
    | zero => simp at e; subst e; exact ⟨_, rfl, hs⟩
    | succ j => simpa using ih (by simpa using e)
  | f _ _ _ _ ih => intro j i e; cases j with
    | zero => simp at e
    | succ j => simpa using ih (by simpa using e)
section
variable {vs : List V} {as : List Av} {ps : List Addr} {ss outs ρ2 : En}
theorem av_bn (r : RE K pin B F0 F H σ ρ) (h : AvOk K B F H σ ρ vs as ps) (e : avSls ρ as = some ss) {j : Nat} {a : Addr} (hO : Own (vs.map some) ss j a) : B a = none := by
  rcases av_own h e hO with ⟨i, b, c', _, _, h3, h4, h5⟩ | ⟨c', o, _, h2, _, h4, h5⟩
  · exact (r.own ⟨⟨b, c', h3⟩, h5⟩).2.1
  · exact h4.b
theorem bof_out {a : Addr} (h : ¬ ∃ i, Own (vs.map some) ss i a) : Bof H vs ss a = H a := by unfold Bof; rw [if_neg h]
theorem bof_cases {a : Addr} (h : Bof H vs ss a = none) : (∃ i, Own (vs.map some) ss i a) ∨ H a = none := by
  unfold Bof at h
  split at h
  · rename_i q; exact .inl q
  · exact .inr h
theorem back_own (nd : (avIx as).Nodup) (hb : avBack as outs ρ = some ρ2) {k : Nat} {q : Addr} (h : Own σ ρ2 k q) : Own σ ρ k q := by
  obtain ⟨l1, l2, l3⟩ := av_back nd hb
  obtain ⟨⟨b1, c1, z1⟩, z2⟩ := h
  by_cases hk : k ∈ avIx as
  · obtain ⟨j, b, c, b1, c', q1, q2, q3, q4⟩ := l3 k hk
    exact ⟨⟨b, c, q3⟩, z2⟩
  · rw [l2 k hk] at z1
    exact ⟨⟨b1, c1, z1⟩, z2⟩
theorem RE.retM (r : RE K pin B F0 F H σ ρ) (h : AvOk K B F H σ ρ vs as ps) (nd : (avIx as).Nodup) (e : avSls ρ as = some ss) (le : Le F F') (r2 : RE K (pinOf vs) (Bof H vs ss) F F' H' (vs.map some) outs) (hb : avBack as outs ρ = some ρ2) : RE K pin B F0 F' H' σ ρ2 := by
  obtain ⟨l1, l2, l3⟩ := av_back nd hb
  refine ⟨by rw [l1, r.len], r.keep.trans r2.keep (fun q u hq hu => ?_) le, r2.sub, fun q hq => ?_, fun k s hk => ?_, fun j k q h1 h2 => r.ap j k q (back_own nd hb h1) (back_own nd hb h2)⟩
  · rw [bof_out (fun ⟨j, hO⟩ => hq (av_bn r h e hO))]; exact hu
  · rcases r2.new q hq with z | z
    · exact r.new q z
    · rcases bof_cases z with ⟨j, hO⟩ | z
      · exact .inr (av_bn r h e hO)
      · exact .inr (r.bnone z)
  · by_cases hx : k ∈ avIx as
    · obtain ⟨j, b, c, b1, c', q1, q2, q3, q4⟩ := l3 k hx
      rw [q4] at hk; cases hk
      obtain ⟨v, e1, e2⟩ := av_at h q1
      obtain ⟨ov, e3, a1, o1, e4, _, f1, g1, h1, k1⟩ := r2.sl j _ q2
      rw [List.getElem?_map, e1] at e3
      have ev : v = .ref a1 := by
        have := e3.symm; rw [e4] at this
        exact (Option.some.inj (Option.some.inj this)).symm
      subst ev
      obtain ⟨_, ba, o, b', c0, ha, e', hc, hpin⟩ := r.own ⟨⟨b, c, q3⟩, e2⟩
      rw [q3] at e'; cases e'
      exact ⟨_, e2, a1, o1, rfl, hpin, f1, ba, h1, k1⟩
    · rw [l2 k hx] at hk
      obtain ⟨ov, z1, z2⟩ := r.sl k s hk
      refine ⟨ov, z1, ?_⟩
      cases s with
      | no => trivial
      | d x => obtain ⟨v, z3, z4⟩ := z2; exact ⟨v, z3, z4.le le⟩
      | o b3 c3 =>
        obtain ⟨a3, o3, z3, hp3, y1, y2, y3, y4⟩ := z2
        have hO : Own σ ρ k a3 := ⟨⟨b3, c3, hk⟩, by rw [z1, z3]⟩
        have no : ¬ ∃ i, Own (vs.map some) ss i a3 := fun ⟨j, hj⟩ => by
          rcases av_own h e hj with ⟨i, b, c', _, h2, h3, h4, h5⟩ | ⟨c', o, _, h2, _, h4, h5⟩
          · exact hx ((r.ap k i a3 hO ⟨⟨b, c', h3⟩, h5⟩) ▸ h2)
          · exact h4.ap k hO
        have fn : F' a3 = none := by
          cases q : F' a3 with
          | none => rfl
          | some u =>
            rcases r2.new a3 (by rw [q]; simp) with z | z
            · exact absurd y1 z
            · rw [bof_out no, y3] at z; cases z
        exact ⟨a3, o3, z3, hp3, fn, y2, (r2.keep a3 o3 (by rw [bof_out no]; exact y3)).resolve_right fun z => z.1 fn, y4.le le⟩
theorem Loose.retM {p : Addr} {o : HO} (r : RE K pin B F0 F H σ ρ) (h : AvOk K B F H σ ρ vs as ps) (nd : (avIx as).Nodup) (e : avSls ρ as = some ss) (r2 : RE K (pinOf vs) (Bof H vs ss) F F' H' (vs.map some) outs) (hb : avBack as outs ρ = some ρ2)
    (l : Loose (Bof H vs ss) F' H' (vs.map some) outs p o) : Loose B F' H' σ ρ2 p o := by
  obtain ⟨l1, l2, l3⟩ := av_back nd hb
  have slot : ∀ i, i ∈ avIx as → Own σ ρ i p → False := fun i hi hO => by
    obtain ⟨j, b, c, b1, c', q1, q2, q3, q4⟩ := l3 i hi
    obtain ⟨v, e1, e2⟩ := av_at h q1
    rw [hO.2] at e2; cases e2
    exact l.ap j ⟨⟨b1, c', q2⟩, by rw [List.getElem?_map, e1]; rfl⟩
  refine ⟨l.f, ?_, l.h, fun i hi => ?_⟩
  · rcases bof_cases l.b with ⟨j, hO⟩ | z
    · exact av_bn r h e hO
    · exact r.bnone z
  · have hO := back_own nd hb hi
    by_cases hx : i ∈ avIx as
    · exact slot i hx hO
    · rcases bof_cases l.b with ⟨j, hj⟩ | z
      · rcases av_own h e hj with ⟨i', b, c', _, h2, h3, h4, h5⟩ | ⟨c', o, _, h2, _, h4, h5⟩
        · exact hx ((r.ap i i' p hO ⟨⟨b, c', h3⟩, h5⟩) ▸ h2)
        · exact h4.ap i hO
      · obtain ⟨_, _, ob, _, _, h', _⟩ := r.own hO
        rw [z] at h'; cases h'
end
def wCallMF (spec : Spc) (wm : WM) : WF := fun ρ Q => wm ρ fun as ρ1 => (avIx as).Nodup ∧ match avSls ρ1 as with
  | some ss => spec ss fun r outs => match avBack as outs ρ1, r with
    | some ρ2, .fr c => Q c ρ2
    | _, _ => False
  | none => False
variable {spec : Spc} {t : TA} {wm : WM}
theorem VEok.callM (h : VMok K t wm) : VEok K (tCall (spOf K spec) [] E0 t) (wCallM spec wm) := fun pin B F0 F H σ ρ Q R r hw kk =>
  h pin B F0 F H σ ρ _ _ r hw fun vs H1 F1 as ps ρ1 l1 r1 p1 q1 => by
    obtain ⟨nd, q1⟩ := q1
    cases e : avSls ρ1 as with
    | none => rw [e] at q1; exact q1.elim
    | some ss =>
      rw [e] at q1
      have goal : spOf K spec vs H1 R E0 := ⟨F1, ss, _, r1.argsM p1 nd e, q1, fun rv outs v H2 F2 q2 le r2 ro => by
        cases hb : avBack as outs ρ1 with
        | none => rw [hb] at q2; exact q2.elim
        | some ρ2 =>
          rw [hb] at q2
          have r3 := r1.retM p1 nd e le r2 hb
          cases rv with
          | fz d => exact kk v H2 F2 d _ (l1.trans le) r3 ro q2
          | fr cc =>
            obtain ⟨pp, o, rfl, l, hc⟩ := ro
            obtain ⟨le2, r4, rp⟩ := r3.frz (Loose.retM r1 p1 nd e r2 hb l) hc
            exact kk _ H2 _ _ _ ((l1.trans le).trans le2) r4 rp q2⟩
      show spOf K spec (vs ++ []) H1 R E0
      rw [List.append_nil]
      exact goal
theorem VFok.callM (h : VMok K t wm) : VFok K (tCall (spOf K spec) [] E0 t) (wCallMF spec wm) := fun pin B F0 F H σ ρ Q R r hw kk =>
  h pin B F0 F H σ ρ _ _ r hw fun vs H1 F1 as ps ρ1 l1 r1 p1 q1 => by
    obtain ⟨nd, q1⟩ := q1
    cases e : avSls ρ1 as with
    | none => rw [e] at q1; exact q1.elim
    | some ss =>
      rw [e] at q1
      have goal : spOf K spec vs H1 R E0 := ⟨F1, ss, _, r1.argsM p1 nd e, q1, fun rv outs v H2 F2 q2 le r2 ro => by
        cases hb : avBack as outs ρ1 with
        | none => rw [hb] at q2; exact q2.elim
        | some ρ2 =>
          rw [hb] at q2
          have r3 := r1.retM p1 nd e le r2 hb
          cases rv with
          | fz d => exact q2.elim
          | fr cc =>
            obtain ⟨pp, o, rfl, l, hc⟩ := ro
            exact kk pp o H2 F2 cc ρ2 (l1.trans le) r3 (Loose.retM r1 p1 nd e r2 hb l) hc q2⟩
      show spOf K spec (vs ++ []) H1 R E0
      rw [List.append_nil]
      exact goal
end
section
variable {X : Cx} {k : Nat} {f : Addr} {fd : FuncData} {ps : List Str} {spec : Spc} {x : Str} {p pos : Pos} {e : Expr} {es : List Expr} {t : TA} {wm : WM}
theorem ve_callM (F : FnG X.prog X.w X.K X.mg X.base k f fd ps (spOf X.K spec)) (room : Room k X.A) (hG : X.A.guards = some []) (hg : Gl X x) (hm : X.mg x = some (.ref f)) (hk : PySem.W.keepIn X.K (.ref f) = true) (hb : Binds X.K fd ps [])
    (ha : VM X (e :: es) t wm) (hdb : (x == ("__debug__" : Str)) = false := by decide) (he : starEach (e :: es) X.env = (false, eval e X.env) :: starEach es X.env := by rfl) (hpl : (backTo pos (starEach es X.env)).any (·.1) = false := by rfl) :
    VE X (.Call (.Name x p) (e :: es) [] pos) (tCall (spOf X.K spec) [] E0 t) (wCallM spec wm) := ⟨pe_callg F room hG hg hm hk hb ha.p hdb he hpl, .callM ha.ok⟩
theorem vf_callM (F : FnG X.prog X.w X.K X.mg X.base k f fd ps (spOf X.K spec)) (room : Room k X.A) (hG : X.A.guards = some []) (hg : Gl X x) (hm : X.mg x = some (.ref f)) (hk : PySem.W.keepIn X.K (.ref f) = true) (hb : Binds X.K fd ps [])
    (ha : VM X (e :: es) t wm) (hdb : (x == ("__debug__" : Str)) = false := by decide) (he : starEach (e :: es) X.env = (false, eval e X.env) :: starEach es X.env := by rfl) (hpl : (backTo pos (starEach es X.env)).any (·.1) = false := by rfl) :
    VF X (.Call (.Name x p) (e :: es) [] pos) (tCall (spOf X.K spec) [] E0 t) (wCallMF spec wm) := ⟨pe_callg F room hG hg hm hk hb ha.p hdb he hpl, .callM ha.ok⟩
/-! ### a, b = x, y with new things -/
/-- the slots take what was made -/
def avSet : List Av → List Nat → En → Option En
  | [], [], ρ => some ρ
  | .d x :: as, i :: is, ρ => avSet as is (ρ.set i (.d x))
  | .f c :: as, i :: is, ρ => avSet as is (ρ.set i (.o false c))
  | _, _, _ => none
def wParM (is : List Nat) (wm : WM) : WS := fun D ρ => wm ρ fun as ρ1 => match avSet as is ρ1 with
  | some ρ2 => D.nx ρ2
  | none => False
variable {K : Fg} {pin : Nat → Addr → Prop} {B F0 F F' H H' : Hp} {σ : L2.St} {ρ : En}
theorem loose_set {i : Nat} {s : Sl} {v : V} {p : Addr} {o : HO} (l : Loose B F H σ ρ p o) (h : ∀ b c, s = .o b c → v ≠ .ref p) : Loose B F H (σ.set i (some v)) (ρ.set i s) p o :=
  ⟨l.f, l.b, l.h, fun j ⟨⟨b, c, e⟩, e2⟩ => by
    by_cases hj : j = i
    · subst hj
      have lt : j < ρ.length := by have := (List.getElem?_eq_some_iff.mp e).1; rwa [List.length_set] at this
      have lt2 : j < σ.length := by have := (List.getElem?_eq_some_iff.mp e2).1; rwa [List.length_set] at this
      rw [List.getElem?_set_self lt] at e
      rw [List.getElem?_set_self lt2] at e2
      exact h b c (Option.some.inj e) (Option.some.inj (Option.some.inj e2))
    · rw [List.getElem?_set_ne (Ne.symm hj)] at e e2
      exact l.ap j ⟨⟨b, c, e⟩, e2⟩⟩
theorem AvOk.set {i : Nat} {s : Sl} {v : V} {vs : List V} {as : List Av} {ps : List Addr} (h : AvOk K B F H σ ρ vs as ps) : (∀ p, (∃ b c, s = .o b c) → v = .ref p → p ∉ ps) → avIx as = [] → AvOk K B F H (σ.set i (some v)) (ρ.set i s) vs as ps := by
  induction h with
  | nil => exact fun _ _ => .nil
  | d h _ ih => exact fun a b => .d h (ih a (by unfold avIx at b; exact b))
  | s h _ ih => exact fun a b => by unfold avIx at b; cases b
  | f l hc n _ ih =>
    exact fun a b => .f (loose_set l fun b' c' e z => a _ ⟨b', c', e⟩ z (by simp)) hc n (ih (fun p q z m => a p q z (by simp [m])) (by unfold avIx at b; exact b))
theorem VSok.parM2 {i j : Nat} {t : TA} {wm : WM} (h : VMok K t wm) : VSok K (tPar i j t) (wParM [i, j] wm) := fun pin B F0 F H σ ρ D E r hw ke =>
  h pin B F0 F H σ ρ _ _ r hw fun vs H' F' as ps ρ' le r' p q => by
    have step : ∀ {σ : L2.St} {ρ : En} {vs : List V} {as : List Av} {ps : List Addr} {i : Nat} {is : List Nat} {ρ2 : En}, RE K pin B F0 F' H' σ ρ → AvOk K B F' H' σ ρ vs as ps → avSet as (i :: is) ρ = some ρ2 →
        ∃ v vs' as' ps' s, vs = v :: vs' ∧ RE K pin B F0 F' H' (σ.set i (some v)) (ρ.set i s) ∧ avSet as' is (ρ.set i s) = some ρ2 ∧ (avIx as' = [] → AvOk K B F' H' (σ.set i (some v)) (ρ.set i s) vs' as' ps') := by
      intro σ ρ vs as ps i is ρ2 r h e
      cases h with
      | nil => cases e
      | d hr ht => exact ⟨_, _, _, _, _, rfl, r.setD hr, e, fun z => ht.set (fun p ⟨b, c, y⟩ => nomatch y) z⟩
      | s hr ht => cases e
      | f l hc n ht => exact ⟨_, _, _, _, _, rfl, r.setO l hc, e, fun z => ht.set (fun p _ y => by cases y; exact n) z⟩
    cases e : avSet as [i, j] ρ' with
    | none => rw [e] at q; exact q.elim
    | some ρ2 =>
      rw [e] at q
      obtain ⟨v, vs', as', ps', s, rfl, r1, e1, a1⟩ := step r' p e
      have ix : avIx as' = [] := by
        cases as' with
        | nil => cases e1
        | cons a as' =>
          cases as' with
          | cons b as' => cases a <;> cases b <;> cases e1
          | nil => cases a with
            | d x => rfl
            | s i => cases e1
            | f c => rfl
      obtain ⟨v2, vs2, as2, ps2, s2, rfl, r2, e2, a2⟩ := step r1 (a1 ix) e1
      cases as2 with
      | cons a as => cases a <;> cases e2
      | nil =>
        cases e2
        cases a2 rfl
        exact ⟨v, v2, rfl, ke.nx _ H' F' _ le r2 q⟩
theorem vs_parM {i j : Nat} {x y : Str} {a b : Expr} {tl : TA} {wm : WM} {px py pt : Pos} {kt k2 pt2} (hc : X.calm = true) (hN : X.N.Nodup) (hi : X.N[i]? = some x) (hj : X.N[j]? = some y) (hij : i ≠ j)
    (hx : X.env.scope.names.lookup x = some .local) (hy : X.env.scope.names.lookup y = some .local) (h : VM X [a, b] tl wm)
    (hw : swappedStores [.Tuple [.Name x px, .Name y py] kt pt] (.Tuple [a, b] k2 pt2) X.env = pure (some [x, y]))
    (hs : swapsWithSole [.Tuple [.Name x px, .Name y py] kt pt] (.Tuple [a, b] k2 pt2) pos.line X.env = pure false := by rfl) :
    VS X (.Assign [.Tuple [.Name x px, .Name y py] kt pt] (.Tuple [a, b] k2 pt2) pos) (tPar i j tl) (wParM [i, j] wm) :=
  ⟨ps_par hc hN hi hj hij hx hy h.p hw hs, .parM2 h.ok⟩
end
end G

namespace G
open PySem PySem.Spec PyProof.Rows L2
/-! ### a, b, *rest = xs -/
section
variable {prog : Program} {w : World} {A : Around} {E : Value → Shared → Prop} {I : Addr} {fp wr : List Addr} {Gs : Array GenState → Array GenState → Prop} {n : Nat} {P : Nat → Value → Prop} {S : Nat → Shared → Prop}
theorem walks_drop (W : WalksS prog w A I fp wr Gs n P S) (i : Nat) (hi : i ≤ n) : WalksS prog w A I fp wr Gs (n - i) (fun j => P (i + j)) (fun j => S (i + j)) where
  sub := W.sub
  grefl := W.grefl
  gtrans := W.gtrans
  frame := fun j => W.frame (i + j)
  item := fun j s Q E hj => W.item (i + j) s Q E (by omega)
  done := fun s Q E h => W.done s Q E (by have e : i + (n - i) = n := by omega
                                          rw [e] at h; exact h)
  self := fun j => W.self (i + j)
theorem draw_walks (W : WalksS prog w A I fp wr Gs n P S) : ∀ (k i : Nat) (s : Shared) (Q : List Value → Shared → Prop), i + k ≤ n → S i s →
    (∀ vs s', vs.length = k → (∀ j v, vs[j]? = some v → P (i + j) v) → S (i + k) s' → Moved wr Gs s s' → Q vs s') → wpAny (model prog w) A (draw (.ref I) k) Q E s
  | 0, i, s, Q, _, hs, hQ => by
    show wpAny _ _ (pure []) Q E s
    exact wpAny_pure (hQ [] s rfl (fun j v h => by simp at h) hs (Moved.refl W.grefl))
  | k + 1, i, s, Q, hk, hs, hQ => by
    show wpAny _ _ (pyNext (.ref I) >>= _) Q E s
    refine wpAny_bind (W.item i s _ _ (by omega) hs fun v s1 hv hs1 m1 => ?_)
    refine wpAny_bind (wpAny_holding (draw_walks W k (i + 1) s1 _ (by omega) hs1 fun vs s2 hl hp hs2 m2 => wpAny_pure ?_))
    refine hQ (v :: vs) s2 (by simp [hl]) (fun j u h => ?_) (by rw [show i + (k + 1) = i + 1 + k by omega]; exact hs2) (m1.trans W.gtrans m2)
    cases j with
    | zero => simp at h; subst h; exact hv
    | succ j => rw [show i + (j + 1) = i + 1 + j by omega]; exact hp j u (by simpa using h)
end
section
variable {prog : Program} {w : World} {A : Around} {E : Value → Shared → Prop} {s : Shared}
theorem list_of {items : Array Value} {k : Nat} {vs : List Value} (hl : vs.length = k) (hk : k ≤ items.size) {i : Nat} (h : ∀ j v, vs[j]? = some v → items[i + j]? = some v) : vs = (items.toList.drop i).take k := by
  refine List.ext_getElem? fun j => ?_
  by_cases hj : j < k
  · rw [List.getElem?_take_of_lt hj, List.getElem?_drop]
    have e : vs[j]? = some vs[j] := List.getElem?_eq_getElem (by omega)
    rw [e, ← h j _ e]; simp
  · rw [List.getElem?_eq_none (by omega), List.getElem?_eq_none (by simp; omega)]
/-- what an iterator yields, parted -/
theorem star_items {t : Addr} {items : Array Value} {T : String} {S : Nat → Heap → Prop} {i : Nat} {Q : List Value → Shared → Prop} (hT : T = "str_ascii_iterator" ∨ T = "str_iterator" ∨ T = "list_iterator" ∨ T = "tuple_iterator") (hi : i ≤ items.size) (hz : items.size ≤ sizeLine) (hts : t < s.heap.objs.size)
    (W : ∀ A : Around, A.handled = none → Walks prog w A s.heap.objs.size [s.heap.objs.size, t] [s.heap.objs.size] items.size (fun i v => items[i]? = some v) S) (hh : A.handled = none) (hty : ∀ j (s' : Shared), S j s'.heap → s'.TypeIs (.ref s.heap.objs.size) T)
    (hN : wpAny (model prog w) A (notIterableAtAll (.ref t)) (fun b s' => b = false ∧ s' = s) E s) {o : Obj} (h0 : S 0 (s.heap.push o)) (hI : ∀ Q : Value → Shared → Prop, Q (.ref s.heap.objs.size) { s with heap := s.heap.push o } → wpAny (model prog w) A (pyIter (.ref t)) Q E s)
    (hQ : ∀ (h' : Heap) (tk : Nat), (∀ b u, s.heap.get? b = some u → h'.get? b = some u) →
      Q (items.toList.take i ++ [.ref h'.objs.size]) { s with heap := h'.push { cls := .type "list", data := .seq (items.toList.drop i).toArray }, toks := tk }) :
    wpAny (model prog w) A (unpackItems (.ref t) (i + 1) (some i)) Q E s := by
  unfold unpackItems
  refine wpAny_bind (wpAny_mono hN (fun b s' ⟨hb, hs⟩ => ?_) fun _ _ e => e)
  subst hb; subst hs
  simp only [Bool.false_eq_true, if_false]
  refine wpAny_bind (wpAny_holding (hI _ ?_))
  have WS := (W A hh).toS
  refine wpAny_bind (wpAny_holding (draw_walks WS i 0 _ _ (by omega) h0 fun vs s1 hl hp hs1 m1 => ?_))
  rw [if_neg (by omega)]
  have W2 := walks_drop ((W A.in1 hh).toS) i hi
  have hp' : ∀ j v, vs[j]? = some v → items[0 + j]? = some v := hp
  have e1 := list_of hl hi hp'
  rw [List.drop_zero] at e1
  have sz1 : ∀ b, b ∈ [s'.heap.objs.size, t] → b < s1.heap.objs.size := fun b hb => by
    have hT2 := hty (0 + i) s1 hs1
    obtain ⟨o1, ho1, _⟩ := hT2
    have h1 : s'.heap.objs.size < s1.heap.objs.size := Heap.lt_size ho1
    rcases List.mem_cons.mp hb with rfl | hb
    · exact h1
    · simp at hb; subst hb; exact Nat.lt_trans hts h1
  refine wpAny_bind (wpAny_holding (wpAny_collect_iter (T := T) hT W2 (fun j s2 h => hty (i + j) s2 h) (by rw [Nat.zero_add] at hs1; exact hs1) sz1 (by simp) (fun s2 acc m2 ha => ?_) (by omega)))
  obtain ⟨ha1, ha2⟩ := ha
  have e2 : acc.toList = items.toList.drop i := by
    have := list_of (items := items) (i := i) (k := items.size - i) (vs := acc.toList) (by simp [ha1]) (by omega) (fun j v h => ha2 j v (by simpa using h))
    rw [this, List.take_of_length_le (by simp)]
  have la : acc.toList.length - (i + 1 - 1 - i) = acc.toList.length := by omega
  rw [if_neg (by omega)]
  rw [la]
  refine wpAny_bind (wpAny_newList ?_ (by simp; omega))
  refine wpAny_pure ?_
  rw [List.drop_of_length_le (Nat.le_refl _), List.append_nil, List.take_of_length_le (Nat.le_refl _), e2, e1]
  have mm := m1.trans (fun a b c h1 h2 => h2.trans h1) m2
  have es : s2 = { s' with heap := s2.heap, toks := s2.toks } := by
    obtain ⟨h2, g2, d2, t2, o2⟩ := s2
    have a1 := mm.gens
    have a2 := mm.drawn
    have a3 := mm.os
    simp only at a1 a2 a3
    subst a1; subst a2; subst a3
    rfl
  have hx : ∀ b u, s'.heap.get? b = some u → s2.heap.get? b = some u := fun b u e => mm.heap b u (by simp; exact Nat.ne_of_lt (Heap.lt_size e)) (Heap.get?_push_of_some _ e)
  rw [es]
  exact hQ s2.heap s2.toks hx

theorem star_tuple {t : Addr} {items : Array Value} {i : Nat} {Q : List Value → Shared → Prop} (hh : A.handled = none) (ht : IsTup s.heap t items) (hi : i ≤ items.size) (hz : items.size ≤ sizeLine)
    (hQ : ∀ (h' : Heap) (tk : Nat), (∀ b u, s.heap.get? b = some u → h'.get? b = some u) →
      Q (items.toList.take i ++ [.ref h'.objs.size]) { s with heap := h'.push { cls := .type "list", data := .seq (items.toList.drop i).toArray }, toks := tk }) : wpAny (model prog w) A (unpackItems (.ref t) (i + 1) (some i)) Q E s := by
  have lt : t < s.heap.objs.size := by obtain ⟨o, ho, _⟩ := ht; exact Heap.lt_size ho
  refine star_items (T := "tuple_iterator") (o := { cls := .type "tuple_iterator", data := .fields #[.ref t, .int 0 0] }) (.inr (.inr (.inr rfl))) hi hz lt (fun A hA => Walks.tuple hA _ _ (Nat.ne_of_lt lt) items) hh (fun j s' h => h.1.typeIs) ?_ ⟨⟨_, Heap.get?_push_size _ rfl, rfl, rfl⟩, ht.push _⟩ (fun Q hq => iter_tuple ht hq) hQ
  unfold notIterableAtAll
  exact wpAny_bind (wpAny_specialOf ht.typeIs slot_tuple_iter.lookup (wpAny_pure ⟨rfl, rfl⟩))
theorem star_list {t : Addr} {items : Array Value} {i : Nat} {Q : List Value → Shared → Prop} (hh : A.handled = none) (ht : s.heap.IsList t items) (hi : i ≤ items.size) (hz : items.size ≤ sizeLine)
    (hQ : ∀ (h' : Heap) (tk : Nat), (∀ b u, s.heap.get? b = some u → h'.get? b = some u) →
      Q (items.toList.take i ++ [.ref h'.objs.size]) { s with heap := h'.push { cls := .type "list", data := .seq (items.toList.drop i).toArray }, toks := tk }) : wpAny (model prog w) A (unpackItems (.ref t) (i + 1) (some i)) Q E s := by
  have lt : t < s.heap.objs.size := by obtain ⟨o, ho, _⟩ := ht; exact Heap.lt_size ho
  refine star_items (T := "list_iterator") (o := { cls := .type "list_iterator", data := .fields #[.ref t, .int 0 0] }) (.inr (.inr (.inl rfl))) hi hz lt (fun A hA => Walks.list hA _ _ (Nat.ne_of_lt lt) items) hh (fun j s' h => h.1.typeIs) ?_ ⟨⟨_, Heap.get?_push_size _ rfl, rfl, rfl⟩, ht.push _⟩ (fun Q hq => wpAny_pyIter_list ht hq) hQ
  unfold notIterableAtAll
  exact wpAny_bind (wpAny_specialOf ht.typeIs slot_list_iter.lookup (wpAny_pure ⟨rfl, rfl⟩))
end
section
variable {X : Cx} {pos : Pos}
theorem pgs_star {e : Expr} {q : Pos} {t : TG} (h1 : PG X e t) : PGs X [.Starred e q] (gCons t gNil) := by
  refine ⟨fun pins s σ H vs us Q I r h => ?_⟩
  obtain ⟨v, vr, e1, h⟩ := h
  subst e1
  cases r with
  | cons r1 r2 =>
    show wpAny _ _ (do holding _ (assign e X.env _); assignInOrder [] _) _ _ _
    refine wpAny_bind (wpAny_holding (thn (h1.run pins s σ H v _ _ I r1 h) fun _ s1 ⟨σ1, H1, I1, q1⟩ => ?_))
    exact pgs_nil.run pins s1 σ1 H1 vr _ Q I1 r2 q1
def gStar (K : Fg) (n : Nat) (t : TGs) : TG := fun v σ H Q => ∃ a xs, v = .ref a ∧ (SqT K H a xs ∨ SqL K H a xs) ∧ n ≤ xs.length ∧ ∀ q, H q = none → t (xs.take n ++ [.ref q]) σ (upd H q (.lst (xs.drop n))) Q
theorem pg_star {es : List Expr} {k : Nat} {t : TGs} {n : Nat} (hc : X.calm = true) (h : PGs X es t) (hn : (assignEach es X.env).length = n + 1 := by rfl) (hst : (assignEach es X.env).findIdx? (·.1) = some n := by rfl) : PG X (.Tuple es k pos) (gStar X.K n t) := by
  refine ⟨fun pins s σ H v u Q I r hw => ?_⟩
  obtain ⟨a, xs, rfl, hq, hl, hw⟩ := hw
  cases r
  rw [assign_Tuple]
  refine wpAny_bind (wpAny_standAt ?_)
  unfold unpack
  rw [hn, hst]
  have fin : ∀ its : List Value, Vals xs its → xs.length ≤ sizeLine → ∀ (h' : Heap) (tk : Nat), (∀ b u, s.heap.get? b = some u → h'.get? b = some u) →
      wpAny (model X.prog X.w) X.A (assignInOrder ((assignEach es X.env).map (·.2)) (its.toArray.toList.take n ++ [.ref h'.objs.size])) (fun _ s' => ∃ σ' H', Inv X pins σ' H' s' ∧ Q σ' H') X.xe { s with heap := h'.push { cls := .type "list", data := .seq (its.toArray.toList.drop n).toArray }, toks := tk } := by
    intro its rv hz h' tk hx
    have I1 : Inv X pins σ H { s with heap := h', toks := tk } := I.kept hx
    have hf : H h'.objs.size = none := I1.hok.fresh (Nat.le_refl _)
    have rd : Vals (xs.drop n) (its.drop n) := rv.drop n
    have rt : Vals (xs.take n ++ [V.ref h'.objs.size]) (its.take n ++ [.ref h'.objs.size]) := (rv.take n).append (.cons rfl .nil)
    have I2 := I1.laid (a := h'.objs.size) (o := .lst (xs.drop n)) (h' := h'.push { cls := .type "list", data := .seq (its.drop n).toArray }) (t' := tk) (fun b u e => Heap.get?_push_of_some _ e) (Nat.le_refl _) ⟨by rw [List.length_drop]; omega, its.drop n, 0, rd, Heap.get?_push_size _ rfl⟩
    have := h.run pins _ σ _ (xs.take n ++ [V.ref h'.objs.size]) (its.take n ++ [.ref h'.objs.size]) Q I2 rt (hw _ hf)
    simpa using this
  rcases hq with hq | hq
  · obtain ⟨its, rv, ht, hz⟩ := I.tuple hq
    have hl2 := rv.length
    exact wpAny_bind (wpAny_holding (star_tuple (I.ok.hd hc) ht (by simp; omega) (by simp; omega) (fin its rv hz)))
  · obtain ⟨its, rv, ⟨o, n', ho, h1, h2, h3⟩, hz⟩ := I.list hq
    have hl2 := rv.length
    exact wpAny_bind (wpAny_holding (star_list (I.ok.hd hc) ⟨o, ho, h1, n', h3⟩ (by simp; omega) (by simp; omega) (fin its rv hz)))
end
end G

namespace G
open PySem PySem.Spec PyProof.Rows L2
section
variable {K : Fg} {pin : Nat → Addr → Prop} {B F0 F F' H H' : Hp} {σ : L2.St} {ρ : En}
/-! ### a, b, *rest = xs -/
def seqD : D → Option (List D)
  | .tuple ds => some ds
  | .list ds => some ds
  | _ => none
def wStar (is : List Nat) (j : Nat) (we : WE) : WS := fun D ρ => we ρ fun d ρ' => match seqD d with
  | some ds => is.length ≤ ds.length ∧ D.nx (((is.zip ds).foldl (fun r p => r.set p.1 (.d p.2)) ρ').set j (.o false (.l (ds.drop is.length))))
  | none => False
theorem gNames_star {R : L2.St → Hp → Prop} {q : Addr} {o : HO} {c : Ct} {j : Nat} : ∀ (is : List Nat) (σ : L2.St) (ρ : En) (vs : List V) (ds : List D), RE K pin B F0 F H σ ρ → Loose B F H σ ρ q o → CtOk K F o c → RpA K F vs ds → is.length = vs.length →
    (∀ σ', RE K pin B F0 F H σ' (((is.zip ds).foldl (fun r p => r.set p.1 (.d p.2)) ρ).set j (.o false c)) → R σ' H) → gNames (is ++ [j]) (vs ++ [.ref q]) σ H R
  | [], σ, ρ, vs, ds, r, l, hc, p, hl, k => by
    cases p with
    | cons => simp at hl
    | nil => exact ⟨_, _, rfl, rfl, k _ (r.setO l hc)⟩
  | i :: is, σ, ρ, vs, ds, r, l, hc, p, hl, k => by
    cases p with
    | nil => simp at hl
    | cons h t => exact ⟨_, _, rfl, gNames_star is _ (ρ.set i (.d _)) _ _ (r.setD h) (loose_set l fun b c e => nomatch e) hc t (by simpa using hl) k⟩
theorem zip_take : ∀ (is : List Nat) (ds : List D), is.zip ds = is.zip (ds.take is.length)
  | [], _ => rfl
  | _ :: _, [] => rfl
  | i :: is, d :: ds => by simp only [List.zip_cons_cons, List.length_cons, List.take_succ_cons]; rw [← zip_take is ds]
variable {X : Cx} {e : Expr} {pos : Pos} {te : TE} {we : WE}
theorem vs_star {es : List Expr} {k : Nat} {is : List Nat} {j n : Nat} {pt : Pos} (h : VE X e te we) (hc : X.calm = true) (hn : n = is.length) (hg : PGs X es (gNames (is ++ [j]))) (h1 : (assignEach es X.env).length = n + 1 := by rfl) (h2 : (assignEach es X.env).findIdx? (·.1) = some n := by rfl)
    (hs : swapsWithSole [.Tuple es k pt] e pos.line X.env = pure false := by rfl) (hw : swappedStores [.Tuple es k pt] e X.env = pure none := by rfl)
    (h3 : (assignEach [.Tuple es k pt] X.env).map (·.2) = [assign (.Tuple es k pt) X.env] := by rfl) : VS X (.Assign [.Tuple es k pt] e pos) (tAsg te (gStar X.K n (gNames (is ++ [j])))) (wStar is j we) :=
  ⟨ps_asg h.p (pg_star hc hg h1 h2) hs hw h3, fun pin B F0 F H σ ρ DD E r hw ke => h.ok pin B F0 F H σ ρ _ _ r hw fun v H' F' d ρ' le r' p q => by
    have fin : ∀ (a : Addr) (xs : List V) (ds : List D), (SqT X.K H' a xs ∨ SqL X.K H' a xs) → RpA X.K F' xs ds → is.length ≤ ds.length → DD.nx (((is.zip ds).foldl (fun r p => r.set p.1 (.d p.2)) ρ').set j (.o false (.l (ds.drop is.length)))) → gStar X.K n (gNames (is ++ [j])) (.ref a) σ H' E.nx := by
      intro a xs ds hq ra hl q
      refine ⟨a, xs, rfl, hq, by rw [ra.length, hn]; exact hl, fun z hz => ?_⟩
      have ez := zip_take is ds
      rw [ez] at q
      subst hn
      refine gNames_star (c := .l (ds.drop is.length)) is σ ρ' _ (ds.take is.length) (r'.lay hz) (r'.lays hz) (ra.drop _) (ra.take _) ?_ fun σ' r2 => ke.nx σ' _ F' _ le r2 q
      have := ra.length
      simp; omega
    cases p <;> first | exact q.elim | skip
    · rename_i a xs ds hs ra
      exact fin a xs ds (.inr (r'.sub.sqL hs)) ra q.1 q.2
    · rename_i a xs ds hs ra
      exact fin a xs ds (.inl (r'.sub.sqT hs)) ra q.1 q.2⟩
/-! ### {k: v, ..} -/
abbrev WP := En → (List (D × D) → En → Prop) → Prop
def wpNil : WP := fun ρ Q => Q [] ρ
def wpCons (wk wv : WE) (wp : WP) : WP := fun ρ Q => wk ρ fun k ρ1 => wv ρ1 fun v ρ2 => wp ρ2 fun ps ρ3 => Q ((k, v) :: ps) ρ3
def VPok (K : Fg) (t : List (TE × TE)) (w : WP) : Prop := ∀ (pin : Nat → Addr → Prop) (B F0 F H : Hp) (σ : L2.St) (ρ : En) (Q : List (D × D) → En → Prop) (R : List (V × V) → Hp → Prop), RE K pin B F0 F H σ ρ → w ρ Q →
  (∀ ps H' F' ds ρ', Le F F' → RE K pin B F0 F' H' σ ρ' → Paired (fun p d => Rp K F' p.1 d.1 ∧ Rp K F' p.2 d.2) ps ds → Q ds ρ' → R ps H') → tPairs t σ H R
structure VP (X : Cx) (pos : Pos) (ks : List (Option Expr)) (vs : List Expr) (t : List (TE × TE)) (w : WP) : Prop where
  p : PPs X pos ks vs t
  ok : VPok X.K t w
theorem vp_nil : VP X pos [] [] [] wpNil := ⟨pps_nil, fun pin B F0 F H σ ρ Q R r hw k => k [] H F [] ρ (Le.refl F) r .nil hw⟩
theorem vp_cons {k v : Expr} {ks : List (Option Expr)} {vs : List Expr} {tk tv : TE} {wk wv : WE} {t : List (TE × TE)} {wp : WP} (hk : VE X k tk wk) (hv : VE X v tv wv) (hr : VP X pos ks vs t wp) : VP X pos (some k :: ks) (v :: vs) ((tk, tv) :: t) (wpCons wk wv wp) :=
  ⟨pps_cons hk.p hv.p hr.p, fun pin B F0 F H σ ρ Q R r hw kk => hk.ok pin B F0 F H σ ρ _ _ r hw fun x H1 F1 dx ρ1 l1 r1 p1 q1 => hv.ok pin B F0 F1 H1 σ ρ1 _ _ r1 q1 fun y H2 F2 dy ρ2 l2 r2 p2 q2 =>
    hr.ok pin B F0 F2 H2 σ ρ2 _ _ r2 q2 fun ps H3 F3 ds ρ3 l3 r3 p3 q3 => kk _ H3 F3 _ ρ3 ((l1.trans l2).trans l3) r3 (.cons ⟨p1.le (l2.trans l3), p2.le l3⟩ p3) q3⟩
def keysD : List (D × D) → Option (List (Key × D))
  | [] => some []
  | (k, v) :: r => match dKey k, keysD r with
    | some k', some r' => some ((k', v) :: r')
    | _, _ => none
def wDisp (wp : WP) : WF := fun ρ Q => wp ρ fun ps ρ' => match keysD ps with
  | some kvs => kvs.length ≤ 15 ∧ Q (.k (mergeE [] kvs)) ρ'
  | none => False
theorem keysD_ok : ∀ {ps : List (V × V)} {ds : List (D × D)} {kvs : List (Key × D)}, Paired (fun p d => Rp K F p.1 d.1 ∧ Rp K F p.2 d.2) ps ds → keysD ds = some kvs → ∃ vs : List (Key × V), ps = vs.map (fun kv => (kV kv.1, kv.2)) ∧ vs.map (·.1) = kvs.map (·.1) ∧ RpA K F (vs.map (·.2)) (kvs.map (·.2))
  | [], _, _, .nil, e => by cases e; exact ⟨[], rfl, rfl, .nil⟩
  | (x, y) :: ps, _, kvs, .cons (b := (dk, dv)) h t, e => by
    unfold keysD at e
    cases q1 : dKey dk with
    | none => rw [q1] at e; simp at e
    | some k =>
      rename_i bs
      cases q2 : keysD bs with
      | none => rw [q1, q2] at e; simp at e
      | some r =>
        rw [q1, q2] at e; cases e
        obtain ⟨vs, rfl, e2, e3⟩ := keysD_ok t q2
        have hk := rp_key h.1 q1
        simp only at hk
        subst hk
        exact ⟨(k, y) :: vs, rfl, by simp [e2], .cons h.2 e3⟩
theorem vf_disp {ks : List (Option Expr)} {vs : List Expr} {t : List (TE × TE)} {wp : WP} (h : VP X pos ks vs t wp) (hall : ks.all (·.isSome) = true := by rfl) (hl : ks.length = vs.length := by rfl) (h0 : ks ≠ [] := by simp) (h15 : ks.length ≤ 15 := by decide) : VF X (.Dict ks vs pos) (tDisp t) (wDisp wp) :=
  ⟨pe_disp h.p hall hl h0 h15, fun pin B F0 F H σ ρ Q R r hw k p hp => h.ok pin (upd B p (.dK [])) F F (upd H p (.dK [])) σ ρ _ _ ((r.lay hp).hide (r.lays hp)) hw fun ps H' F' ds ρ' le r' pr q => by
    obtain ⟨r2, l2⟩ := (r.lay hp).show (r.lays hp) r'
    cases e : keysD ds with
    | none => rw [e] at q; exact q.elim
    | some kvs =>
      rw [e] at q
      obtain ⟨ws, rfl, e2, e3⟩ := keysD_ok pr e
      have hlen : ws.length = kvs.length := by have := congrArg List.length e2; simpa using this
      refine ⟨l2.h, ws, rfl, by rw [hlen]; exact q.1, ?_⟩
      obtain ⟨m1, m2⟩ := merge_rp (as := []) (bs := []) e2 e3 rfl .nil
      refine k p (.dK (mergeK [] ws)) _ F' (.k (mergeE [] kvs)) ρ' le ?_ ?_ ⟨m1, m2⟩ q.2
      · exact (r2.poke l2 _).1
      · exact (r2.poke l2 _).2⟩
/-! ### a tuple of the top -/
def TupC (K : Fg) (ov : Option Value) (ds : List D) : Prop := ∃ a, ov = some (.ref a) ∧ ∀ F, Rp K F (.ref a) (.tuple ds)
theorem ve_globT {x : Str} {ds : List D} (hg : Gl X x) (hm : TupC X.K (X.mg x) ds) (hd : (x == ("__debug__" : Str)) = false := by decide) : ∃ a, VE X (.Name x pos) (tC (.ref a)) (wC (.tuple ds)) := by
  obtain ⟨a, h1, h2⟩ := hm
  exact ⟨a, ve_glob hg h1 rfl h2 hd⟩
/-! ### x.extend(new list) -/
def wExtF (i : Nat) (wf : WF) : WE := fun ρ Q => match ρ[i]? with
  | some (.o _ (.l _)) => wf ρ fun c ρ1 => match ρ1[i]?, c with
    | some (.o b (.l ds)), .l es => ds.length + es.length ≤ sizeLine ∧ Q .none (ρ1.set i (.o b (.l (ds ++ es))))
    | _, _ => False
  | _ => False
theorem ve_extF {i : Nat} {x : Str} {p apos cpos : Pos} {wf : WF} (ho : PE X (.Name x p) (tVar i)) (h : VF X e te wf) (hbase : attributeBase (.Name x p) "extend" X.env (eval (.Name x p) X.env) = eval (.Name x p) X.env := by rfl)
    (hfew : ((backTo cpos (starEach [e] X.env)).all (fun x => !x.1) && (backToKw cpos (keywordEach [] X.env)).all (fun x => x.1.isSome)
      && decide (([e] : List Expr).length + ([] : List Keyword).length + (if ([] : List Keyword).isEmpty then 0 else 1) < 30)) = true := by rfl)
    (hline : (apos.endLine == cpos.line) = true := by rfl) (hs : starEach [e] X.env = [(false, eval e X.env)] := by rfl) : VE X (.Call (.Attribute (.Name x p) "extend" apos) [e] [] cpos) (tBM X.K "list" rExtend (tVar i) (tCons te tNil)) (wExtF i wf) :=
  ⟨pe_bm PySem.F.plainAttrs_list PySem.F.slot_list_extend PySem.F.type_list_extend mt_extend ho (pa_cons h.p pa_nil hs) hbase hfew hline hs rfl, fun pin B F0 F H σ ρ Q R r hw kk => by
    unfold wExtF at hw
    split at hw <;> first | exact False.elim hw | skip
    rename_i b0 ds0 e0
    obtain ⟨q, o, ev, ha, hc⟩ := r.get_o e0
    cases o <;> first | exact False.elim hc | skip
    rename_i xs0
    refine ⟨.ref q, ev, .inl ⟨rfl, xs0, .inl (.inl ha)⟩, h.ok pin B F0 F H σ ρ _ _ r hw fun y oy H2 F2 c ρ2 l2 r2 lo2 hc2 q2 => ?_⟩
    split at q2 <;> first | exact False.elim q2 | skip
    rename_i _ b ds es e3
    obtain ⟨q', o', ev', ha', hc'⟩ := r2.get_o e3
    rw [ev] at ev'; cases ev'
    cases o' <;> first | exact False.elim hc' | skip
    rename_i xs
    cases oy <;> first | exact False.elim hc2 | skip
    rename_i ys
    have hl : xs.length = ds.length := RpA.length hc'
    have hl2 : ys.length = es.length := RpA.length hc2
    exact ⟨q, y, xs, ys, rfl, rfl, ha', lo2.h, by rw [hl, hl2]; exact q2.1, kk _ _ F2 _ _ l2 (r2.write (c' := .l (ds ++ es)) e3 ev (RpA.append hc' hc2)) .non q2.2⟩⟩
/-! ### str(int) -/
def fStrI : D → (D → Prop) → Prop := fun d Q => match d with
  | .int i => i.natAbs.log2 < 1920 ∧ Q (.str (toString i))
  | _ => False
theorem c1_strI {K : Fg} : C1 K (fun xs H Q => ∃ i, xs = [.int i] ∧ i.natAbs.log2 < 1920 ∧ Q (.str (toString i)) H) fStrI := by
  intro pin B F0 F H σ ρ x d Q R r px hq k
  cases d <;> first | exact False.elim hq | skip
  have px' := px.scal (by intro c; cases c <;> exact fun z => nomatch z)
  cases px'
  exact ⟨_, rfl, hq.1, k _ H F _ (Le.refl F) r (.str _) hq.2⟩
end
end G

namespace G
open PySem PySem.Spec PyProof.Rows L2
section
variable {K : Fg} {pin : Nat → Addr → Prop} {B F0 F F' H H' : Hp} {σ : L2.St} {ρ : En}
theorem avSet_ix : ∀ {as : List Av} {is : List Nat} {ρ ρ2 : En}, avSet as is ρ = some ρ2 → avIx as = []
  | [], [], _, _, _ => rfl
  | [], _ :: _, _, _, e => by cases e
  | .d x :: as, [], _, _, e => by cases e
  | .f x :: as, [], _, _, e => by cases e
  | .s x :: as, [], _, _, e => by cases e
  | .d x :: as, i :: is, _, _, e => by unfold avIx; exact avSet_ix (show avSet as is _ = _ from e)
  | .f x :: as, i :: is, _, _, e => by unfold avIx; exact avSet_ix (show avSet as is _ = _ from e)
  | .s x :: as, i :: is, _, _, e => by cases e
theorem avSet_len : ∀ {as : List Av} {is : List Nat} {ρ ρ2 : En}, avSet as is ρ = some ρ2 → as.length = is.length
  | [], [], _, _, _ => rfl
  | [], _ :: _, _, _, e => by cases e
  | .d x :: as, [], _, _, e => by cases e
  | .f x :: as, [], _, _, e => by cases e
  | .s x :: as, [], _, _, e => by cases e
  | .d x :: as, i :: is, _, _, e => by rw [List.length_cons, List.length_cons, avSet_len (show avSet as is _ = _ from e)]
  | .f x :: as, i :: is, _, _, e => by rw [List.length_cons, List.length_cons, avSet_len (show avSet as is _ = _ from e)]
  | .s x :: as, i :: is, _, _, e => by cases e
theorem gNames_av {R : L2.St → Hp → Prop} : ∀ {is : List Nat} {as : List Av} {ps : List Addr} {vs : List V} {σ : L2.St} {ρ ρ2 : En}, RE K pin B F0 F H σ ρ → AvOk K B F H σ ρ vs as ps → avSet as is ρ = some ρ2 → (∀ σ', RE K pin B F0 F H σ' ρ2 → R σ' H) → gNames is vs σ H R
  | [], as, ps, vs, σ, ρ, ρ2, r, h, e, k => by
    cases h with
    | nil => cases e; exact ⟨rfl, k σ r⟩
    | d => cases e
    | s => cases e
    | f => cases e
  | i :: is, as, ps, vs, σ, ρ, ρ2, r, h, e, k => by
    have ix := avSet_ix e
    cases h with
    | nil => cases e
    | d hr ht => exact ⟨_, _, rfl, gNames_av (r.setD hr) (ht.set (fun p ⟨b, c, y⟩ => nomatch y) (by unfold avIx at ix; exact ix)) e k⟩
    | s hr ht => cases e
    | f l hc n ht => exact ⟨_, _, rfl, gNames_av (r.setO l hc) (ht.set (fun p _ y => by cases y; exact n) (by unfold avIx at ix; exact ix)) e k⟩
theorem Loose.lay {p q : Addr} {o u : HO} (l : Loose B F H σ ρ p o) (hq : H q = none) : Loose B F (upd H q u) σ ρ p o := ⟨l.f, l.b, by rw [upd_ne (ne_of_none l.h hq)]; exact l.h, l.ap⟩
theorem AvOk.lay {q : Addr} {u : HO} (hq : H q = none) {vs : List V} {as : List Av} {ps : List Addr} (h : AvOk K B F H σ ρ vs as ps) : AvOk K B F (upd H q u) σ ρ vs as ps := by
  induction h with
  | nil => exact .nil
  | d h _ ih => exact .d h ih
  | s h _ ih => exact .s h ih
  | f l hc n _ ih => exact .f (l.lay hq) hc n ih
theorem AvOk.len {vs : List V} {as : List Av} {ps : List Addr} (h : AvOk K B F H σ ρ vs as ps) : vs.length = as.length := by
  induction h with
  | nil => rfl
  | d _ _ ih => simp [ih]
  | s _ _ ih => simp [ih]
  | f _ _ _ _ ih => simp [ih]
variable {X : Cx} {e : Expr} {pos : Pos} {te : TE} {we : WE}
/-- a, b = (x, y), by a tuple, with new things -/
theorem vs_tupM {tg : List Expr} {es : List Expr} {k1 k2 : Nat} {p1 p2 : Pos} {is : List Nat} {n : Nat} {tl : TA} {wm : WM} (h : VM X es tl wm) (hc : X.calm = true) (hg : PGs X tg (gNames is)) (hz : es.length ≤ 100) (hl : n = is.length) (hle : es.length = n) (h1 : (assignEach tg X.env).length = n := by rfl) (h2 : (assignEach tg X.env).findIdx? (·.1) = none := by rfl)
    (hs : swapsWithSole [.Tuple tg k1 p1] (.Tuple es k2 p2) pos.line X.env = pure false := by rfl) (hw : swappedStores [.Tuple tg k1 p1] (.Tuple es k2 p2) X.env = pure none := by rfl)
    (h3 : (assignEach [.Tuple tg k1 p1] X.env).map (·.2) = [assign (.Tuple tg k1 p1) X.env] := by rfl) : VS X (.Assign [.Tuple tg k1 p1] (.Tuple es k2 p2) pos) (tAsg (tTup tl) (gTup X.K n (gNames is))) (wParM is wm) :=
  ⟨ps_asg (pe_tup h.p) (pg_tup hc hg h1 h2) hs hw h3, fun pin B F0 F H σ ρ DD E r hw ke => h.ok pin B F0 F H σ ρ _ _ r hw fun vs H' F' as ps ρ' le r' p q => by
    cases e : avSet as is ρ' with
    | none => rw [e] at q; exact q.elim
    | some ρ2 =>
      rw [e] at q
      have la := avSet_len e
      have lv : vs.length = n := by rw [p.len, la, hl]
      refine ⟨Nat.le_trans (by omega : vs.length ≤ 100) (by decide), fun t ht => ?_⟩
      exact ⟨t, vs, rfl, .inl (.inl upd_same), lv, gNames_av (r'.lay ht) (p.lay ht) e fun σ' r2 => ke.nx σ' _ F' ρ2 le r2 q⟩⟩
/-! ### (x,) * n -/
def fRepT : D → D → (D → Prop) → Prop := fun x y Q => match x, y with
  | .tuple xs, .int k => xs ≠ [] ∧ 2 ≤ k ∧ k ≤ 1000 ∧ xs.length ≤ 1000 ∧ Q (.tuple (List.replicate k.toNat xs).flatten)
  | _, _ => False
theorem opok_repT {K : Fg} : OpOk K (rRepT K) fRepT := by
  intro pin B F0 F H σ ρ x y dx dy Q R r px py hq k
  cases px <;> cases py <;> first | exact False.elim hq | skip
  rename_i a xs ds hs ra n
  obtain ⟨h0, h2, h3, h4, hq⟩ := hq
  have hl := ra.length
  refine ⟨a, n, xs, rfl, rfl, r.sub.sqT hs, fun z => ?_, h2, h3, by omega, fun p hp => ?_⟩
  · subst z; cases ra; exact h0 rfl
  · exact k _ _ _ _ (le_upd (r.fnone hp)) (r.alloc hp) (.tup (.inl (.inl upd_same)) ((ra.flat _).le (le_upd (r.fnone hp)))) hq
end
theorem iteN {p A B : Prop} [d : Decidable p] (h : ¬ p) (b : B) : @ite Prop p d A B := by rw [if_neg h]; exact b
theorem iteY {p A B : Prop} [d : Decidable p] (h : p) (b : A) : @ite Prop p d A B := by rw [if_pos h]; exact b
end G

namespace K23
open PySem PySem.Spec PyProof.Rows L2 G
/-! ### drawing -/
/-- a drawer's list: what is left of a great number, the seed, how many were drawn (at most c) -/
def Hd (c : Nat) (ds : List D) : Prop := ∃ (g s : Int) (n : Nat), ds = [.int g, .int s, .int n] ∧ 0 ≤ g ∧ g < 10 ^ 120 ∧ 0 ≤ s ∧ s < 2 ^ 62 ∧ n ≤ c
theorem Hd.mono {c c' : Nat} {ds : List D} (h : Hd c ds) (hc : c ≤ c') : Hd c' ds := by
  obtain ⟨g, s, n, e, h1, h2, h3, h4, h5⟩ := h
  exact ⟨g, s, n, e, h1, h2, h3, h4, by omega⟩
theorem cdiv_small {i j : Int} (h : 0 < j) (h2 : j < 2 ^ 30) : CDivW i j := wide_div (b := 30) h (by omega) (by omega) (by omega)
theorem div_le_self {a b : Int} (ha : 0 ≤ a) (hb : 0 < b) : a / b ≤ a := Int.ediv_le_self b ha
def sp__law_take : Spc := fun as R => ∃ (ds : List D) (c : Nat) (m : Int), as = [.o true (.l ds), .d (.int m)] ∧ Hd c ds ∧ c ≤ 2 ^ 40 ∧ 0 < m ∧ m < 2 ^ 30 ∧
  ∀ (v : Int) (ds' : List D), 0 ≤ v → v < m → Hd (c + 1) ds' → R (.fz (.int v)) [.o true (.l ds'), .no]
theorem len__law_take : ∀ as R, sp__law_take as R → as.length = 2 := fun as R ⟨ds, c, m, e, _⟩ => by rw [e]; rfl
def w__law_take_5 : WS := (wRet (wOp (fI (fun _ j => 0 < j) fun i j => .int (i % j)) (wOp (fI CDivW fun i j => .int (i / j)) (wOp (fI (fun _ j => 0 < j) fun i j => .int (i % j)) (wOp (fI CMulA fun i j => .int (i * j)) (wName 4) (wOp fAdd (wOp (fI (fun _ j => 0 < j) fun i j => .int (i % j)) (wName 4) (wC (.int 1009))) (wAt 0 fIx (wC (.int 2))))) (wName 3)) (wC (.int 7))) (wName 1)))
theorem w__law_take_5_e (E : VD) (ρ : En) : w__law_take_5 E ρ = (wRet (wOp (fI (fun _ j => 0 < j) fun i j => .int (i % j)) (wOp (fI CDivW fun i j => .int (i / j)) (wOp (fI (fun _ j => 0 < j) fun i j => .int (i % j)) (wOp (fI CMulA fun i j => .int (i * j)) (wName 4) (wOp fAdd (wOp (fI (fun _ j => 0 < j) fun i j => .int (i % j)) (wName 4) (wC (.int 1009))) (wAt 0 fIx (wC (.int 2))))) (wName 3)) (wC (.int 7))) (wName 1))) E ρ := rfl
def w__law_take_4 : WS := (wSeq (wSet 4 (wOp (fI (fun _ j => 0 < j) fun i j => .int (i % j)) (wOp (fI CPow fun i j => .int (i ^ j.toNat)) (wOp fAdd (wAt 0 fIx (wC (.int 1))) (wOp (fI CMulA fun i j => .int (i * j)) (wC (.int 7919)) (wAt 0 fIx (wC (.int 2))))) (wC (.int 5))) (wName 3)))
    w__law_take_5)
theorem w__law_take_4_e (E : VD) (ρ : En) : w__law_take_4 E ρ = (wSeq (wSet 4 (wOp (fI (fun _ j => 0 < j) fun i j => .int (i % j)) (wOp (fI CPow fun i j => .int (i ^ j.toNat)) (wOp fAdd (wAt 0 fIx (wC (.int 1))) (wOp (fI CMulA fun i j => .int (i * j)) (wC (.int 7919)) (wAt 0 fIx (wC (.int 2))))) (wC (.int 5))) (wName 3)))
    w__law_take_5) E ρ := rfl
def w__law_take_3 : WS := (wSeq (wSet 3 (wAt 2 fIx (wOp (fI (fun _ j => 0 < j) fun i j => .int (i % j)) (wAt 0 fIx (wC (.int 2))) (wC (.int 8)))))
    w__law_take_4)
theorem w__law_take_3_e (E : VD) (ρ : En) : w__law_take_3 E ρ = (wSeq (wSet 3 (wAt 2 fIx (wOp (fI (fun _ j => 0 < j) fun i j => .int (i % j)) (wAt 0 fIx (wC (.int 2))) (wC (.int 8)))))
    w__law_take_4) E ρ := rfl
def w__law_take_2 : WS := (wSeq (wSetF 2 (wLst (wCons (wC (.int 2147483647)) (wCons (wC (.int 2147483629)) (wCons (wC (.int 2147483587)) (wCons (wC (.int 2147483579)) (wCons (wC (.int 2147483563)) (wCons (wC (.int 2147483549)) (wCons (wC (.int 2147483543)) (wCons (wC (.int 2147483497)) wNil))))))))))
    w__law_take_3)
theorem w__law_take_2_e (E : VD) (ρ : En) : w__law_take_2 E ρ = (wSeq (wSetF 2 (wLst (wCons (wC (.int 2147483647)) (wCons (wC (.int 2147483629)) (wCons (wC (.int 2147483587)) (wCons (wC (.int 2147483579)) (wCons (wC (.int 2147483563)) (wCons (wC (.int 2147483549)) (wCons (wC (.int 2147483543)) (wCons (wC (.int 2147483497)) wNil))))))))))
    w__law_take_3) E ρ := rfl
def w__law_take_1 : WS := (wSeq (wPut 0 (wC (.int 2)) (wOp fAdd (wAt 0 fIx (wC (.int 2))) (wC (.int 1))))
    w__law_take_2)
theorem w__law_take_1_e (E : VD) (ρ : En) : w__law_take_1 E ρ = (wSeq (wPut 0 (wC (.int 2)) (wOp fAdd (wAt 0 fIx (wC (.int 2))) (wC (.int 1))))
    w__law_take_2) E ρ := rfl
def w__law_take_0 : WS := (wSeq (wIfS (wBool (wOp (fI0 fun i j => .bool (decide (j < i))) (wAt 0 fIx (wC (.int 0))) (wC (.int 0)))) (wSeq (wSet 5 (wOp (fI (fun _ j => 0 < j) fun i j => .int (i % j)) (wAt 0 fIx (wC (.int 0))) (wName 1)))
    (wSeq (wPut 0 (wC (.int 0)) (wOp (fI CDivW fun i j => .int (i / j)) (wAt 0 fIx (wC (.int 0))) (wName 1)))
    (wRet (wName 5)))) wNext)
    w__law_take_1)
theorem w__law_take_0_e (E : VD) (ρ : En) : w__law_take_0 E ρ = (wSeq (wIfS (wBool (wOp (fI0 fun i j => .bool (decide (j < i))) (wAt 0 fIx (wC (.int 0))) (wC (.int 0)))) (wSeq (wSet 5 (wOp (fI (fun _ j => 0 < j) fun i j => .int (i % j)) (wAt 0 fIx (wC (.int 0))) (wName 1)))
    (wSeq (wPut 0 (wC (.int 0)) (wOp (fI CDivW fun i j => .int (i / j)) (wAt 0 fIx (wC (.int 0))) (wName 1)))
    (wRet (wName 5)))) wNext)
    w__law_take_1) E ρ := rfl
def w__law_take : WS := w__law_take_0
def Bd__law_take : Prop := Body 2 4 w__law_take sp__law_take
theorem prime_at {n : Nat} : ∃ j : Int, atI [PyData.int 2147483647, PyData.int 2147483629, PyData.int 2147483587, PyData.int 2147483579, PyData.int 2147483563, PyData.int 2147483549, PyData.int 2147483543, PyData.int 2147483497] (((n : Int) + 1) % 8) = some (.int j) ∧ 0 < j ∧ j < 2 ^ 31 := by
  obtain ⟨x, e, e2⟩ := atI_lt (xs := [PyData.int 2147483647, PyData.int 2147483629, PyData.int 2147483587, PyData.int 2147483579, PyData.int 2147483563, PyData.int 2147483549, PyData.int 2147483543, PyData.int 2147483497]) (i := ((n : Int) + 1) % 8) (by omega) (by simp; omega)
  have hm := List.mem_of_getElem? e2
  simp only [List.mem_cons, List.not_mem_nil, or_false] at hm
  rcases hm with h | h | h | h | h | h | h | h <;> subst h <;> exact ⟨_, e, by decide, by decide⟩
theorem body__law_take : Bd__law_take := by
  intro as R h
  obtain ⟨ds, c, m, rfl, ⟨g, s, n, rfl, h1, h2, h3, h4, h5⟩, hc, hm, hm2, k⟩ := h
  simp only [w__law_take, w__law_take_5, w__law_take_4, w__law_take_3, w__law_take_2, w__law_take_1, w__law_take_0, wSeq, wNext, wIfS, wBool, wOp, wAt, wPeek, wName, wC, fIx, wChain, wAndT, wOrT, wNotT, wAndV, wOrV, wNotV, wIf, wNil, wCons, wTup, wLst, wDNew, wFz, fI, fI0, fEq, fNe, fIsN, fIsNot, fAdd, fIn, wC1, wC1F, fLen, fTup, fList, fInt, fAbs, wSlT, wSlL, wNoPart, wPart, wDrop, wRet, wRetF, wRetO, wSet, wSetF, wSetT, wPar, wPut, wBreak, wCont, wItems, wRng1, wRng2, wZip, wEnum, wEnumA, wRev, wFor, wWhile, wLc, wDc, wYes, wCall, wCallF, wCallK, wCallIo, wIsi, wNeg, wGetN, wGetE, wPop2, wAppend, wStar, seqD, fRepT, wDisp, wpCons, wpNil, keysD, dKey, wExtF, fStrI, wCallM, wCallMF, wmNil, wmD, wmS, wmF, avIx, avSls, avSl, avBack, avSet, wParM, List.nodup_nil, List.nodup_cons, List.mem_cons, List.not_mem_nil, or_false, not_false_eq_true, List.drop_succ_cons, List.drop_zero,  wAug, wRepL, wCatO, wCatF, wKeys, wItemsK, bName, bNames, retD, ctD, vd, itemsD, isDict, List.getElem?_cons_zero, List.getElem?_cons_succ, List.set_cons_zero, List.set_cons_succ, List.cons_append, List.nil_append, List.append_nil, List.replicate_succ, List.replicate_zero, List.map_cons, List.map_nil, List.length_cons, List.length_nil, List.zip_cons_cons, List.zip_nil_right, List.zip_nil_left, List.foldl_cons, List.foldl_nil, wipeE, backE, List.getD_cons_zero, List.getD_cons_succ, outsOf, keepPin, List.range_succ, List.range_zero, exS, at0, at1, at2, at3, at4, ix0, ix1, ix2, if_true, if_false, true_and, and_true, Bool.false_eq_true, reduceCtorEq, eqvI, eqvS, eqvB, scalI, scalS, scalB, true_or, decide_eq_true_eq, Bool.not_true, Bool.not_false, Bool.not_eq_true, isi_none_int, isi_none_bool, isi_none_str, isi_none_tuple, isi_none_list, isi_none_dict, isi_bool_int, isi_bool_bool, isi_bool_str, isi_bool_tuple, isi_bool_list, isi_bool_dict, isi_int_int, isi_int_bool, isi_int_str, isi_int_tuple, isi_int_list, isi_int_dict, isi_str_int, isi_str_bool, isi_str_str, isi_str_tuple, isi_str_list, isi_str_dict, isi_list_int, isi_list_bool, isi_list_str, isi_list_tuple, isi_list_list, isi_list_dict, isi_tuple_int, isi_tuple_bool, isi_tuple_str, isi_tuple_tuple, isi_tuple_list, isi_tuple_dict, isi_dict_int, isi_dict_bool, isi_dict_str, isi_dict_tuple, isi_dict_list, isi_dict_dict]
  by_cases hg : 0 < g
  · rw [if_pos hg]
    refine ⟨hm, cdiv_small hm hm2, k _ _ (Int.emod_nonneg _ (by omega)) (Int.emod_lt_of_pos _ hm) ⟨g / m, s, n, rfl, Int.ediv_nonneg h1 (by omega), ?_, h3, h4, by omega⟩⟩
    exact Int.lt_of_le_of_lt (div_le_self h1 hm) h2
  · rw [if_neg hg]
    obtain ⟨j, ej, j0, j1⟩ := prime_at (n := n)
    refine ⟨by decide, by decide, .int j, ej, .inl (.inl ⟨by decide, by decide⟩), ⟨by decide, by decide, by omega⟩, ?_⟩
    have a1 := Int.emod_nonneg ((s + 7919 * ((n : Int) + 1)) ^ Int.toNat 5) (by omega : j ≠ 0)
    have a2 := Int.emod_lt_of_pos ((s + 7919 * ((n : Int) + 1)) ^ Int.toNat 5) j0
    refine ⟨j0, by decide, .inl (.inl ⟨by omega, by omega⟩), j0, cdiv_small (by decide) (by decide), hm, ?_⟩
    exact k _ _ (Int.emod_nonneg _ (by omega)) (Int.emod_lt_of_pos _ hm) ⟨g, s, n + 1, by simp, h1, h2, h3, h4, by omega⟩

end K23

namespace K23
open PySem PySem.Spec PyProof.Rows L2 G
def sp__law_of : Spc := fun as R => ∃ (ds : List D) (c : Nat) (xs : List D), as = [.o true (.l ds), .d (.list xs)] ∧ Hd c ds ∧ c ≤ 2 ^ 40 ∧ 0 < xs.length ∧ xs.length < 2 ^ 30 ∧
  ∀ (x : D) (ds' : List D), x ∈ xs → Hd (c + 1) ds' → R (.fz x) [.o true (.l ds'), .no]
theorem len__law_of : ∀ as R, sp__law_of as R → as.length = 2 := fun as R ⟨ds, c, m, e, _⟩ => by rw [e]; rfl
def w__law_of_0 : WS := (wRet (wAt 1 fIx (wCallIo 0 sp__law_take (wCons (wC1 fLen (wPeek 1)) wNil))))
theorem w__law_of_0_e (E : VD) (ρ : En) : w__law_of_0 E ρ = (wRet (wAt 1 fIx (wCallIo 0 sp__law_take (wCons (wC1 fLen (wPeek 1)) wNil)))) E ρ := rfl
def w__law_of : WS := w__law_of_0
def Bd__law_of : Prop := Body 2 0 w__law_of sp__law_of
theorem body__law_of : Bd__law_of := by
  intro as R h
  obtain ⟨ds, c, xs, rfl, hd, hc, h0, h1, k⟩ := h
  simp only [w__law_of, w__law_of_0, wSeq, wNext, wIfS, wBool, wOp, wAt, wPeek, wName, wC, fIx, wChain, wAndT, wOrT, wNotT, wAndV, wOrV, wNotV, wIf, wNil, wCons, wTup, wLst, wDNew, wFz, fI, fI0, fEq, fNe, fIsN, fIsNot, fAdd, fIn, wC1, wC1F, fLen, fTup, fList, fInt, fAbs, wSlT, wSlL, wNoPart, wPart, wDrop, wRet, wRetF, wRetO, wSet, wSetF, wSetT, wPar, wPut, wBreak, wCont, wItems, wRng1, wRng2, wZip, wEnum, wEnumA, wRev, wFor, wWhile, wLc, wDc, wYes, wCall, wCallF, wCallK, wCallIo, wIsi, wNeg, wGetN, wGetE, wPop2, wAppend, wStar, seqD, fRepT, wDisp, wpCons, wpNil, keysD, dKey, wExtF, fStrI, wCallM, wCallMF, wmNil, wmD, wmS, wmF, avIx, avSls, avSl, avBack, avSet, wParM, List.nodup_nil, List.nodup_cons, List.mem_cons, List.not_mem_nil, or_false, not_false_eq_true, List.drop_succ_cons, List.drop_zero,  wAug, wRepL, wCatO, wCatF, wKeys, wItemsK, bName, bNames, retD, ctD, vd, itemsD, isDict, List.getElem?_cons_zero, List.getElem?_cons_succ, List.set_cons_zero, List.set_cons_succ, List.cons_append, List.nil_append, List.append_nil, List.replicate_succ, List.replicate_zero, List.map_cons, List.map_nil, List.length_cons, List.length_nil, List.zip_cons_cons, List.zip_nil_right, List.zip_nil_left, List.foldl_cons, List.foldl_nil, wipeE, backE, List.getD_cons_zero, List.getD_cons_succ, outsOf, keepPin, List.range_succ, List.range_zero, exS, at0, at1, at2, at3, at4, ix0, ix1, ix2, if_true, if_false, true_and, and_true, Bool.false_eq_true, reduceCtorEq, eqvI, eqvS, eqvB, scalI, scalS, scalB, true_or, decide_eq_true_eq, Bool.not_true, Bool.not_false, Bool.not_eq_true, isi_none_int, isi_none_bool, isi_none_str, isi_none_tuple, isi_none_list, isi_none_dict, isi_bool_int, isi_bool_bool, isi_bool_str, isi_bool_tuple, isi_bool_list, isi_bool_dict, isi_int_int, isi_int_bool, isi_int_str, isi_int_tuple, isi_int_list, isi_int_dict, isi_str_int, isi_str_bool, isi_str_str, isi_str_tuple, isi_str_list, isi_str_dict, isi_list_int, isi_list_bool, isi_list_str, isi_list_tuple, isi_list_list, isi_list_dict, isi_tuple_int, isi_tuple_bool, isi_tuple_str, isi_tuple_tuple, isi_tuple_list, isi_tuple_dict, isi_dict_int, isi_dict_bool, isi_dict_str, isi_dict_tuple, isi_dict_list, isi_dict_dict]
  refine ⟨ds, c, xs.length, rfl, hd, hc, by omega, by omega, fun v ds' v0 v1 hd' => ?_⟩
  obtain ⟨x, e, e2⟩ := atI_lt (xs := xs) (i := v) v0 v1
  exact ⟨x, e, k x ds' (List.mem_of_getElem? e2) hd'⟩

end K23

namespace K23
open PySem PySem.Spec PyProof.Rows L2 G
/-- a cell of the script, or 0 -/
def sp__law_hand : Spc := fun as R => ∃ (ns : List Int) (j : Nat), as = [.d (.list (ns.map .int)), .d (.int j)] ∧ j ≤ 63 ∧ ns.length ≤ 63 ∧ (∀ z ∈ ns, Builtin.Int.intBits z ≤ 1048576) ∧
  ∀ ds', Hd 0 ds' → R (.fr (.l ds')) [.no, .no]
theorem len__law_hand : ∀ as R, sp__law_hand as R → as.length = 2 := fun as R ⟨ns, j, e, _⟩ => by rw [e]; rfl
def w__law_hand_2 : WS := (wRetF (wLst (wCons (wName 3) (wCons (wOp fAdd (wOp fAdd (wOp (fI (fun _ j => 0 < j) fun i j => .int (i % j)) (wName 2) (wC (.int 2305843009213693951))) (wOp (fI CMulA fun i j => .int (i * j)) (wC (.int 104729)) (wName 1))) (wC (.int 7))) (wCons (wC (.int 0)) wNil)))))
theorem w__law_hand_2_e (E : VD) (ρ : En) : w__law_hand_2 E ρ = (wRetF (wLst (wCons (wName 3) (wCons (wOp fAdd (wOp fAdd (wOp (fI (fun _ j => 0 < j) fun i j => .int (i % j)) (wName 2) (wC (.int 2305843009213693951))) (wOp (fI CMulA fun i j => .int (i * j)) (wC (.int 104729)) (wName 1))) (wC (.int 7))) (wCons (wC (.int 0)) wNil))))) E ρ := rfl
def w__law_hand_1 : WS := (wSeq (wSet 3 (wOp (fI CMulA fun i j => .int (i * j)) (wOp (fI (fun _ j => 0 < j) fun i j => .int (i % j)) (wC1 fAbs (wPeek 2)) (wOp (fI CMulA fun i j => .int (i * j)) (wOp (fI CPow fun i j => .int (i ^ j.toNat)) (wC (.int 10)) (wC (.int 60))) (wOp (fI CPow fun i j => .int (i ^ j.toNat)) (wC (.int 10)) (wC (.int 60))))) (wC1 fInt (wOp (fI0 fun i j => .bool (decide (j ≤ i))) (wC1 fAbs (wPeek 2)) (wOp (fI CPow fun i j => .int (i ^ j.toNat)) (wC (.int 10)) (wC (.int 18)))))))
    w__law_hand_2)
theorem w__law_hand_1_e (E : VD) (ρ : En) : w__law_hand_1 E ρ = (wSeq (wSet 3 (wOp (fI CMulA fun i j => .int (i * j)) (wOp (fI (fun _ j => 0 < j) fun i j => .int (i % j)) (wC1 fAbs (wPeek 2)) (wOp (fI CMulA fun i j => .int (i * j)) (wOp (fI CPow fun i j => .int (i ^ j.toNat)) (wC (.int 10)) (wC (.int 60))) (wOp (fI CPow fun i j => .int (i ^ j.toNat)) (wC (.int 10)) (wC (.int 60))))) (wC1 fInt (wOp (fI0 fun i j => .bool (decide (j ≤ i))) (wC1 fAbs (wPeek 2)) (wOp (fI CPow fun i j => .int (i ^ j.toNat)) (wC (.int 10)) (wC (.int 18)))))))
    w__law_hand_2) E ρ := rfl
def w__law_hand_0 : WS := (wSeq (wSet 2 (wIf (wBool (wOp (fI0 fun i j => .bool (decide (i < j))) (wName 1) (wC1 fLen (wPeek 0)))) (wAt 0 fIx (wName 1)) (wC (.int 0))))
    w__law_hand_1)
theorem w__law_hand_0_e (E : VD) (ρ : En) : w__law_hand_0 E ρ = (wSeq (wSet 2 (wIf (wBool (wOp (fI0 fun i j => .bool (decide (i < j))) (wName 1) (wC1 fLen (wPeek 0)))) (wAt 0 fIx (wName 1)) (wC (.int 0))))
    w__law_hand_1) E ρ := rfl
def w__law_hand : WS := w__law_hand_0
def Bd__law_hand : Prop := Body 2 2 w__law_hand sp__law_hand
theorem hand_fin {R : RetV → En → Prop} {j : Nat} (hj : j ≤ 63) (k : ∀ ds', Hd 0 ds' → R (.fr (.l ds')) [.no, .no]) (z : Int) :
    CPow 10 60 ∧ CPow 10 60 ∧ CMulA (10 ^ Int.toNat 60) (10 ^ Int.toNat 60) ∧ 0 < (10 : Int) ^ Int.toNat 60 * 10 ^ Int.toNat 60 ∧ CPow 10 18 ∧
      CMulA ((if z < 0 then -z else z) % (10 ^ Int.toNat 60 * 10 ^ Int.toNat 60)) (if 10 ^ Int.toNat 18 ≤ if z < 0 then -z else z then 1 else 0) ∧ (0 : Int) < 2305843009213693951 ∧ CMulA 104729 (j : Int) ∧ 0 + 1 + 1 + 1 ≤ sizeLine ∧
      R (.fr (.l [.int ((if z < 0 then -z else z) % (10 ^ Int.toNat 60 * 10 ^ Int.toNat 60) * if 10 ^ Int.toNat 18 ≤ if z < 0 then -z else z then 1 else 0), .int (z % 2305843009213693951 + 104729 * (j : Int) + 7), .int 0])) [.no, .no] := by
  have e1 : (0 : Int) < (10 : Int) ^ Int.toNat 60 * 10 ^ Int.toNat 60 := by decide
  have e2 : (10 : Int) ^ Int.toNat 60 * 10 ^ Int.toNat 60 = 10 ^ 120 := by decide
  refine ⟨by unfold CPow; decide, by unfold CPow; decide, .inr (wide_mul (a := 200) (b := 200) (by decide) (by decide) (by decide) (by decide) (by decide)), e1, by unfold CPow; decide, .inl (.inr ?_), by decide, .inl (.inl ⟨by decide, by decide⟩), by decide, ?_⟩
  · generalize (if z < 0 then -z else z) = a
    by_cases q : 10 ^ Int.toNat 18 ≤ a
    · rw [if_pos q]; decide
    · rw [if_neg q]; decide
  · have f1 := Int.emod_nonneg (if z < 0 then -z else z) (Int.ne_of_gt e1)
    have f2 := Int.emod_lt_of_pos (if z < 0 then -z else z) e1
    rw [e2] at f1 f2
    refine k _ ⟨_, _, 0, rfl, ?_, ?_, ?_, ?_, by omega⟩
    · rw [e2]
      generalize (if z < 0 then -z else z) = a at f1 f2 ⊢
      by_cases q : 10 ^ Int.toNat 18 ≤ a
      · rw [if_pos q, Int.mul_one]; exact f1
      · rw [if_neg q, Int.mul_zero]; exact Int.le_refl 0
    · rw [e2]
      generalize (if z < 0 then -z else z) = a at f1 f2 ⊢
      by_cases q : 10 ^ Int.toNat 18 ≤ a
      · rw [if_pos q, Int.mul_one]; exact f2
      · rw [if_neg q, Int.mul_zero]; decide
    · have := Int.emod_nonneg z (by decide : (2305843009213693951 : Int) ≠ 0); omega
    · have := Int.emod_lt_of_pos z (by decide : (0 : Int) < 2305843009213693951); omega
theorem body__law_hand : Bd__law_hand := by
  intro as R h
  obtain ⟨ns, j, rfl, hj, hl, hb, k⟩ := h
  simp only [w__law_hand, w__law_hand_2, w__law_hand_1, w__law_hand_0, wSeq, wNext, wIfS, wBool, wOp, wAt, wPeek, wName, wC, fIx, wChain, wAndT, wOrT, wNotT, wAndV, wOrV, wNotV, wIf, wNil, wCons, wTup, wLst, wDNew, wFz, fI, fI0, fEq, fNe, fIsN, fIsNot, fAdd, fIn, wC1, wC1F, fLen, fTup, fList, fInt, fAbs, wSlT, wSlL, wNoPart, wPart, wDrop, wRet, wRetF, wRetO, wSet, wSetF, wSetT, wPar, wPut, wBreak, wCont, wItems, wRng1, wRng2, wZip, wEnum, wEnumA, wRev, wFor, wWhile, wLc, wDc, wYes, wCall, wCallF, wCallK, wCallIo, wIsi, wNeg, wGetN, wGetE, wPop2, wAppend, wStar, seqD, fRepT, wDisp, wpCons, wpNil, keysD, dKey, wExtF, fStrI, wCallM, wCallMF, wmNil, wmD, wmS, wmF, avIx, avSls, avSl, avBack, avSet, wParM, List.nodup_nil, List.nodup_cons, List.mem_cons, List.not_mem_nil, or_false, not_false_eq_true, List.drop_succ_cons, List.drop_zero,  wAug, wRepL, wCatO, wCatF, wKeys, wItemsK, bName, bNames, retD, ctD, vd, itemsD, isDict, List.getElem?_cons_zero, List.getElem?_cons_succ, List.set_cons_zero, List.set_cons_succ, List.cons_append, List.nil_append, List.append_nil, List.replicate_succ, List.replicate_zero, List.map_cons, List.map_nil, List.length_cons, List.length_nil, List.zip_cons_cons, List.zip_nil_right, List.zip_nil_left, List.foldl_cons, List.foldl_nil, wipeE, backE, List.getD_cons_zero, List.getD_cons_succ, outsOf, keepPin, List.range_succ, List.range_zero, exS, at0, at1, at2, at3, at4, ix0, ix1, ix2, if_true, if_false, true_and, and_true, Bool.false_eq_true, reduceCtorEq, eqvI, eqvS, eqvB, scalI, scalS, scalB, true_or, decide_eq_true_eq, Bool.not_true, Bool.not_false, Bool.not_eq_true, isi_none_int, isi_none_bool, isi_none_str, isi_none_tuple, isi_none_list, isi_none_dict, isi_bool_int, isi_bool_bool, isi_bool_str, isi_bool_tuple, isi_bool_list, isi_bool_dict, isi_int_int, isi_int_bool, isi_int_str, isi_int_tuple, isi_int_list, isi_int_dict, isi_str_int, isi_str_bool, isi_str_str, isi_str_tuple, isi_str_list, isi_str_dict, isi_list_int, isi_list_bool, isi_list_str, isi_list_tuple, isi_list_list, isi_list_dict, isi_tuple_int, isi_tuple_bool, isi_tuple_str, isi_tuple_tuple, isi_tuple_list, isi_tuple_dict, isi_dict_int, isi_dict_bool, isi_dict_str, isi_dict_tuple, isi_dict_list, isi_dict_dict]
  by_cases hlt : j < ns.length
  · rw [if_pos (by simpa using hlt)]
    exact ⟨.int ns[j], atI_nat (by rw [List.getElem?_map, List.getElem?_eq_getElem hlt]; rfl), hand_fin hj k ns[j]⟩
  · rw [if_neg (by simpa using hlt)]
    exact hand_fin hj k 0

end K23

namespace K23
open PySem PySem.Spec PyProof.Rows L2 G
/-! ### tables as data -/
abbrev E3 := Int × Int × Int
def ent (e : E3) : D := .tuple [.int e.1, .int e.2.1, .int e.2.2]
theorem ent_eq (e : E3) : ent e = .tuple [.int e.1, .int e.2.1, .int e.2.2] := rfl
def tbl (es : List E3) : D := .tuple (es.map ent)
/-- a dict from pages to (frame, rights) -/
def val2 (e : E3) : D := .tuple [.int e.2.1, .int e.2.2]
def toK (m : List E3) : List (Key × D) := m.map fun e => (.inl e.1, val2 e)
def keys (m : List E3) : List Int := m.map (·.1)
def putM (m : List E3) (e : E3) : List E3 := if (m.any fun x => decide (x.1 = e.1)) = true then m.map (fun x => if x.1 = e.1 then e else x) else m ++ [e]
def dropM (m : List E3) (p : Int) : List E3 := m.filter fun x => decide (x.1 ≠ p)
def lookM (m : List E3) (p : Int) : Option E3 := m.find? fun x => decide (x.1 = p)
def srtM (m : List E3) : List E3 := (srtI (keys m)).map fun p => (lookM m p).getD (p, 0, 0)
theorem put_toK (m : List E3) (e : E3) : putE (toK m) (.inl e.1) (val2 e) = toK (putM m e) := by
  have ha : ((toK m).any fun kv => decide (kv.1 = (Sum.inl e.1 : Key))) = m.any fun x => decide (x.1 = e.1) := by
    unfold toK
    rw [List.any_map]
    congr 1
    funext x
    simp [Function.comp]
  unfold putE putM
  rw [ha]
  split
  · unfold toK
    rw [List.map_map, List.map_map]
    congr 1
    funext x
    by_cases z : x.1 = e.1
    · simp [Function.comp, z]
    · simp [Function.comp, z]
  · unfold toK; simp
theorem drop_toK (m : List E3) (p : Int) : dropE (toK m) (.inl p) = toK (dropM m p) := by
  unfold dropE dropM toK
  rw [List.filter_map]
  congr 1
  congr 1
  funext x
  simp [Function.comp]
theorem look_toK (m : List E3) (p : Int) : lookE (toK m) (.inl p) = (lookM m p).map val2 := by
  induction m with
  | nil => rfl
  | cons x m ih =>
    unfold lookE lookM toK at ih ⊢
    rw [List.map_cons, List.find?_cons, List.find?_cons]
    by_cases z : x.1 = p
    · simp [z]
    · have z1 : decide ((Sum.inl x.1 : Key) = Sum.inl p) = false := decide_eq_false fun y => z (Sum.inl.inj y)
      dsimp only
      rw [z1, decide_eq_false z]
      exact ih
theorem lookM_some {m : List E3} {p : Int} {e : E3} (h : lookM m p = some e) : e.1 = p ∧ e ∈ m := by
  unfold lookM at h
  exact ⟨by have := List.find?_some h; simpa using this, List.mem_of_find?_eq_some h⟩
theorem lookM_of {m : List E3} {p : Int} (h : p ∈ keys m) : ∃ e, lookM m p = some e ∧ e.1 = p ∧ e ∈ m := by
  cases q : lookM m p with
  | none =>
    unfold lookM at q
    rw [List.find?_eq_none] at q
    obtain ⟨e, he, rfl⟩ := List.mem_map.mp h
    exact absurd (by simp) (q e he)
  | some e => exact ⟨e, rfl, lookM_some q⟩
theorem lookM_none {m : List E3} {p : Int} (h : p ∉ keys m) : lookM m p = none := by
  cases q : lookM m p with
  | none => rfl
  | some e => exact absurd (List.mem_map.mpr ⟨e, (lookM_some q).2, (lookM_some q).1⟩) h
theorem mem_lookM {m : List E3} (nd : (keys m).Nodup) {e : E3} (h : e ∈ m) : lookM m e.1 = some e := by
  induction m with
  | nil => cases h
  | cons x m ih =>
    unfold keys at nd
    rw [List.map_cons, List.nodup_cons] at nd
    unfold lookM at ih ⊢
    rw [List.find?_cons]
    rcases List.mem_cons.mp h with z | z
    · subst z; simp
    · have ne : x.1 ≠ e.1 := fun y => nd.1 (y ▸ List.mem_map.mpr ⟨e, z, rfl⟩)
      rw [decide_eq_false ne]
      exact ih nd.2 z
theorem keys_nodup_iff {m m' : List E3} (nd : (keys m).Nodup) (nd' : (keys m').Nodup) (h : ∀ p, lookM m p = lookM m' p) : (keys m).Perm (keys m') := by
  rw [List.perm_ext_iff_of_nodup nd nd']
  intro p
  constructor
  · intro hp
    obtain ⟨e, e1, e2, e3⟩ := lookM_of hp
    rw [h] at e1
    exact List.mem_map.mpr ⟨e, (lookM_some e1).2, e2⟩
  · intro hp
    obtain ⟨e, e1, e2, e3⟩ := lookM_of hp
    rw [← h] at e1
    exact List.mem_map.mpr ⟨e, (lookM_some e1).2, e2⟩
theorem srtI_congr {a b : List Int} (h : a.Perm b) : srtI a = srtI b := srtI_eq ((srtI_perm a).trans h) (srtI_pw a)
/-- what is sorted hangs on what is looked up alone -/
theorem srtM_ext {m m' : List E3} (nd : (keys m).Nodup) (nd' : (keys m').Nodup) (h : ∀ p, lookM m p = lookM m' p) : srtM m = srtM m' := by
  unfold srtM
  rw [srtI_congr (keys_nodup_iff nd nd' h)]
  congr 1
  funext p
  rw [h]
theorem keys_srtM (m : List E3) : keys (srtM m) = srtI (keys m) := by
  unfold keys srtM
  rw [List.map_map]
  conv => rhs; rw [← List.map_id (srtI (List.map (·.1) m))]
  refine List.map_congr_left fun p _ => ?_
  show ((lookM m p).getD (p, 0, 0)).1 = p
  cases q : lookM m p with
  | none => rfl
  | some e => exact (lookM_some q).1
theorem srtM_nodup {m : List E3} (nd : (keys m).Nodup) : (keys (srtM m)).Nodup := by
  rw [keys_srtM]
  exact (srtI_perm _).nodup_iff.mpr nd
theorem look_srtM {m : List E3} (nd : (keys m).Nodup) (p : Int) : lookM (srtM m) p = lookM m p := by
  by_cases hp : p ∈ keys m
  · obtain ⟨e, e1, e2, e3⟩ := lookM_of hp
    have hm : e ∈ srtM m := by
      refine List.mem_map.mpr ⟨p, (srtI_perm _).mem_iff.mpr hp, ?_⟩
      rw [e1]; rfl
    have := mem_lookM (srtM_nodup nd) hm
    rw [e2] at this
    rw [this, e1]
  · rw [lookM_none hp, lookM_none]
    rw [keys_srtM]
    exact fun z => hp ((srtI_perm _).mem_iff.mp z)
theorem srtM_len (m : List E3) : (srtM m).length = m.length := by
  unfold srtM keys
  rw [List.length_map, (srtI_perm _).length_eq, List.length_map]
theorem srtM_mem {m : List E3} (nd : (keys m).Nodup) {e : E3} (h : e ∈ srtM m) : e ∈ m := by
  have h1 : e.1 ∈ keys (srtM m) := List.mem_map.mpr ⟨e, h, rfl⟩
  have h2 := mem_lookM (srtM_nodup nd) h
  rw [look_srtM nd] at h2
  exact (lookM_some h2).2
theorem srtM_rise {m : List E3} (nd : (keys m).Nodup) : (keys (srtM m)).Pairwise (· < ·) := by
  rw [keys_srtM]
  have h1 := srtI_pw (keys m)
  have h2 : (srtI (keys m)).Nodup := (srtI_perm _).nodup_iff.mpr nd
  exact (h1.and h2).imp fun h => by omega
/-- a rising list is its own sorted one -/
theorem srtM_self {m : List E3} (h : (keys m).Pairwise (· < ·)) : srtM m = m := by
  have nd : (keys m).Nodup := h.imp fun h => by omega
  have e : srtI (keys m) = keys m := (srtI_eq (List.Perm.refl _) (h.imp fun h => by omega)).symm
  unfold srtM
  rw [e]
  unfold keys
  rw [List.map_map]
  conv => rhs; rw [← List.map_id m]
  refine List.map_congr_left fun x hx => ?_
  show (lookM m x.1).getD (x.1, 0, 0) = x
  rw [mem_lookM nd hx]; rfl
theorem putM_keys (m : List E3) (e : E3) : keys (putM m e) = if e.1 ∈ keys m then keys m else keys m ++ [e.1] := by
  have ha : (m.any fun x => decide (x.1 = e.1)) = true ↔ e.1 ∈ keys m := by
    unfold keys
    simp only [List.any_eq_true, decide_eq_true_eq, List.mem_map]
  unfold putM
  by_cases h : e.1 ∈ keys m
  · rw [if_pos (ha.mpr h), if_pos h]
    unfold keys
    rw [List.map_map]
    refine List.map_congr_left fun x _ => ?_
    by_cases z : x.1 = e.1
    · simp [Function.comp, z]
    · simp [Function.comp, z]
  · rw [if_neg (fun z => h (ha.mp z)), if_neg h]
    unfold keys; simp
theorem putM_nodup {m : List E3} {e : E3} (nd : (keys m).Nodup) : (keys (putM m e)).Nodup := by
  rw [putM_keys]
  split
  · exact nd
  · rename_i h
    rw [List.nodup_append]
    exact ⟨nd, by simp, fun a ha b hb => by simp at hb; subst hb; exact fun z => h (z ▸ ha)⟩
theorem putM_mem {m : List E3} {e x : E3} (h : x ∈ putM m e) : x ∈ m ∨ x = e := by
  unfold putM at h
  split at h
  · obtain ⟨y, hy, rfl⟩ := List.mem_map.mp h
    by_cases z : y.1 = e.1
    · simp [z]
    · simp [z, hy]
  · simpa using h
theorem putM_len (m : List E3) (e : E3) : (putM m e).length ≤ m.length + 1 := by
  unfold putM
  split
  · rw [List.length_map]; omega
  · simp
theorem look_putM (m : List E3) (e : E3) (p : Int) : lookM (putM m e) p = if p = e.1 then some e else lookM m p := by
  unfold putM
  by_cases hm : (m.any fun x => decide (x.1 = e.1)) = true
  · rw [if_pos hm]
    by_cases hp : p = e.1
    · rw [if_pos hp]
      have : e ∈ m.map (fun x => if x.1 = e.1 then e else x) := by
        simp only [List.any_eq_true, decide_eq_true_eq] at hm
        obtain ⟨x, hx, hxe⟩ := hm
        exact List.mem_map.mpr ⟨x, hx, by rw [if_pos hxe]⟩
      clear hm
      subst hp
      induction m with
      | nil => simp at this
      | cons y m ih =>
        unfold lookM at ih ⊢
        rw [List.map_cons, List.find?_cons]
        by_cases z : y.1 = e.1
        · rw [if_pos z]; simp
        · rw [if_neg z, decide_eq_false z]
          refine ih ?_
          rw [List.map_cons, if_neg z] at this
          rcases List.mem_cons.mp this with q | q
          · exact absurd (by rw [q]) z
          · exact q
    · rw [if_neg hp]
      clear hm
      induction m with
      | nil => rfl
      | cons y m ih =>
        unfold lookM at ih ⊢
        rw [List.map_cons, List.find?_cons, List.find?_cons]
        by_cases z : y.1 = e.1
        · rw [if_pos z, decide_eq_false (fun w => hp w.symm), decide_eq_false (fun w => hp (w.symm.trans z))]
          exact ih
        · rw [if_neg z]
          by_cases w : y.1 = p
          · rw [decide_eq_true w]
          · rw [decide_eq_false w]
            exact ih
  · rw [if_neg hm]
    unfold lookM
    rw [List.find?_append]
    by_cases hp : p = e.1
    · subst hp
      have : m.find? (fun x => decide (x.1 = e.1)) = none := by
        rw [List.find?_eq_none]
        intro x hx
        simp only [List.any_eq_true, not_exists, not_and] at hm
        exact hm x hx
      rw [this]; simp
    · rw [if_neg hp]
      have : [e].find? (fun x => decide (x.1 = p)) = none := by
        rw [List.find?_eq_none]
        intro x hx
        simp at hx; subst hx
        simpa using fun z => hp z.symm
      rw [this]; simp
theorem look_dropM (m : List E3) (q p : Int) : lookM (dropM m q) p = if p = q then none else lookM m p := by
  unfold dropM
  induction m with
  | nil => simp [lookM]
  | cons y m ih =>
    by_cases z : y.1 = q
    · rw [List.filter_cons_of_neg (by simp [z]), ih]
      by_cases hp : p = q
      · rw [if_pos hp, if_pos hp]
      · rw [if_neg hp, if_neg hp]
        unfold lookM
        rw [List.find?_cons, decide_eq_false (fun w => hp (w.symm.trans z))]
    · rw [List.filter_cons_of_pos (by simp [z])]
      unfold lookM at ih ⊢
      rw [List.find?_cons, List.find?_cons]
      by_cases w : y.1 = p
      · rw [decide_eq_true w, if_neg (fun v => z (w.trans v))]
      · rw [decide_eq_false w]
        exact ih
theorem dropM_nodup {m : List E3} {p : Int} (nd : (keys m).Nodup) : (keys (dropM m p)).Nodup := by
  unfold keys dropM
  exact List.Nodup.sublist (List.Sublist.map _ List.filter_sublist) nd
theorem dropM_mem {m : List E3} {p : Int} {x : E3} (h : x ∈ dropM m p) : x ∈ m := (List.mem_filter.mp h).1
theorem dropM_len (m : List E3) (p : Int) : (dropM m p).length ≤ m.length := List.length_filter_le ..
theorem dropM_none {m : List E3} {p : Int} (h : lookM m p = none) : dropM m p = m := by
  unfold dropM
  rw [List.filter_eq_self]
  intro x hx
  unfold lookM at h
  rw [List.find?_eq_none] at h
  simpa using h x hx
/-- what mapped makes of a table -/
def mapM (m : List E3) (p f r : Int) : List E3 := if r = 0 then dropM m p else putM m (p, f, r)
theorem mapM_nodup {m : List E3} {p f r : Int} (nd : (keys m).Nodup) : (keys (mapM m p f r)).Nodup := by
  unfold mapM; split
  · exact dropM_nodup nd
  · exact putM_nodup nd
theorem mapM_len (m : List E3) (p f r : Int) : (mapM m p f r).length ≤ m.length + 1 := by
  unfold mapM; split
  · have := dropM_len m p; omega
  · exact putM_len m _
theorem look_mapM (m m' : List E3) (p f r : Int) (h : ∀ q, lookM m q = lookM m' q) (q : Int) : lookM (mapM m p f r) q = lookM (mapM m' p f r) q := by
  unfold mapM; split
  · rw [look_dropM, look_dropM, h]
  · rw [look_putM, look_putM, h]
theorem toK_dict (m : List E3) : ctD (.k (toK m)) = .dict (((keys m).map .int).zip (m.map val2)) := by
  show PyData.dict ((toK m).map fun (p : Key × D) => (kD p.1, p.2)) = _
  congr 1
  unfold toK keys
  induction m with
  | nil => rfl
  | cons x m ih =>
    simp only [List.map_cons, List.zip_cons_cons]
    rw [ih]
    rfl
theorem lookD_toK (m : List E3) (p : Int) : lookD ((toK m).map fun (q : Key × D) => (kD q.1, q.2)) (.inl p) = (lookM m p).map val2 := by rw [← lookE_eq, look_toK]
theorem cut1 (ds : List D) : G.cutD ds (some 1) none = ds.drop 1 := by
  unfold G.cutD
  rw [show HT.sIx ds.length 0 (some 1) = min 1 ds.length from HT.sIx_nat ds.length 0 1, HT.sIx_none]
  cases ds with
  | nil => rfl
  | cons x r =>
    rw [show min 1 (x :: r).length = 1 by rw [List.length_cons]; omega]
    show List.take ((x :: r).length - 1) r = r
    rw [List.length_cons, Nat.add_sub_cancel]
    exact List.take_length

end K23

namespace K23
open PySem PySem.Spec PyProof.Rows L2 G
def Rg (m : List E3) : Prop := ∀ e ∈ m, 0 ≤ e.1 ∧ e.1 ≤ 99999 ∧ 0 ≤ e.2.1 ∧ e.2.1 ≤ 99999 ∧ 1 ≤ e.2.2 ∧ e.2.2 ≤ 7

end K23

namespace K23
open PySem PySem.Spec PyProof.Rows L2 G
/-! ### what is shown of tables -/
theorem cost_int {i : Int} {k : Nat} (h0 : 0 ≤ i) (h : i < 2 ^ k) (hk : 0 < k) : cost (.int i) ≤ k + 1 := by
  have := log2_le h0 h hk
  simp only [cost]; omega
theorem fine_int {i : Int} (h0 : 0 ≤ i) (h : i < 2 ^ 200) : fine (.int i) = true := by
  have := log2_le h0 h (by decide)
  simp only [fine, decide_eq_true_eq]; omega
theorem ent_shows {e : E3} (h : 0 ≤ e.1 ∧ e.1 ≤ 99999 ∧ 0 ≤ e.2.1 ∧ e.2.1 ≤ 99999 ∧ 1 ≤ e.2.2 ∧ e.2.2 ≤ 7) : fine (ent e) = true ∧ cost (ent e) ≤ 100 := by
  obtain ⟨h1, h2, h3, h4, h5, h6⟩ := h
  have p : (99999 : Int) < 2 ^ 200 := by decide
  have a := fine_int h1 (Int.lt_of_le_of_lt h2 p)
  have b := fine_int h3 (Int.lt_of_le_of_lt h4 p)
  have c := fine_int (i := e.2.2) (by omega) (Int.lt_of_le_of_lt (by omega : e.2.2 ≤ 99999) p)
  have a' := cost_int (k := 17) h1 (by omega) (by decide)
  have b' := cost_int (k := 17) h3 (by omega) (by decide)
  have c' := cost_int (i := e.2.2) (k := 17) (by omega) (by omega) (by decide)
  rw [ent_eq]
  simp only [fine, fines, cost, costs] at a b c a' b' c' ⊢
  simp only [a, b, c, Bool.and_self, true_and]
  omega
theorem ents_show : ∀ {m : List E3}, Rg m → fines (m.map ent) = true ∧ costs (m.map ent) ≤ 102 * m.length
  | [], _ => ⟨rfl, Nat.le_refl _⟩
  | e :: m, h => by
    obtain ⟨a, b⟩ := ent_shows (h e (by simp))
    obtain ⟨c, d⟩ := ents_show (m := m) fun x hx => h x (by simp [hx])
    simp only [List.map_cons, fines, costs, List.length_cons, a, c, Bool.and_self, true_and]
    omega
theorem tbl_fine {m : List E3} (h : Rg m) : fine (tbl m) = true := by
  unfold tbl; simp only [fine]; exact (ents_show h).1
theorem tbl_cost {m : List E3} (h : Rg m) : cost (tbl m) ≤ 102 * m.length + 3 := by
  unfold tbl; simp only [cost]; have := (ents_show h).2; omega
theorem ents_depth : ∀ m : List E3, PyData.depthAll (m.map ent) ≤ 1
  | [] => by simp [PyData.depthAll]
  | e :: m => by
    have := ents_depth m
    rw [List.map_cons, ent_eq]
    simp only [PyData.depthAll, PyData.depth]
    omega
theorem tbl_depth (m : List E3) : (tbl m).depth ≤ 2 := by
  unfold tbl; simp only [PyData.depth]; have := ents_depth m; omega
theorem tbl_shows {m : List E3} (h : Rg m) (hl : m.length ≤ 1000) : Shows (tbl m) := shows_of (tbl_fine h) (by have := tbl_depth m; omega) (by have := tbl_cost h; omega)
theorem tbl2_shows {m m' : List E3} (h : Rg m) (hl : m.length ≤ 1000) (h' : Rg m') (hl' : m'.length ≤ 1000) : Shows (.tuple [tbl m, tbl m']) := by
  refine shows_of ?_ ?_ ?_
  · simp only [fine, fines, tbl_fine h, tbl_fine h', Bool.and_self]
  · have := tbl_depth m
    have := tbl_depth m'
    simp only [PyData.depth, PyData.depthAll]; omega
  · have := tbl_cost h
    have := tbl_cost h'
    simp only [cost, costs]; omega
theorem Rg.srt {m : List E3} (nd : (keys m).Nodup) (h : Rg m) : Rg (srtM m) := fun e he => h e (srtM_mem nd he)
theorem Rg.map {m : List E3} {p f r : Int} (h : Rg m) (hp : 0 ≤ p ∧ p ≤ 99999) (hf : 0 ≤ f ∧ f ≤ 99999) (hr : 0 ≤ r ∧ r ≤ 7) : Rg (mapM m p f r) := by
  unfold mapM
  split
  · exact fun e he => h e (dropM_mem he)
  · intro e he
    rcases putM_mem he with z | z
    · exact h e z
    · subst z; exact ⟨hp.1, hp.2, hf.1, hf.2, by show 1 ≤ r; omega, hr.2⟩

end K23

namespace K23
open PySem PySem.Spec PyProof.Rows L2 G
/-! ### machines as data -/
structure Cd where
  regs : List Int
  pc : Int
  clock : Int
  ins : Option Nat
inductive Gst where
  | no
  | mk (c : Cd) (gs : Fin 4 → Gst) (table : List E3) (way : Bool) (fuel : Option Int)
def insD : Option Nat → D
  | none => .none
  | some k => .int (k : Int)
def fuelD : Option Int → D
  | none => .none
  | some k => .int k
def wayD (b : Bool) : D := .str (if b then "true" else "own")
def gD : Gst → D
  | .no => .none
  | .mk c gs t w f => .tuple [.tuple [.tuple (c.regs.map .int), .int c.pc, .int c.clock, .tuple [gD (gs 0), gD (gs 1), gD (gs 2), gD (gs 3)], insD c.ins], tbl t, wayD w, fuelD f]
def coreD (c : Cd) (gs : Fin 4 → Gst) : D := .tuple [.tuple (c.regs.map .int), .int c.pc, .int c.clock, .tuple [gD (gs 0), gD (gs 1), gD (gs 2), gD (gs 3)], insD c.ins]
theorem gD_mk (c : Cd) (gs : Fin 4 → Gst) (t : List E3) (w : Bool) (f : Option Int) : gD (.mk c gs t w f) = .tuple [coreD c gs, tbl t, wayD w, fuelD f] := rfl
structure Mch where
  words : List Int
  c : Cd
  gs : Fin 4 → Gst
  letters : List Int
  sent : List Int
def intsD (l : List Int) : D := .tuple (l.map .int)
def mD (m : Mch) : D := .tuple [intsD m.words, coreD m.c m.gs, intsD m.letters, intsD m.sent]
def Wd (i : Int) : Prop := 0 ≤ i ∧ i < 1000000
/-- a table that rises, of few entries -/
structure Tk (es : List E3) : Prop where
  up : (keys es).Pairwise (· < ·)
  rg : Rg es
  le : es.length ≤ 60
structure Cd.Ok (c : Cd) (gs : Fin 4 → Gst) : Prop where
  rl : c.regs.length = 8
  rw : ∀ r ∈ c.regs, Wd r
  pw : Wd c.pc
  c0 : 0 ≤ c.clock
  c1 : c.clock < 10 ^ 12
  ins : ∀ k, c.ins = some k → ∃ h : k < 4, gs ⟨k, h⟩ ≠ .no
def Gst.Ok : Gst → Prop
  | .no => True
  | .mk c gs t _ f => c.Ok gs ∧ Tk t ∧ (∀ x, f = some x → Wd x) ∧ ∀ k, (gs k).Ok
/-- at most so deep -/
def Gst.Le : Nat → Gst → Prop
  | _, .no => True
  | 0, .mk .. => False
  | n + 1, .mk _ gs _ _ _ => ∀ k, (gs k).Le n
theorem Gst.Le.mono : ∀ {n m : Nat} {g : Gst}, g.Le n → n ≤ m → g.Le m
  | _, _, .no, _, _ => by unfold Gst.Le; trivial
  | 0, _, .mk .., h, _ => h.elim
  | n + 1, 0, .mk .., _, h => by omega
  | n + 1, m + 1, .mk .., h, hm => fun k => (h k).mono (by omega)
structure Mch.Ok (m : Mch) : Prop where
  c : m.c.Ok m.gs
  gs : ∀ k, (m.gs k).Ok
  wd : ∀ x ∈ m.words, Wd x
  lt : ∀ x ∈ m.letters, Wd x
  st : ∀ x ∈ m.sent, Wd x
/-! sizes -/
def gCost : Nat → Nat
  | 0 => 4
  | n + 1 => 7000 + 4 * gCost n
def gsz : Gst → Nat
  | .no => 4
  | .mk _ gs _ _ _ => 7000 + (gsz (gs 0) + gsz (gs 1) + gsz (gs 2) + gsz (gs 3))
def tot (gs : Fin 4 → Gst) : Nat := gsz (gs 0) + gsz (gs 1) + gsz (gs 2) + gsz (gs 3)
theorem gsz_mk (c : Cd) (gs : Fin 4 → Gst) (t : List E3) (w : Bool) (f : Option Int) : gsz (.mk c gs t w f) = 7000 + tot gs := rfl
theorem gsz_ge (g : Gst) : 4 ≤ gsz g := by cases g with
  | no => exact Nat.le_refl _
  | mk => unfold gsz; omega
theorem gsz_le : ∀ (n : Nat) (g : Gst), g.Le n → gsz g ≤ gCost n
  | n, .no, _ => by show 4 ≤ _; cases n <;> (simp only [gCost]; omega)
  | 0, .mk .., h => h.elim
  | n + 1, .mk c gs t w f, h => by
    have h0 := gsz_le n _ (h 0)
    have h1 := gsz_le n _ (h 1)
    have h2 := gsz_le n _ (h 2)
    have h3 := gsz_le n _ (h 3)
    rw [gsz_mk]
    unfold tot
    simp only [gCost]
    omega
theorem tot_le {n : Nat} {gs : Fin 4 → Gst} (h : ∀ k, (gs k).Le n) : tot gs ≤ 4 * gCost n := by
  have h0 := gsz_le n _ (h 0)
  have h1 := gsz_le n _ (h 1)
  have h2 := gsz_le n _ (h 2)
  have h3 := gsz_le n _ (h 3)
  unfold tot
  omega
theorem sz_tot (gs : Fin 4 → Gst) (k : Fin 4) : gsz (gs k) + 12 ≤ tot gs := by
  have h0 := gsz_ge (gs 0)
  have h1 := gsz_ge (gs 1)
  have h2 := gsz_ge (gs 2)
  have h3 := gsz_ge (gs 3)
  unfold tot
  match k with
  | 0 => omega
  | 1 => omega
  | 2 => omega
  | 3 => omega
theorem fine_ints : ∀ {l : List Int}, (∀ x ∈ l, Wd x) → fines (l.map .int) = true ∧ costs (l.map .int) ≤ 23 * l.length ∧ PyData.depthAll (l.map .int) = 0
  | [], _ => ⟨rfl, Nat.le_refl _, rfl⟩
  | x :: l, h => by
    obtain ⟨a, b, c⟩ := fine_ints (l := l) fun y hy => h y (by simp [hy])
    obtain ⟨h0, h1⟩ := h x (by simp)
    have f := fine_int h0 (Int.lt_of_lt_of_le h1 (by decide))
    have d := cost_int (k := 20) h0 (by omega) (by decide)
    simp only [List.map_cons, fines, costs, PyData.depthAll, PyData.depth, List.length_cons, a, f, c, Bool.and_self, true_and]
    omega
theorem core_size {c : Cd} {gs : Fin 4 → Gst} {d : Nat} (ok : c.Ok gs) (hg : ∀ i, fine (gD (gs i)) = true ∧ cost (gD (gs i)) ≤ gsz (gs i) ∧ (gD (gs i)).depth ≤ d) : fine (coreD c gs) = true ∧ cost (coreD c gs) ≤ 400 + tot gs ∧ (coreD c gs).depth ≤ d + 2 := by
  obtain ⟨a1, a2, a3⟩ := fine_ints ok.rw
  have rl := ok.rl
  have hp := ok.pw
  have fp := fine_int hp.1 (Int.lt_of_lt_of_le hp.2 (by decide))
  have cp := cost_int (k := 20) hp.1 (by have := hp.2; omega) (by decide)
  have fc := fine_int ok.c0 (Int.lt_of_lt_of_le ok.c1 (by decide))
  have cc := cost_int (k := 40) ok.c0 (by have := ok.c1; omega) (by decide)
  have fi : fine (insD c.ins) = true ∧ cost (insD c.ins) ≤ 10 ∧ (insD c.ins).depth = 0 := by
    cases q : c.ins with
    | none => exact ⟨rfl, by decide, rfl⟩
    | some j =>
      obtain ⟨hj, _⟩ := ok.ins j q
      have := fine_int (i := (j : Int)) (by omega) (Int.lt_of_lt_of_le (show (j : Int) < 4 by omega) (by decide))
      have := cost_int (i := (j : Int)) (k := 3) (by omega) (by omega) (by decide)
      exact ⟨by assumption, by show cost (.int (j : Int)) ≤ 10; omega, rfl⟩
  obtain ⟨g01, g02, g03⟩ := hg 0
  obtain ⟨g11, g12, g13⟩ := hg 1
  obtain ⟨g21, g22, g23⟩ := hg 2
  obtain ⟨g31, g32, g33⟩ := hg 3
  unfold coreD
  refine ⟨?_, ?_, ?_⟩
  · simp only [fine, fines] at fp fc ⊢
    simp only [a1, fp, fc, g01, g11, g21, g31, fi.1, Bool.and_self]
  · simp only [cost, costs] at cp cc ⊢
    unfold tot
    omega
  · simp only [PyData.depth, PyData.depthAll, fi.2.2, a3]
    omega
theorem gst_size : ∀ (n : Nat) (g : Gst), g.Ok → g.Le n → fine (gD g) = true ∧ cost (gD g) ≤ gsz g ∧ (gD g).depth ≤ 3 * n + 3
  | n, .no, _, _ => ⟨rfl, Nat.le_refl _, Nat.zero_le _⟩
  | 0, .mk .., _, h => h.elim
  | n + 1, .mk c gs t w f, ok, h => by
    obtain ⟨o1, o2, o3, o4⟩ := ok
    obtain ⟨a, b, d⟩ := core_size o1 fun i => gst_size n (gs i) (o4 i) (h i)
    have t1 := tbl_fine o2.rg
    have t2 := tbl_cost o2.rg
    have t3 := tbl_depth t
    have tl := o2.le
    have hf : fine (fuelD f) = true ∧ cost (fuelD f) ≤ 30 ∧ (fuelD f).depth = 0 := by
      cases f with
      | none => exact ⟨rfl, by decide, rfl⟩
      | some x =>
        obtain ⟨x0, x1⟩ := o3 x rfl
        exact ⟨fine_int x0 (Int.lt_of_lt_of_le x1 (by decide)), by have := cost_int (k := 20) x0 (by omega) (by decide); show cost (.int x) ≤ 30; omega, rfl⟩
    have hw : fine (wayD w) = true ∧ cost (wayD w) ≤ 50 ∧ (wayD w).depth = 0 := by cases w <;> exact ⟨by decide +kernel, by decide +kernel, rfl⟩
    rw [gD_mk]
    refine ⟨?_, ?_, ?_⟩
    · simp only [fine, fines] at a t1 ⊢
      simp only [a, t1, hf.1, hw.1, Bool.and_self]
    · simp only [cost, costs] at b t2 ⊢
      have := hf.2.1
      have := hw.2.1
      rw [gsz_mk]; omega
    · simp only [PyData.depth, PyData.depthAll, hf.2.2, hw.2.2]
      omega
theorem cor_size {c : Cd} {gs : Fin 4 → Gst} {n : Nat} (ok : c.Ok gs) (oks : ∀ k, (gs k).Ok) (les : ∀ k, (gs k).Le n) : fine (coreD c gs) = true ∧ cost (coreD c gs) ≤ 400 + tot gs ∧ (coreD c gs).depth ≤ 3 * n + 5 := by
  have := core_size ok fun i => gst_size n (gs i) (oks i) (les i)
  exact ⟨this.1, this.2.1, by have := this.2.2; omega⟩
theorem core_shows {c : Cd} {gs : Fin 4 → Gst} {n : Nat} (ok : c.Ok gs) (oks : ∀ k, (gs k).Ok) (les : ∀ k, (gs k).Le n) (hn : n ≤ 16) (ht : tot gs ≤ 10000000) : Shows (coreD c gs) := by
  obtain ⟨a, b, d⟩ := cor_size ok oks les
  exact shows_of a (by omega) (by omega)

end K23

namespace K23
open PySem PySem.Spec PyProof.Rows L2 G
theorem small_lt {n : Nat} (h : n < 1000) : n < sizeLine := Nat.lt_of_lt_of_le h (by decide)

end K23

namespace K23
open PySem PySem.Spec PyProof.Rows L2 G
/-! ### drawn machines -/
def sp__law_word : Spc := fun as R => ∃ (ds : List D) (c : Nat), as = [.o true (.l ds)] ∧ Hd c ds ∧ c ≤ 2 ^ 39 ∧ ∀ (v : Int) (ds' : List D), Wd v → Hd (c + 3) ds' → R (.fz (.int v)) [.o true (.l ds')]
theorem len__law_word : ∀ as R, sp__law_word as R → as.length = 1 := fun as R ⟨ds, c, e, _⟩ => by rw [e]; rfl
def w__law_word_0 : WS := (wRet (wCallIo 0 sp__law_of (wCons (wFz (wLst (wCons (wC (.int 0)) (wCons (wC (.int 1)) (wCons (wCallIo 0 sp__law_take (wCons (wC (.int 100)) wNil)) (wCons (wC (.int 999999)) (wCons (wCallIo 0 sp__law_take (wCons (wOp (fI CPow fun i j => .int (i ^ j.toNat)) (wC (.int 10)) (wC (.int 6))) wNil)) wNil))))))) wNil)))
theorem w__law_word_0_e (E : VD) (ρ : En) : w__law_word_0 E ρ = (wRet (wCallIo 0 sp__law_of (wCons (wFz (wLst (wCons (wC (.int 0)) (wCons (wC (.int 1)) (wCons (wCallIo 0 sp__law_take (wCons (wC (.int 100)) wNil)) (wCons (wC (.int 999999)) (wCons (wCallIo 0 sp__law_take (wCons (wOp (fI CPow fun i j => .int (i ^ j.toNat)) (wC (.int 10)) (wC (.int 6))) wNil)) wNil))))))) wNil))) E ρ := rfl
def w__law_word : WS := w__law_word_0
def Bd__law_word : Prop := Body 1 0 w__law_word sp__law_word
theorem body__law_word : Bd__law_word := by
  intro as R h
  obtain ⟨ds, c, rfl, hd, hc, k⟩ := h
  simp only [w__law_word, w__law_word_0, wSeq, wNext, wIfS, wBool, wOp, wAt, wPeek, wName, wC, fIx, wChain, wAndT, wOrT, wNotT, wAndV, wOrV, wNotV, wIf, wNil, wCons, wTup, wLst, wDNew, wFz, fI, fI0, fEq, fNe, fIsN, fIsNot, fAdd, fIn, wC1, wC1F, fLen, fTup, fList, fInt, fAbs, wSlT, wSlL, wNoPart, wPart, wDrop, wRet, wRetF, wRetO, wSet, wSetF, wSetT, wPar, wPut, wBreak, wCont, wItems, wRng1, wRng2, wZip, wEnum, wEnumA, wRev, wFor, wWhile, wLc, wDc, wYes, wCall, wCallF, wCallK, wCallIo, wIsi, wNeg, wGetN, wGetE, wPop2, wAppend, wStar, seqD, fRepT, wDisp, wpCons, wpNil, keysD, dKey, wExtF, fStrI, wCallM, wCallMF, wmNil, wmD, wmS, wmF, avIx, avSls, avSl, avBack, avSet, wParM, List.nodup_nil, List.nodup_cons, List.mem_cons, List.not_mem_nil, or_false, not_false_eq_true, List.drop_succ_cons, List.drop_zero,  wAug, wRepL, wCatO, wCatF, wKeys, wItemsK, bName, bNames, retD, ctD, vd, itemsD, isDict, List.getElem?_cons_zero, List.getElem?_cons_succ, List.set_cons_zero, List.set_cons_succ, List.cons_append, List.nil_append, List.append_nil, List.replicate_succ, List.replicate_zero, List.map_cons, List.map_nil, List.length_cons, List.length_nil, List.zip_cons_cons, List.zip_nil_right, List.zip_nil_left, List.foldl_cons, List.foldl_nil, wipeE, backE, List.getD_cons_zero, List.getD_cons_succ, outsOf, keepPin, List.range_succ, List.range_zero, exS, at0, at1, at2, at3, at4, ix0, ix1, ix2, if_true, if_false, true_and, and_true, Bool.false_eq_true, reduceCtorEq, eqvI, eqvS, eqvB, scalI, scalS, scalB, true_or, decide_eq_true_eq, Bool.not_true, Bool.not_false, Bool.not_eq_true, isi_none_int, isi_none_bool, isi_none_str, isi_none_tuple, isi_none_list, isi_none_dict, isi_bool_int, isi_bool_bool, isi_bool_str, isi_bool_tuple, isi_bool_list, isi_bool_dict, isi_int_int, isi_int_bool, isi_int_str, isi_int_tuple, isi_int_list, isi_int_dict, isi_str_int, isi_str_bool, isi_str_str, isi_str_tuple, isi_str_list, isi_str_dict, isi_list_int, isi_list_bool, isi_list_str, isi_list_tuple, isi_list_list, isi_list_dict, isi_tuple_int, isi_tuple_bool, isi_tuple_str, isi_tuple_tuple, isi_tuple_list, isi_tuple_dict, isi_dict_int, isi_dict_bool, isi_dict_str, isi_dict_tuple, isi_dict_list, isi_dict_dict]
  refine ⟨ds, c, 100, rfl, hd, by omega, by decide, by decide, fun v ds1 v0 v1 h1 => ?_⟩
  simp only [wSeq, wNext, wIfS, wBool, wOp, wAt, wPeek, wName, wC, fIx, wChain, wAndT, wOrT, wNotT, wAndV, wOrV, wNotV, wIf, wNil, wCons, wTup, wLst, wDNew, wFz, fI, fI0, fEq, fNe, fIsN, fIsNot, fAdd, fIn, wC1, wC1F, fLen, fTup, fList, fInt, fAbs, wSlT, wSlL, wNoPart, wPart, wDrop, wRet, wRetF, wRetO, wSet, wSetF, wSetT, wPar, wPut, wBreak, wCont, wItems, wRng1, wRng2, wZip, wEnum, wEnumA, wRev, wFor, wWhile, wLc, wDc, wYes, wCall, wCallF, wCallK, wCallIo, wIsi, wNeg, wGetN, wGetE, wPop2, wAppend, wStar, seqD, fRepT, wDisp, wpCons, wpNil, keysD, dKey, wExtF, fStrI, wCallM, wCallMF, wmNil, wmD, wmS, wmF, avIx, avSls, avSl, avBack, avSet, wParM, List.nodup_nil, List.nodup_cons, List.mem_cons, List.not_mem_nil, or_false, not_false_eq_true, List.drop_succ_cons, List.drop_zero,  wAug, wRepL, wCatO, wCatF, wKeys, wItemsK, bName, bNames, retD, ctD, vd, itemsD, isDict, List.getElem?_cons_zero, List.getElem?_cons_succ, List.set_cons_zero, List.set_cons_succ, List.cons_append, List.nil_append, List.append_nil, List.replicate_succ, List.replicate_zero, List.map_cons, List.map_nil, List.length_cons, List.length_nil, List.zip_cons_cons, List.zip_nil_right, List.zip_nil_left, List.foldl_cons, List.foldl_nil, wipeE, backE, List.getD_cons_zero, List.getD_cons_succ, outsOf, keepPin, List.range_succ, List.range_zero, exS, at0, at1, at2, at3, at4, ix0, ix1, ix2, if_true, if_false, true_and, and_true, Bool.false_eq_true, reduceCtorEq, eqvI, eqvS, eqvB, scalI, scalS, scalB, true_or, decide_eq_true_eq, Bool.not_true, Bool.not_false, Bool.not_eq_true, isi_none_int, isi_none_bool, isi_none_str, isi_none_tuple, isi_none_list, isi_none_dict, isi_bool_int, isi_bool_bool, isi_bool_str, isi_bool_tuple, isi_bool_list, isi_bool_dict, isi_int_int, isi_int_bool, isi_int_str, isi_int_tuple, isi_int_list, isi_int_dict, isi_str_int, isi_str_bool, isi_str_str, isi_str_tuple, isi_str_list, isi_str_dict, isi_list_int, isi_list_bool, isi_list_str, isi_list_tuple, isi_list_list, isi_list_dict, isi_tuple_int, isi_tuple_bool, isi_tuple_str, isi_tuple_tuple, isi_tuple_list, isi_tuple_dict, isi_dict_int, isi_dict_bool, isi_dict_str, isi_dict_tuple, isi_dict_list, isi_dict_dict]
  refine ⟨by unfold CPow; decide, ds1, c + 1, _, rfl, h1, by omega, by decide, by decide, fun u ds2 u0 u1 h2 => ?_⟩
  simp only [wSeq, wNext, wIfS, wBool, wOp, wAt, wPeek, wName, wC, fIx, wChain, wAndT, wOrT, wNotT, wAndV, wOrV, wNotV, wIf, wNil, wCons, wTup, wLst, wDNew, wFz, fI, fI0, fEq, fNe, fIsN, fIsNot, fAdd, fIn, wC1, wC1F, fLen, fTup, fList, fInt, fAbs, wSlT, wSlL, wNoPart, wPart, wDrop, wRet, wRetF, wRetO, wSet, wSetF, wSetT, wPar, wPut, wBreak, wCont, wItems, wRng1, wRng2, wZip, wEnum, wEnumA, wRev, wFor, wWhile, wLc, wDc, wYes, wCall, wCallF, wCallK, wCallIo, wIsi, wNeg, wGetN, wGetE, wPop2, wAppend, wStar, seqD, fRepT, wDisp, wpCons, wpNil, keysD, dKey, wExtF, fStrI, wCallM, wCallMF, wmNil, wmD, wmS, wmF, avIx, avSls, avSl, avBack, avSet, wParM, List.nodup_nil, List.nodup_cons, List.mem_cons, List.not_mem_nil, or_false, not_false_eq_true, List.drop_succ_cons, List.drop_zero,  wAug, wRepL, wCatO, wCatF, wKeys, wItemsK, bName, bNames, retD, ctD, vd, itemsD, isDict, List.getElem?_cons_zero, List.getElem?_cons_succ, List.set_cons_zero, List.set_cons_succ, List.cons_append, List.nil_append, List.append_nil, List.replicate_succ, List.replicate_zero, List.map_cons, List.map_nil, List.length_cons, List.length_nil, List.zip_cons_cons, List.zip_nil_right, List.zip_nil_left, List.foldl_cons, List.foldl_nil, wipeE, backE, List.getD_cons_zero, List.getD_cons_succ, outsOf, keepPin, List.range_succ, List.range_zero, exS, at0, at1, at2, at3, at4, ix0, ix1, ix2, if_true, if_false, true_and, and_true, Bool.false_eq_true, reduceCtorEq, eqvI, eqvS, eqvB, scalI, scalS, scalB, true_or, decide_eq_true_eq, Bool.not_true, Bool.not_false, Bool.not_eq_true, isi_none_int, isi_none_bool, isi_none_str, isi_none_tuple, isi_none_list, isi_none_dict, isi_bool_int, isi_bool_bool, isi_bool_str, isi_bool_tuple, isi_bool_list, isi_bool_dict, isi_int_int, isi_int_bool, isi_int_str, isi_int_tuple, isi_int_list, isi_int_dict, isi_str_int, isi_str_bool, isi_str_str, isi_str_tuple, isi_str_list, isi_str_dict, isi_list_int, isi_list_bool, isi_list_str, isi_list_tuple, isi_list_list, isi_list_dict, isi_tuple_int, isi_tuple_bool, isi_tuple_str, isi_tuple_tuple, isi_tuple_list, isi_tuple_dict, isi_dict_int, isi_dict_bool, isi_dict_str, isi_dict_tuple, isi_dict_list, isi_dict_dict]
  refine ⟨by decide, ds2, c + 1 + 1, _, rfl, h2, by omega, by simp, by simp, fun x ds3 hx h3 => ?_⟩
  have hw : ∃ w : Int, x = .int w ∧ Wd w := by
    simp only [List.mem_cons, List.not_mem_nil, or_false] at hx
    have u1 : u < 1000000 := u1
    rcases hx with rfl | rfl | rfl | rfl | rfl
    · exact ⟨_, rfl, by decide, by decide⟩
    · exact ⟨_, rfl, by decide, by decide⟩
    · exact ⟨_, rfl, v0, by omega⟩
    · exact ⟨_, rfl, by decide, by decide⟩
    · exact ⟨_, rfl, u0, u1⟩
  obtain ⟨w, rfl, hw⟩ := hw
  exact k w ds3 hw h3
def sp__law_table : Spc := fun as R => ∃ (ds : List D) (c : Nat), as = [.o true (.l ds)] ∧ Hd c ds ∧ c ≤ 2 ^ 38 ∧ ∀ (es : List E3) (ds' : List D), Tk es → es.length ≤ 5 → Hd (c + 40) ds' → R (.fz (tbl es)) [.o true (.l ds')]
theorem len__law_table : ∀ as R, sp__law_table as R → as.length = 1 := fun as R ⟨ds, c, e, _⟩ => by rw [e]; rfl
def w__law_table_L1_2 : WS := (wDrop (wAppend 2 (wTup (wCons (wName 3) (wCons (wName 4) (wCons (wOp fAdd (wC (.int 1)) (wCallIo 0 sp__law_take (wCons (wC (.int 7)) wNil))) wNil))))))
theorem w__law_table_L1_2_e (E : VD) (ρ : En) : w__law_table_L1_2 E ρ = (wDrop (wAppend 2 (wTup (wCons (wName 3) (wCons (wName 4) (wCons (wOp fAdd (wC (.int 1)) (wCallIo 0 sp__law_take (wCons (wC (.int 7)) wNil))) wNil)))))) E ρ := rfl
def w__law_table_L1_1 : WS := (wSeq (wSet 4 (wCallIo 0 sp__law_of (wCons (wFz (wLst (wCons (wName 1) (wCons (wCallIo 0 sp__law_take (wCons (wC (.int 12)) wNil)) (wCons (wC (.int 99999)) (wCons (wCallIo 0 sp__law_take (wCons (wOp (fI CPow fun i j => .int (i ^ j.toNat)) (wC (.int 10)) (wC (.int 5))) wNil)) wNil)))))) wNil)))
    w__law_table_L1_2)
theorem w__law_table_L1_1_e (E : VD) (ρ : En) : w__law_table_L1_1 E ρ = (wSeq (wSet 4 (wCallIo 0 sp__law_of (wCons (wFz (wLst (wCons (wName 1) (wCons (wCallIo 0 sp__law_take (wCons (wC (.int 12)) wNil)) (wCons (wC (.int 99999)) (wCons (wCallIo 0 sp__law_take (wCons (wOp (fI CPow fun i j => .int (i ^ j.toNat)) (wC (.int 10)) (wC (.int 5))) wNil)) wNil)))))) wNil)))
    w__law_table_L1_2) E ρ := rfl
def w__law_table_L1_0 : WS := (wSeq (wSet 3 (wOp fAdd (wOp fAdd (wName 3) (wC (.int 1))) (wCallIo 0 sp__law_of (wCons (wFz (wLst (wCons (wC (.int 0)) (wCons (wC (.int 0)) (wCons (wC (.int 3)) (wCons (wCallIo 0 sp__law_take (wCons (wOp (fI CPow fun i j => .int (i ^ j.toNat)) (wC (.int 10)) (wC (.int 4))) wNil)) wNil)))))) wNil))))
    w__law_table_L1_1)
theorem w__law_table_L1_0_e (E : VD) (ρ : En) : w__law_table_L1_0 E ρ = (wSeq (wSet 3 (wOp fAdd (wOp fAdd (wName 3) (wC (.int 1))) (wCallIo 0 sp__law_of (wCons (wFz (wLst (wCons (wC (.int 0)) (wCons (wC (.int 0)) (wCons (wC (.int 3)) (wCons (wCallIo 0 sp__law_take (wCons (wOp (fI CPow fun i j => .int (i ^ j.toNat)) (wC (.int 10)) (wC (.int 4))) wNil)) wNil)))))) wNil))))
    w__law_table_L1_1) E ρ := rfl
def w__law_table_3 : WS := (wRet (wC1 fTup (wPeek 2)))
theorem w__law_table_3_e (E : VD) (ρ : En) : w__law_table_3 E ρ = (wRet (wC1 fTup (wPeek 2))) E ρ := rfl
def w__law_table_2 : WS := (wSeq (wIfS (wAndT (wBool (wOp fEq (wCallIo 0 sp__law_take (wCons (wC (.int 9)) wNil)) (wC (.int 0)))) (wBool (wOp (fI0 fun i j => .bool (decide (i < j))) (wName 3) (wC (.int 99999))))) (wDrop (wAppend 2 (wTup (wCons (wC (.int 99999)) (wCons (wC (.int 0)) (wCons (wC (.int 7)) wNil)))))) wNext)
    w__law_table_3)
theorem w__law_table_2_e (E : VD) (ρ : En) : w__law_table_2 E ρ = (wSeq (wIfS (wAndT (wBool (wOp fEq (wCallIo 0 sp__law_take (wCons (wC (.int 9)) wNil)) (wC (.int 0)))) (wBool (wOp (fI0 fun i j => .bool (decide (i < j))) (wName 3) (wC (.int 99999))))) (wDrop (wAppend 2 (wTup (wCons (wC (.int 99999)) (wCons (wC (.int 0)) (wCons (wC (.int 7)) wNil)))))) wNext)
    w__law_table_3) E ρ := rfl
def w__law_table_1 : WS := (wSeq (wFor (wRng1 (wCallIo 0 sp__law_of (wCons (wFz (wLst (wCons (wC (.int 0)) (wCons (wC (.int 1)) (wCons (wC (.int 2)) (wCons (wC (.int 4)) wNil)))))) wNil))) (bName 1) w__law_table_L1_0)
    w__law_table_2)
theorem w__law_table_1_e (E : VD) (ρ : En) : w__law_table_1 E ρ = (wSeq (wFor (wRng1 (wCallIo 0 sp__law_of (wCons (wFz (wLst (wCons (wC (.int 0)) (wCons (wC (.int 1)) (wCons (wC (.int 2)) (wCons (wC (.int 4)) wNil)))))) wNil))) (bName 1) w__law_table_L1_0)
    w__law_table_2) E ρ := rfl
def w__law_table_0 : WS := (wSeq (wParM [2, 3] (wmF (wLst wNil) (wmD (wNeg (wC (.int 1))) wmNil)))
    w__law_table_1)
theorem w__law_table_0_e (E : VD) (ρ : En) : w__law_table_0 E ρ = (wSeq (wParM [2, 3] (wmF (wLst wNil) (wmD (wNeg (wC (.int 1))) wmNil)))
    w__law_table_1) E ρ := rfl
def w__law_table : WS := w__law_table_0
def Bd__law_table : Prop := Body 1 4 w__law_table sp__law_table
theorem keys_snoc (es : List E3) (e : E3) : keys (es ++ [e]) = keys es ++ [e.1] := by unfold keys; simp
theorem up_snoc {es : List E3} {e : E3} (h : (keys es).Pairwise (· < ·)) (hm : ∀ x ∈ es, x.1 < e.1) : (keys (es ++ [e])).Pairwise (· < ·) := by
  rw [keys_snoc, List.pairwise_append]
  refine ⟨h, by simp, fun a ha b hb => ?_⟩
  simp at hb
  subst hb
  obtain ⟨x, hx, rfl⟩ := List.mem_map.mp ha
  exact hm x hx
theorem of4 {a b c d : Int} {x : D} (h : x ∈ [PyData.int a, PyData.int b, PyData.int c, PyData.int d]) : ∃ w : Int, x = .int w ∧ (w = a ∨ w = b ∨ w = c ∨ w = d) := by
  simp only [List.mem_cons, List.not_mem_nil, or_false] at h
  rcases h with rfl | rfl | rfl | rfl
  · exact ⟨_, rfl, .inl rfl⟩
  · exact ⟨_, rfl, .inr (.inl rfl)⟩
  · exact ⟨_, rfl, .inr (.inr (.inl rfl))⟩
  · exact ⟨_, rfl, .inr (.inr (.inr rfl))⟩
theorem table_loop {E : VD} {C : Nat} (hC : C ≤ 2 ^ 39) : ∀ (its : List Nat) (es : List E3) (ds : List D) (c : Nat) (page : Int) (s1 s4 : Sl), (∀ j ∈ its, j < 4) → Hd c ds → c + 6 * its.length ≤ C → es.length + its.length ≤ 4 → (keys es).Pairwise (· < ·) → Rg es → (∀ x ∈ es, x.1 ≤ page) → -1 ≤ page → page + 10001 * its.length ≤ 40003 →
    (∀ es ds page s1 s4, es.length ≤ 4 → (keys es).Pairwise (· < ·) → Rg es → (∀ x ∈ es, x.1 ≤ page) → Hd C ds → E.nx [.o true (.l ds), s1, .o false (.l (es.map ent)), .d (.int page), s4]) →
    wForL (bName 1) w__law_table_L1_0 E (its.map fun (i : Nat) => .int (i : Int)) [.o true (.l ds), s1, .o false (.l (es.map ent)), .d (.int page), s4]
  | [], es, ds, c, page, s1, s4, hj, hd, hc, hl, up, rg, hp, hp0, hp1, k => k es ds page _ _ (by simpa using hl) up rg hp (hd.mono (by simpa using hc))
  | j :: its, es, ds, c, page, s1, s4, hj, hd, hc, hl, up, rg, hp, hp0, hp1, k => by
    rw [List.length_cons] at hc hl hp1
    have hj0 := hj j (by simp)
    rw [List.map_cons]
    unfold wForL
    simp only [w__law_table_L1_0_e, wSeq, wNext, wIfS, wBool, wOp, wAt, wPeek, wName, wC, fIx, wChain, wAndT, wOrT, wNotT, wAndV, wOrV, wNotV, wIf, wNil, wCons, wTup, wLst, wDNew, wFz, fI, fI0, fEq, fNe, fIsN, fIsNot, fAdd, fIn, wC1, wC1F, fLen, fTup, fList, fInt, fAbs, wSlT, wSlL, wNoPart, wPart, wDrop, wRet, wRetF, wRetO, wSet, wSetF, wSetT, wPar, wPut, wBreak, wCont, wItems, wRng1, wRng2, wZip, wEnum, wEnumA, wRev, wFor, wWhile, wLc, wDc, wYes, wCall, wCallF, wCallK, wCallIo, wIsi, wNeg, wGetN, wGetE, wPop2, wAppend, wStar, seqD, fRepT, wDisp, wpCons, wpNil, keysD, dKey, wExtF, fStrI, wCallM, wCallMF, wmNil, wmD, wmS, wmF, avIx, avSls, avSl, avBack, avSet, wParM, List.nodup_nil, List.nodup_cons, List.mem_cons, List.not_mem_nil, or_false, not_false_eq_true, List.drop_succ_cons, List.drop_zero,  wAug, wRepL, wCatO, wCatF, wKeys, wItemsK, bName, bNames, retD, ctD, vd, itemsD, isDict, List.getElem?_cons_zero, List.getElem?_cons_succ, List.set_cons_zero, List.set_cons_succ, List.cons_append, List.nil_append, List.append_nil, List.replicate_succ, List.replicate_zero, List.map_cons, List.map_nil, List.length_cons, List.length_nil, List.zip_cons_cons, List.zip_nil_right, List.zip_nil_left, List.foldl_cons, List.foldl_nil, wipeE, backE, List.getD_cons_zero, List.getD_cons_succ, outsOf, keepPin, List.range_succ, List.range_zero, exS, at0, at1, at2, at3, at4, ix0, ix1, ix2, if_true, if_false, true_and, and_true, Bool.false_eq_true, reduceCtorEq, eqvI, eqvS, eqvB, scalI, scalS, scalB, true_or, decide_eq_true_eq, Bool.not_true, Bool.not_false, Bool.not_eq_true, isi_none_int, isi_none_bool, isi_none_str, isi_none_tuple, isi_none_list, isi_none_dict, isi_bool_int, isi_bool_bool, isi_bool_str, isi_bool_tuple, isi_bool_list, isi_bool_dict, isi_int_int, isi_int_bool, isi_int_str, isi_int_tuple, isi_int_list, isi_int_dict, isi_str_int, isi_str_bool, isi_str_str, isi_str_tuple, isi_str_list, isi_str_dict, isi_list_int, isi_list_bool, isi_list_str, isi_list_tuple, isi_list_list, isi_list_dict, isi_tuple_int, isi_tuple_bool, isi_tuple_str, isi_tuple_tuple, isi_tuple_list, isi_tuple_dict, isi_dict_int, isi_dict_bool, isi_dict_str, isi_dict_tuple, isi_dict_list, isi_dict_dict]
    refine ⟨by unfold CPow; decide, ds, c, _, rfl, hd, by omega, by decide, by decide, fun v ds1 v0 v1 h1 => ?_⟩
    simp only [wSeq, wNext, wIfS, wBool, wOp, wAt, wPeek, wName, wC, fIx, wChain, wAndT, wOrT, wNotT, wAndV, wOrV, wNotV, wIf, wNil, wCons, wTup, wLst, wDNew, wFz, fI, fI0, fEq, fNe, fIsN, fIsNot, fAdd, fIn, wC1, wC1F, fLen, fTup, fList, fInt, fAbs, wSlT, wSlL, wNoPart, wPart, wDrop, wRet, wRetF, wRetO, wSet, wSetF, wSetT, wPar, wPut, wBreak, wCont, wItems, wRng1, wRng2, wZip, wEnum, wEnumA, wRev, wFor, wWhile, wLc, wDc, wYes, wCall, wCallF, wCallK, wCallIo, wIsi, wNeg, wGetN, wGetE, wPop2, wAppend, wStar, seqD, fRepT, wDisp, wpCons, wpNil, keysD, dKey, wExtF, fStrI, wCallM, wCallMF, wmNil, wmD, wmS, wmF, avIx, avSls, avSl, avBack, avSet, wParM, List.nodup_nil, List.nodup_cons, List.mem_cons, List.not_mem_nil, or_false, not_false_eq_true, List.drop_succ_cons, List.drop_zero,  wAug, wRepL, wCatO, wCatF, wKeys, wItemsK, bName, bNames, retD, ctD, vd, itemsD, isDict, List.getElem?_cons_zero, List.getElem?_cons_succ, List.set_cons_zero, List.set_cons_succ, List.cons_append, List.nil_append, List.append_nil, List.replicate_succ, List.replicate_zero, List.map_cons, List.map_nil, List.length_cons, List.length_nil, List.zip_cons_cons, List.zip_nil_right, List.zip_nil_left, List.foldl_cons, List.foldl_nil, wipeE, backE, List.getD_cons_zero, List.getD_cons_succ, outsOf, keepPin, List.range_succ, List.range_zero, exS, at0, at1, at2, at3, at4, ix0, ix1, ix2, if_true, if_false, true_and, and_true, Bool.false_eq_true, reduceCtorEq, eqvI, eqvS, eqvB, scalI, scalS, scalB, true_or, decide_eq_true_eq, Bool.not_true, Bool.not_false, Bool.not_eq_true, isi_none_int, isi_none_bool, isi_none_str, isi_none_tuple, isi_none_list, isi_none_dict, isi_bool_int, isi_bool_bool, isi_bool_str, isi_bool_tuple, isi_bool_list, isi_bool_dict, isi_int_int, isi_int_bool, isi_int_str, isi_int_tuple, isi_int_list, isi_int_dict, isi_str_int, isi_str_bool, isi_str_str, isi_str_tuple, isi_str_list, isi_str_dict, isi_list_int, isi_list_bool, isi_list_str, isi_list_tuple, isi_list_list, isi_list_dict, isi_tuple_int, isi_tuple_bool, isi_tuple_str, isi_tuple_tuple, isi_tuple_list, isi_tuple_dict, isi_dict_int, isi_dict_bool, isi_dict_str, isi_dict_tuple, isi_dict_list, isi_dict_dict]
    refine ⟨by decide, ds1, c + 1, _, rfl, h1, by omega, by simp, by simp, fun x ds2 hx h2 => ?_⟩
    obtain ⟨st, rfl, hst⟩ := of4 hx
    have v1 : v < 10000 := v1
    simp only [w__law_table_L1_1_e, wSeq, wNext, wIfS, wBool, wOp, wAt, wPeek, wName, wC, fIx, wChain, wAndT, wOrT, wNotT, wAndV, wOrV, wNotV, wIf, wNil, wCons, wTup, wLst, wDNew, wFz, fI, fI0, fEq, fNe, fIsN, fIsNot, fAdd, fIn, wC1, wC1F, fLen, fTup, fList, fInt, fAbs, wSlT, wSlL, wNoPart, wPart, wDrop, wRet, wRetF, wRetO, wSet, wSetF, wSetT, wPar, wPut, wBreak, wCont, wItems, wRng1, wRng2, wZip, wEnum, wEnumA, wRev, wFor, wWhile, wLc, wDc, wYes, wCall, wCallF, wCallK, wCallIo, wIsi, wNeg, wGetN, wGetE, wPop2, wAppend, wStar, seqD, fRepT, wDisp, wpCons, wpNil, keysD, dKey, wExtF, fStrI, wCallM, wCallMF, wmNil, wmD, wmS, wmF, avIx, avSls, avSl, avBack, avSet, wParM, List.nodup_nil, List.nodup_cons, List.mem_cons, List.not_mem_nil, or_false, not_false_eq_true, List.drop_succ_cons, List.drop_zero,  wAug, wRepL, wCatO, wCatF, wKeys, wItemsK, bName, bNames, retD, ctD, vd, itemsD, isDict, List.getElem?_cons_zero, List.getElem?_cons_succ, List.set_cons_zero, List.set_cons_succ, List.cons_append, List.nil_append, List.append_nil, List.replicate_succ, List.replicate_zero, List.map_cons, List.map_nil, List.length_cons, List.length_nil, List.zip_cons_cons, List.zip_nil_right, List.zip_nil_left, List.foldl_cons, List.foldl_nil, wipeE, backE, List.getD_cons_zero, List.getD_cons_succ, outsOf, keepPin, List.range_succ, List.range_zero, exS, at0, at1, at2, at3, at4, ix0, ix1, ix2, if_true, if_false, true_and, and_true, Bool.false_eq_true, reduceCtorEq, eqvI, eqvS, eqvB, scalI, scalS, scalB, true_or, decide_eq_true_eq, Bool.not_true, Bool.not_false, Bool.not_eq_true, isi_none_int, isi_none_bool, isi_none_str, isi_none_tuple, isi_none_list, isi_none_dict, isi_bool_int, isi_bool_bool, isi_bool_str, isi_bool_tuple, isi_bool_list, isi_bool_dict, isi_int_int, isi_int_bool, isi_int_str, isi_int_tuple, isi_int_list, isi_int_dict, isi_str_int, isi_str_bool, isi_str_str, isi_str_tuple, isi_str_list, isi_str_dict, isi_list_int, isi_list_bool, isi_list_str, isi_list_tuple, isi_list_list, isi_list_dict, isi_tuple_int, isi_tuple_bool, isi_tuple_str, isi_tuple_tuple, isi_tuple_list, isi_tuple_dict, isi_dict_int, isi_dict_bool, isi_dict_str, isi_dict_tuple, isi_dict_list, isi_dict_dict]
    refine ⟨ds2, c + 1 + 1, 12, rfl, h2, by omega, by decide, by decide, fun f1 ds3 f10 f11 h3 => ?_⟩
    simp only [wSeq, wNext, wIfS, wBool, wOp, wAt, wPeek, wName, wC, fIx, wChain, wAndT, wOrT, wNotT, wAndV, wOrV, wNotV, wIf, wNil, wCons, wTup, wLst, wDNew, wFz, fI, fI0, fEq, fNe, fIsN, fIsNot, fAdd, fIn, wC1, wC1F, fLen, fTup, fList, fInt, fAbs, wSlT, wSlL, wNoPart, wPart, wDrop, wRet, wRetF, wRetO, wSet, wSetF, wSetT, wPar, wPut, wBreak, wCont, wItems, wRng1, wRng2, wZip, wEnum, wEnumA, wRev, wFor, wWhile, wLc, wDc, wYes, wCall, wCallF, wCallK, wCallIo, wIsi, wNeg, wGetN, wGetE, wPop2, wAppend, wStar, seqD, fRepT, wDisp, wpCons, wpNil, keysD, dKey, wExtF, fStrI, wCallM, wCallMF, wmNil, wmD, wmS, wmF, avIx, avSls, avSl, avBack, avSet, wParM, List.nodup_nil, List.nodup_cons, List.mem_cons, List.not_mem_nil, or_false, not_false_eq_true, List.drop_succ_cons, List.drop_zero,  wAug, wRepL, wCatO, wCatF, wKeys, wItemsK, bName, bNames, retD, ctD, vd, itemsD, isDict, List.getElem?_cons_zero, List.getElem?_cons_succ, List.set_cons_zero, List.set_cons_succ, List.cons_append, List.nil_append, List.append_nil, List.replicate_succ, List.replicate_zero, List.map_cons, List.map_nil, List.length_cons, List.length_nil, List.zip_cons_cons, List.zip_nil_right, List.zip_nil_left, List.foldl_cons, List.foldl_nil, wipeE, backE, List.getD_cons_zero, List.getD_cons_succ, outsOf, keepPin, List.range_succ, List.range_zero, exS, at0, at1, at2, at3, at4, ix0, ix1, ix2, if_true, if_false, true_and, and_true, Bool.false_eq_true, reduceCtorEq, eqvI, eqvS, eqvB, scalI, scalS, scalB, true_or, decide_eq_true_eq, Bool.not_true, Bool.not_false, Bool.not_eq_true, isi_none_int, isi_none_bool, isi_none_str, isi_none_tuple, isi_none_list, isi_none_dict, isi_bool_int, isi_bool_bool, isi_bool_str, isi_bool_tuple, isi_bool_list, isi_bool_dict, isi_int_int, isi_int_bool, isi_int_str, isi_int_tuple, isi_int_list, isi_int_dict, isi_str_int, isi_str_bool, isi_str_str, isi_str_tuple, isi_str_list, isi_str_dict, isi_list_int, isi_list_bool, isi_list_str, isi_list_tuple, isi_list_list, isi_list_dict, isi_tuple_int, isi_tuple_bool, isi_tuple_str, isi_tuple_tuple, isi_tuple_list, isi_tuple_dict, isi_dict_int, isi_dict_bool, isi_dict_str, isi_dict_tuple, isi_dict_list, isi_dict_dict]
    refine ⟨by unfold CPow; decide, ds3, c + 1 + 1 + 1, _, rfl, h3, by omega, by decide, by decide, fun f2 ds4 f20 f21 h4 => ?_⟩
    simp only [wSeq, wNext, wIfS, wBool, wOp, wAt, wPeek, wName, wC, fIx, wChain, wAndT, wOrT, wNotT, wAndV, wOrV, wNotV, wIf, wNil, wCons, wTup, wLst, wDNew, wFz, fI, fI0, fEq, fNe, fIsN, fIsNot, fAdd, fIn, wC1, wC1F, fLen, fTup, fList, fInt, fAbs, wSlT, wSlL, wNoPart, wPart, wDrop, wRet, wRetF, wRetO, wSet, wSetF, wSetT, wPar, wPut, wBreak, wCont, wItems, wRng1, wRng2, wZip, wEnum, wEnumA, wRev, wFor, wWhile, wLc, wDc, wYes, wCall, wCallF, wCallK, wCallIo, wIsi, wNeg, wGetN, wGetE, wPop2, wAppend, wStar, seqD, fRepT, wDisp, wpCons, wpNil, keysD, dKey, wExtF, fStrI, wCallM, wCallMF, wmNil, wmD, wmS, wmF, avIx, avSls, avSl, avBack, avSet, wParM, List.nodup_nil, List.nodup_cons, List.mem_cons, List.not_mem_nil, or_false, not_false_eq_true, List.drop_succ_cons, List.drop_zero,  wAug, wRepL, wCatO, wCatF, wKeys, wItemsK, bName, bNames, retD, ctD, vd, itemsD, isDict, List.getElem?_cons_zero, List.getElem?_cons_succ, List.set_cons_zero, List.set_cons_succ, List.cons_append, List.nil_append, List.append_nil, List.replicate_succ, List.replicate_zero, List.map_cons, List.map_nil, List.length_cons, List.length_nil, List.zip_cons_cons, List.zip_nil_right, List.zip_nil_left, List.foldl_cons, List.foldl_nil, wipeE, backE, List.getD_cons_zero, List.getD_cons_succ, outsOf, keepPin, List.range_succ, List.range_zero, exS, at0, at1, at2, at3, at4, ix0, ix1, ix2, if_true, if_false, true_and, and_true, Bool.false_eq_true, reduceCtorEq, eqvI, eqvS, eqvB, scalI, scalS, scalB, true_or, decide_eq_true_eq, Bool.not_true, Bool.not_false, Bool.not_eq_true, isi_none_int, isi_none_bool, isi_none_str, isi_none_tuple, isi_none_list, isi_none_dict, isi_bool_int, isi_bool_bool, isi_bool_str, isi_bool_tuple, isi_bool_list, isi_bool_dict, isi_int_int, isi_int_bool, isi_int_str, isi_int_tuple, isi_int_list, isi_int_dict, isi_str_int, isi_str_bool, isi_str_str, isi_str_tuple, isi_str_list, isi_str_dict, isi_list_int, isi_list_bool, isi_list_str, isi_list_tuple, isi_list_list, isi_list_dict, isi_tuple_int, isi_tuple_bool, isi_tuple_str, isi_tuple_tuple, isi_tuple_list, isi_tuple_dict, isi_dict_int, isi_dict_bool, isi_dict_str, isi_dict_tuple, isi_dict_list, isi_dict_dict]
    refine ⟨by decide, ds4, c + 1 + 1 + 1 + 1, _, rfl, h4, by omega, by simp, by simp, fun y ds5 hy h5 => ?_⟩
    obtain ⟨fr, rfl, hfr⟩ := of4 hy
    have f21 : f2 < 100000 := f21
    simp only [w__law_table_L1_2_e, wSeq, wNext, wIfS, wBool, wOp, wAt, wPeek, wName, wC, fIx, wChain, wAndT, wOrT, wNotT, wAndV, wOrV, wNotV, wIf, wNil, wCons, wTup, wLst, wDNew, wFz, fI, fI0, fEq, fNe, fIsN, fIsNot, fAdd, fIn, wC1, wC1F, fLen, fTup, fList, fInt, fAbs, wSlT, wSlL, wNoPart, wPart, wDrop, wRet, wRetF, wRetO, wSet, wSetF, wSetT, wPar, wPut, wBreak, wCont, wItems, wRng1, wRng2, wZip, wEnum, wEnumA, wRev, wFor, wWhile, wLc, wDc, wYes, wCall, wCallF, wCallK, wCallIo, wIsi, wNeg, wGetN, wGetE, wPop2, wAppend, wStar, seqD, fRepT, wDisp, wpCons, wpNil, keysD, dKey, wExtF, fStrI, wCallM, wCallMF, wmNil, wmD, wmS, wmF, avIx, avSls, avSl, avBack, avSet, wParM, List.nodup_nil, List.nodup_cons, List.mem_cons, List.not_mem_nil, or_false, not_false_eq_true, List.drop_succ_cons, List.drop_zero,  wAug, wRepL, wCatO, wCatF, wKeys, wItemsK, bName, bNames, retD, ctD, vd, itemsD, isDict, List.getElem?_cons_zero, List.getElem?_cons_succ, List.set_cons_zero, List.set_cons_succ, List.cons_append, List.nil_append, List.append_nil, List.replicate_succ, List.replicate_zero, List.map_cons, List.map_nil, List.length_cons, List.length_nil, List.zip_cons_cons, List.zip_nil_right, List.zip_nil_left, List.foldl_cons, List.foldl_nil, wipeE, backE, List.getD_cons_zero, List.getD_cons_succ, outsOf, keepPin, List.range_succ, List.range_zero, exS, at0, at1, at2, at3, at4, ix0, ix1, ix2, if_true, if_false, true_and, and_true, Bool.false_eq_true, reduceCtorEq, eqvI, eqvS, eqvB, scalI, scalS, scalB, true_or, decide_eq_true_eq, Bool.not_true, Bool.not_false, Bool.not_eq_true, isi_none_int, isi_none_bool, isi_none_str, isi_none_tuple, isi_none_list, isi_none_dict, isi_bool_int, isi_bool_bool, isi_bool_str, isi_bool_tuple, isi_bool_list, isi_bool_dict, isi_int_int, isi_int_bool, isi_int_str, isi_int_tuple, isi_int_list, isi_int_dict, isi_str_int, isi_str_bool, isi_str_str, isi_str_tuple, isi_str_list, isi_str_dict, isi_list_int, isi_list_bool, isi_list_str, isi_list_tuple, isi_list_list, isi_list_dict, isi_tuple_int, isi_tuple_bool, isi_tuple_str, isi_tuple_tuple, isi_tuple_list, isi_tuple_dict, isi_dict_int, isi_dict_bool, isi_dict_str, isi_dict_tuple, isi_dict_list, isi_dict_dict]
    refine ⟨ds5, c + 1 + 1 + 1 + 1 + 1, 7, rfl, h5, by omega, by decide, by decide, fun m ds6 m0 m1 h6 => ?_⟩
    simp only [wSeq, wNext, wIfS, wBool, wOp, wAt, wPeek, wName, wC, fIx, wChain, wAndT, wOrT, wNotT, wAndV, wOrV, wNotV, wIf, wNil, wCons, wTup, wLst, wDNew, wFz, fI, fI0, fEq, fNe, fIsN, fIsNot, fAdd, fIn, wC1, wC1F, fLen, fTup, fList, fInt, fAbs, wSlT, wSlL, wNoPart, wPart, wDrop, wRet, wRetF, wRetO, wSet, wSetF, wSetT, wPar, wPut, wBreak, wCont, wItems, wRng1, wRng2, wZip, wEnum, wEnumA, wRev, wFor, wWhile, wLc, wDc, wYes, wCall, wCallF, wCallK, wCallIo, wIsi, wNeg, wGetN, wGetE, wPop2, wAppend, wStar, seqD, fRepT, wDisp, wpCons, wpNil, keysD, dKey, wExtF, fStrI, wCallM, wCallMF, wmNil, wmD, wmS, wmF, avIx, avSls, avSl, avBack, avSet, wParM, List.nodup_nil, List.nodup_cons, List.mem_cons, List.not_mem_nil, or_false, not_false_eq_true, List.drop_succ_cons, List.drop_zero,  wAug, wRepL, wCatO, wCatF, wKeys, wItemsK, bName, bNames, retD, ctD, vd, itemsD, isDict, List.getElem?_cons_zero, List.getElem?_cons_succ, List.set_cons_zero, List.set_cons_succ, List.cons_append, List.nil_append, List.append_nil, List.replicate_succ, List.replicate_zero, List.map_cons, List.map_nil, List.length_cons, List.length_nil, List.zip_cons_cons, List.zip_nil_right, List.zip_nil_left, List.foldl_cons, List.foldl_nil, wipeE, backE, List.getD_cons_zero, List.getD_cons_succ, outsOf, keepPin, List.range_succ, List.range_zero, exS, at0, at1, at2, at3, at4, ix0, ix1, ix2, if_true, if_false, true_and, and_true, Bool.false_eq_true, reduceCtorEq, eqvI, eqvS, eqvB, scalI, scalS, scalB, true_or, decide_eq_true_eq, Bool.not_true, Bool.not_false, Bool.not_eq_true, isi_none_int, isi_none_bool, isi_none_str, isi_none_tuple, isi_none_list, isi_none_dict, isi_bool_int, isi_bool_bool, isi_bool_str, isi_bool_tuple, isi_bool_list, isi_bool_dict, isi_int_int, isi_int_bool, isi_int_str, isi_int_tuple, isi_int_list, isi_int_dict, isi_str_int, isi_str_bool, isi_str_str, isi_str_tuple, isi_str_list, isi_str_dict, isi_list_int, isi_list_bool, isi_list_str, isi_list_tuple, isi_list_list, isi_list_dict, isi_tuple_int, isi_tuple_bool, isi_tuple_str, isi_tuple_tuple, isi_tuple_list, isi_tuple_dict, isi_dict_int, isi_dict_bool, isi_dict_str, isi_dict_tuple, isi_dict_list, isi_dict_dict]
    refine ⟨by decide, small_lt (by simp; omega), ?_⟩
    have ea : es.map ent ++ [.tuple [.int (page + 1 + st), .int fr, .int (1 + m)]] = (es ++ [(page + 1 + st, fr, 1 + m)]).map ent := by rw [List.map_append]; rfl
    rw [ea]
    refine table_loop hC its _ ds6 _ _ _ _ (fun q hq => hj q (by simp [hq])) h6 (by omega) (by simp; omega) (up_snoc up fun x hx => ?_) (fun e he => ?_) (fun x hx => ?_) (by omega) (by omega) k
    · have := hp x hx
      show x.1 < page + 1 + st
      omega
    · rcases List.mem_append.mp he with he | he
      · exact rg e he
      · simp at he; subst he
        exact ⟨by show 0 ≤ page + 1 + st; omega, by show page + 1 + st ≤ 99999; omega, by show 0 ≤ fr; omega, by show fr ≤ 99999; omega, by show 1 ≤ 1 + m; omega, by show 1 + m ≤ 7; omega⟩
    · rcases List.mem_append.mp hx with hx | hx
      · have := hp x hx; omega
      · simp at hx; subst hx; exact Int.le_refl _
theorem body__law_table : Bd__law_table := by
  intro as R h
  obtain ⟨ds, c, rfl, hd, hc, k⟩ := h
  unfold w__law_table
  simp only [w__law_table_0_e, wSeq, wNext, wIfS, wBool, wOp, wAt, wPeek, wName, wC, fIx, wChain, wAndT, wOrT, wNotT, wAndV, wOrV, wNotV, wIf, wNil, wCons, wTup, wLst, wDNew, wFz, fI, fI0, fEq, fNe, fIsN, fIsNot, fAdd, fIn, wC1, wC1F, fLen, fTup, fList, fInt, fAbs, wSlT, wSlL, wNoPart, wPart, wDrop, wRet, wRetF, wRetO, wSet, wSetF, wSetT, wPar, wPut, wBreak, wCont, wItems, wRng1, wRng2, wZip, wEnum, wEnumA, wRev, wFor, wWhile, wLc, wDc, wYes, wCall, wCallF, wCallK, wCallIo, wIsi, wNeg, wGetN, wGetE, wPop2, wAppend, wStar, seqD, fRepT, wDisp, wpCons, wpNil, keysD, dKey, wExtF, fStrI, wCallM, wCallMF, wmNil, wmD, wmS, wmF, avIx, avSls, avSl, avBack, avSet, wParM, List.nodup_nil, List.nodup_cons, List.mem_cons, List.not_mem_nil, or_false, not_false_eq_true, List.drop_succ_cons, List.drop_zero,  wAug, wRepL, wCatO, wCatF, wKeys, wItemsK, bName, bNames, retD, ctD, vd, itemsD, isDict, List.getElem?_cons_zero, List.getElem?_cons_succ, List.set_cons_zero, List.set_cons_succ, List.cons_append, List.nil_append, List.append_nil, List.replicate_succ, List.replicate_zero, List.map_cons, List.map_nil, List.length_cons, List.length_nil, List.zip_cons_cons, List.zip_nil_right, List.zip_nil_left, List.foldl_cons, List.foldl_nil, wipeE, backE, List.getD_cons_zero, List.getD_cons_succ, outsOf, keepPin, List.range_succ, List.range_zero, exS, at0, at1, at2, at3, at4, ix0, ix1, ix2, if_true, if_false, true_and, and_true, Bool.false_eq_true, reduceCtorEq, eqvI, eqvS, eqvB, scalI, scalS, scalB, true_or, decide_eq_true_eq, Bool.not_true, Bool.not_false, Bool.not_eq_true, isi_none_int, isi_none_bool, isi_none_str, isi_none_tuple, isi_none_list, isi_none_dict, isi_bool_int, isi_bool_bool, isi_bool_str, isi_bool_tuple, isi_bool_list, isi_bool_dict, isi_int_int, isi_int_bool, isi_int_str, isi_int_tuple, isi_int_list, isi_int_dict, isi_str_int, isi_str_bool, isi_str_str, isi_str_tuple, isi_str_list, isi_str_dict, isi_list_int, isi_list_bool, isi_list_str, isi_list_tuple, isi_list_list, isi_list_dict, isi_tuple_int, isi_tuple_bool, isi_tuple_str, isi_tuple_tuple, isi_tuple_list, isi_tuple_dict, isi_dict_int, isi_dict_bool, isi_dict_str, isi_dict_tuple, isi_dict_list, isi_dict_dict]
  refine ⟨by decide, ?_⟩
  simp only [w__law_table_1_e, wSeq, wNext, wIfS, wBool, wOp, wAt, wPeek, wName, wC, fIx, wChain, wAndT, wOrT, wNotT, wAndV, wOrV, wNotV, wIf, wNil, wCons, wTup, wLst, wDNew, wFz, fI, fI0, fEq, fNe, fIsN, fIsNot, fAdd, fIn, wC1, wC1F, fLen, fTup, fList, fInt, fAbs, wSlT, wSlL, wNoPart, wPart, wDrop, wRet, wRetF, wRetO, wSet, wSetF, wSetT, wPar, wPut, wBreak, wCont, wItems, wRng1, wRng2, wZip, wEnum, wEnumA, wRev, wFor, wWhile, wLc, wDc, wYes, wCall, wCallF, wCallK, wCallIo, wIsi, wNeg, wGetN, wGetE, wPop2, wAppend, wStar, seqD, fRepT, wDisp, wpCons, wpNil, keysD, dKey, wExtF, fStrI, wCallM, wCallMF, wmNil, wmD, wmS, wmF, avIx, avSls, avSl, avBack, avSet, wParM, List.nodup_nil, List.nodup_cons, List.mem_cons, List.not_mem_nil, or_false, not_false_eq_true, List.drop_succ_cons, List.drop_zero,  wAug, wRepL, wCatO, wCatF, wKeys, wItemsK, bName, bNames, retD, ctD, vd, itemsD, isDict, List.getElem?_cons_zero, List.getElem?_cons_succ, List.set_cons_zero, List.set_cons_succ, List.cons_append, List.nil_append, List.append_nil, List.replicate_succ, List.replicate_zero, List.map_cons, List.map_nil, List.length_cons, List.length_nil, List.zip_cons_cons, List.zip_nil_right, List.zip_nil_left, List.foldl_cons, List.foldl_nil, wipeE, backE, List.getD_cons_zero, List.getD_cons_succ, outsOf, keepPin, List.range_succ, List.range_zero, exS, at0, at1, at2, at3, at4, ix0, ix1, ix2, if_true, if_false, true_and, and_true, Bool.false_eq_true, reduceCtorEq, eqvI, eqvS, eqvB, scalI, scalS, scalB, true_or, decide_eq_true_eq, Bool.not_true, Bool.not_false, Bool.not_eq_true, isi_none_int, isi_none_bool, isi_none_str, isi_none_tuple, isi_none_list, isi_none_dict, isi_bool_int, isi_bool_bool, isi_bool_str, isi_bool_tuple, isi_bool_list, isi_bool_dict, isi_int_int, isi_int_bool, isi_int_str, isi_int_tuple, isi_int_list, isi_int_dict, isi_str_int, isi_str_bool, isi_str_str, isi_str_tuple, isi_str_list, isi_str_dict, isi_list_int, isi_list_bool, isi_list_str, isi_list_tuple, isi_list_list, isi_list_dict, isi_tuple_int, isi_tuple_bool, isi_tuple_str, isi_tuple_tuple, isi_tuple_list, isi_tuple_dict, isi_dict_int, isi_dict_bool, isi_dict_str, isi_dict_tuple, isi_dict_list, isi_dict_dict]
  refine ⟨by decide, ds, c, _, rfl, hd, by omega, by simp, by simp, fun x ds1 hx h1 => ?_⟩
  obtain ⟨m, rfl, hm⟩ := of4 hx
  simp only [wSeq, wNext, wIfS, wBool, wOp, wAt, wPeek, wName, wC, fIx, wChain, wAndT, wOrT, wNotT, wAndV, wOrV, wNotV, wIf, wNil, wCons, wTup, wLst, wDNew, wFz, fI, fI0, fEq, fNe, fIsN, fIsNot, fAdd, fIn, wC1, wC1F, fLen, fTup, fList, fInt, fAbs, wSlT, wSlL, wNoPart, wPart, wDrop, wRet, wRetF, wRetO, wSet, wSetF, wSetT, wPar, wPut, wBreak, wCont, wItems, wRng1, wRng2, wZip, wEnum, wEnumA, wRev, wFor, wWhile, wLc, wDc, wYes, wCall, wCallF, wCallK, wCallIo, wIsi, wNeg, wGetN, wGetE, wPop2, wAppend, wStar, seqD, fRepT, wDisp, wpCons, wpNil, keysD, dKey, wExtF, fStrI, wCallM, wCallMF, wmNil, wmD, wmS, wmF, avIx, avSls, avSl, avBack, avSet, wParM, List.nodup_nil, List.nodup_cons, List.mem_cons, List.not_mem_nil, or_false, not_false_eq_true, List.drop_succ_cons, List.drop_zero,  wAug, wRepL, wCatO, wCatF, wKeys, wItemsK, bName, bNames, retD, ctD, vd, itemsD, isDict, List.getElem?_cons_zero, List.getElem?_cons_succ, List.set_cons_zero, List.set_cons_succ, List.cons_append, List.nil_append, List.append_nil, List.replicate_succ, List.replicate_zero, List.map_cons, List.map_nil, List.length_cons, List.length_nil, List.zip_cons_cons, List.zip_nil_right, List.zip_nil_left, List.foldl_cons, List.foldl_nil, wipeE, backE, List.getD_cons_zero, List.getD_cons_succ, outsOf, keepPin, List.range_succ, List.range_zero, exS, at0, at1, at2, at3, at4, ix0, ix1, ix2, if_true, if_false, true_and, and_true, Bool.false_eq_true, reduceCtorEq, eqvI, eqvS, eqvB, scalI, scalS, scalB, true_or, decide_eq_true_eq, Bool.not_true, Bool.not_false, Bool.not_eq_true, isi_none_int, isi_none_bool, isi_none_str, isi_none_tuple, isi_none_list, isi_none_dict, isi_bool_int, isi_bool_bool, isi_bool_str, isi_bool_tuple, isi_bool_list, isi_bool_dict, isi_int_int, isi_int_bool, isi_int_str, isi_int_tuple, isi_int_list, isi_int_dict, isi_str_int, isi_str_bool, isi_str_str, isi_str_tuple, isi_str_list, isi_str_dict, isi_list_int, isi_list_bool, isi_list_str, isi_list_tuple, isi_list_list, isi_list_dict, isi_tuple_int, isi_tuple_bool, isi_tuple_str, isi_tuple_tuple, isi_tuple_list, isi_tuple_dict, isi_dict_int, isi_dict_bool, isi_dict_str, isi_dict_tuple, isi_dict_list, isi_dict_dict]
  refine ⟨by omega, by omega, ?_⟩
  refine table_loop (C := c + 1 + 24) (by omega) _ [] ds1 (c + 1) _ _ _ (fun j hj => by rw [List.mem_range] at hj; omega) h1 (by simp; omega) (by simp; omega) (by simp [keys]) (by intro e he; cases he) (by intro x hx; cases hx) (by decide) (by simp; omega) fun es ds2 page s1 s4 hl up rg hp h2 => ?_
  have fin : ∀ (es : List E3) (ds3 : List D) (page : Int) (s1 s4 : Sl), es.length ≤ 5 → (keys es).Pairwise (· < ·) → Rg es → Hd (c + 1 + 24 + 1) ds3 → w__law_table_3 ⟨fun ρ => R (.fz .none) (outsOf 1 ρ), fun r ρ => R r (outsOf 1 ρ), fun _ => False, fun _ => False⟩ [.o true (.l ds3), s1, .o false (.l (es.map ent)), .d (.int page), s4] := by
    intro es ds3 page s1 s4 hl up rg h3
    simp only [w__law_table_3_e, wSeq, wNext, wIfS, wBool, wOp, wAt, wPeek, wName, wC, fIx, wChain, wAndT, wOrT, wNotT, wAndV, wOrV, wNotV, wIf, wNil, wCons, wTup, wLst, wDNew, wFz, fI, fI0, fEq, fNe, fIsN, fIsNot, fAdd, fIn, wC1, wC1F, fLen, fTup, fList, fInt, fAbs, wSlT, wSlL, wNoPart, wPart, wDrop, wRet, wRetF, wRetO, wSet, wSetF, wSetT, wPar, wPut, wBreak, wCont, wItems, wRng1, wRng2, wZip, wEnum, wEnumA, wRev, wFor, wWhile, wLc, wDc, wYes, wCall, wCallF, wCallK, wCallIo, wIsi, wNeg, wGetN, wGetE, wPop2, wAppend, wStar, seqD, fRepT, wDisp, wpCons, wpNil, keysD, dKey, wExtF, fStrI, wCallM, wCallMF, wmNil, wmD, wmS, wmF, avIx, avSls, avSl, avBack, avSet, wParM, List.nodup_nil, List.nodup_cons, List.mem_cons, List.not_mem_nil, or_false, not_false_eq_true, List.drop_succ_cons, List.drop_zero,  wAug, wRepL, wCatO, wCatF, wKeys, wItemsK, bName, bNames, retD, ctD, vd, itemsD, isDict, List.getElem?_cons_zero, List.getElem?_cons_succ, List.set_cons_zero, List.set_cons_succ, List.cons_append, List.nil_append, List.append_nil, List.replicate_succ, List.replicate_zero, List.map_cons, List.map_nil, List.length_cons, List.length_nil, List.zip_cons_cons, List.zip_nil_right, List.zip_nil_left, List.foldl_cons, List.foldl_nil, wipeE, backE, List.getD_cons_zero, List.getD_cons_succ, outsOf, keepPin, List.range_succ, List.range_zero, exS, at0, at1, at2, at3, at4, ix0, ix1, ix2, if_true, if_false, true_and, and_true, Bool.false_eq_true, reduceCtorEq, eqvI, eqvS, eqvB, scalI, scalS, scalB, true_or, decide_eq_true_eq, Bool.not_true, Bool.not_false, Bool.not_eq_true, isi_none_int, isi_none_bool, isi_none_str, isi_none_tuple, isi_none_list, isi_none_dict, isi_bool_int, isi_bool_bool, isi_bool_str, isi_bool_tuple, isi_bool_list, isi_bool_dict, isi_int_int, isi_int_bool, isi_int_str, isi_int_tuple, isi_int_list, isi_int_dict, isi_str_int, isi_str_bool, isi_str_str, isi_str_tuple, isi_str_list, isi_str_dict, isi_list_int, isi_list_bool, isi_list_str, isi_list_tuple, isi_list_list, isi_list_dict, isi_tuple_int, isi_tuple_bool, isi_tuple_str, isi_tuple_tuple, isi_tuple_list, isi_tuple_dict, isi_dict_int, isi_dict_bool, isi_dict_str, isi_dict_tuple, isi_dict_list, isi_dict_dict]
    exact k es ds3 ⟨up, rg, by omega⟩ hl (h3.mono (by omega))
  simp only [w__law_table_2_e, wSeq, wNext, wIfS, wBool, wOp, wAt, wPeek, wName, wC, fIx, wChain, wAndT, wOrT, wNotT, wAndV, wOrV, wNotV, wIf, wNil, wCons, wTup, wLst, wDNew, wFz, fI, fI0, fEq, fNe, fIsN, fIsNot, fAdd, fIn, wC1, wC1F, fLen, fTup, fList, fInt, fAbs, wSlT, wSlL, wNoPart, wPart, wDrop, wRet, wRetF, wRetO, wSet, wSetF, wSetT, wPar, wPut, wBreak, wCont, wItems, wRng1, wRng2, wZip, wEnum, wEnumA, wRev, wFor, wWhile, wLc, wDc, wYes, wCall, wCallF, wCallK, wCallIo, wIsi, wNeg, wGetN, wGetE, wPop2, wAppend, wStar, seqD, fRepT, wDisp, wpCons, wpNil, keysD, dKey, wExtF, fStrI, wCallM, wCallMF, wmNil, wmD, wmS, wmF, avIx, avSls, avSl, avBack, avSet, wParM, List.nodup_nil, List.nodup_cons, List.mem_cons, List.not_mem_nil, or_false, not_false_eq_true, List.drop_succ_cons, List.drop_zero,  wAug, wRepL, wCatO, wCatF, wKeys, wItemsK, bName, bNames, retD, ctD, vd, itemsD, isDict, List.getElem?_cons_zero, List.getElem?_cons_succ, List.set_cons_zero, List.set_cons_succ, List.cons_append, List.nil_append, List.append_nil, List.replicate_succ, List.replicate_zero, List.map_cons, List.map_nil, List.length_cons, List.length_nil, List.zip_cons_cons, List.zip_nil_right, List.zip_nil_left, List.foldl_cons, List.foldl_nil, wipeE, backE, List.getD_cons_zero, List.getD_cons_succ, outsOf, keepPin, List.range_succ, List.range_zero, exS, at0, at1, at2, at3, at4, ix0, ix1, ix2, if_true, if_false, true_and, and_true, Bool.false_eq_true, reduceCtorEq, eqvI, eqvS, eqvB, scalI, scalS, scalB, true_or, decide_eq_true_eq, Bool.not_true, Bool.not_false, Bool.not_eq_true, isi_none_int, isi_none_bool, isi_none_str, isi_none_tuple, isi_none_list, isi_none_dict, isi_bool_int, isi_bool_bool, isi_bool_str, isi_bool_tuple, isi_bool_list, isi_bool_dict, isi_int_int, isi_int_bool, isi_int_str, isi_int_tuple, isi_int_list, isi_int_dict, isi_str_int, isi_str_bool, isi_str_str, isi_str_tuple, isi_str_list, isi_str_dict, isi_list_int, isi_list_bool, isi_list_str, isi_list_tuple, isi_list_list, isi_list_dict, isi_tuple_int, isi_tuple_bool, isi_tuple_str, isi_tuple_tuple, isi_tuple_list, isi_tuple_dict, isi_dict_int, isi_dict_bool, isi_dict_str, isi_dict_tuple, isi_dict_list, isi_dict_dict]
  refine ⟨ds2, _, 9, rfl, h2, by omega, by decide, by decide, fun v ds3 v0 v1 h3 => ?_⟩
  simp only [wSeq, wNext, wIfS, wBool, wOp, wAt, wPeek, wName, wC, fIx, wChain, wAndT, wOrT, wNotT, wAndV, wOrV, wNotV, wIf, wNil, wCons, wTup, wLst, wDNew, wFz, fI, fI0, fEq, fNe, fIsN, fIsNot, fAdd, fIn, wC1, wC1F, fLen, fTup, fList, fInt, fAbs, wSlT, wSlL, wNoPart, wPart, wDrop, wRet, wRetF, wRetO, wSet, wSetF, wSetT, wPar, wPut, wBreak, wCont, wItems, wRng1, wRng2, wZip, wEnum, wEnumA, wRev, wFor, wWhile, wLc, wDc, wYes, wCall, wCallF, wCallK, wCallIo, wIsi, wNeg, wGetN, wGetE, wPop2, wAppend, wStar, seqD, fRepT, wDisp, wpCons, wpNil, keysD, dKey, wExtF, fStrI, wCallM, wCallMF, wmNil, wmD, wmS, wmF, avIx, avSls, avSl, avBack, avSet, wParM, List.nodup_nil, List.nodup_cons, List.mem_cons, List.not_mem_nil, or_false, not_false_eq_true, List.drop_succ_cons, List.drop_zero,  wAug, wRepL, wCatO, wCatF, wKeys, wItemsK, bName, bNames, retD, ctD, vd, itemsD, isDict, List.getElem?_cons_zero, List.getElem?_cons_succ, List.set_cons_zero, List.set_cons_succ, List.cons_append, List.nil_append, List.append_nil, List.replicate_succ, List.replicate_zero, List.map_cons, List.map_nil, List.length_cons, List.length_nil, List.zip_cons_cons, List.zip_nil_right, List.zip_nil_left, List.foldl_cons, List.foldl_nil, wipeE, backE, List.getD_cons_zero, List.getD_cons_succ, outsOf, keepPin, List.range_succ, List.range_zero, exS, at0, at1, at2, at3, at4, ix0, ix1, ix2, if_true, if_false, true_and, and_true, Bool.false_eq_true, reduceCtorEq, eqvI, eqvS, eqvB, scalI, scalS, scalB, true_or, decide_eq_true_eq, Bool.not_true, Bool.not_false, Bool.not_eq_true, isi_none_int, isi_none_bool, isi_none_str, isi_none_tuple, isi_none_list, isi_none_dict, isi_bool_int, isi_bool_bool, isi_bool_str, isi_bool_tuple, isi_bool_list, isi_bool_dict, isi_int_int, isi_int_bool, isi_int_str, isi_int_tuple, isi_int_list, isi_int_dict, isi_str_int, isi_str_bool, isi_str_str, isi_str_tuple, isi_str_list, isi_str_dict, isi_list_int, isi_list_bool, isi_list_str, isi_list_tuple, isi_list_list, isi_list_dict, isi_tuple_int, isi_tuple_bool, isi_tuple_str, isi_tuple_tuple, isi_tuple_list, isi_tuple_dict, isi_dict_int, isi_dict_bool, isi_dict_str, isi_dict_tuple, isi_dict_list, isi_dict_dict]
  by_cases hv : v = 0
  · rw [if_pos hv]
    by_cases hpg : page < 99999
    · rw [if_pos hpg]
      refine ⟨by decide, small_lt (by simp; omega), ?_⟩
      have ea : es.map ent ++ [.tuple [.int 99999, .int 0, .int 7]] = (es ++ [(99999, 0, 7)]).map ent := by rw [List.map_append]; rfl
      rw [ea]
      refine fin (es ++ [(99999, 0, 7)]) ds3 page _ _ (by simp; omega) (up_snoc up fun x hx => ?_) (fun e he => ?_) h3
      · have := hp x hx
        show x.1 < 99999
        omega
      · rcases List.mem_append.mp he with he | he
        · exact rg e he
        · simp at he; subst he; decide
    · rw [if_neg hpg]
      exact fin es ds3 page _ _ (by omega) up rg h3
  · rw [if_neg hv]
    exact fin es ds3 page _ _ (by omega) up rg h3

end K23

namespace K23
open PySem PySem.Spec PyProof.Rows L2 G
/-! ### drawn cores and guests -/
def PotOk (es : List (Key × D)) : Prop := ∃ z : Int, es = [(.inr "left", .int z)]
def sp__law_core : Nat → Spc
  | 0 => fun _ _ => False
  | n + 1 => fun as R => ∃ (ds : List D) (c : Nat) (pot : List (Key × D)) (deep : Nat), as = [.o true (.l ds), .o true (.k pot), .d (.int deep)] ∧ Hd c ds ∧ c + 3000 * 5 ^ deep ≤ 2 ^ 38 ∧ PotOk pot ∧ 2 * deep ≤ n ∧
    ∀ (cd : Cd) (gs : Fin 4 → Gst) (ds' : List D) (pot' : List (Key × D)), cd.Ok gs → (∀ k, (gs k).Ok) → (∀ k, (gs k).Le deep) → Hd (c + 3000 * 5 ^ deep) ds' → PotOk pot' → R (.fz (coreD cd gs)) [.o true (.l ds'), .o true (.k pot'), .no]
theorem len__law_core (n : Nat) : ∀ as R, sp__law_core n as R → as.length = 3 := fun as R h => by
  cases n with
  | zero => exact h.elim
  | succ n => obtain ⟨ds, c, pot, deep, e, _⟩ := h; rw [e]; rfl
theorem zero__law_core {as : En} {R : RetV → En → Prop} (h : sp__law_core 0 as R) : False := h
def sp__law_guest : Nat → Spc
  | 0 => fun _ _ => False
  | n + 1 => fun as R => ∃ (ds : List D) (c : Nat) (pot : List (Key × D)) (deep : Nat), as = [.o true (.l ds), .o true (.k pot), .d (.int deep)] ∧ Hd c ds ∧ c + 3000 * 5 ^ deep + 100 ≤ 2 ^ 38 ∧ PotOk pot ∧ 2 * deep + 1 ≤ n ∧
    ∀ (g : Gst) (ds' : List D) (pot' : List (Key × D)), g ≠ .no → g.Ok → g.Le (deep + 1) → Hd (c + 3000 * 5 ^ deep + 100) ds' → PotOk pot' → R (.fz (gD g)) [.o true (.l ds'), .o true (.k pot'), .no]
theorem len__law_guest (n : Nat) : ∀ as R, sp__law_guest n as R → as.length = 3 := fun as R h => by
  cases n with
  | zero => exact h.elim
  | succ n => obtain ⟨ds, c, pot, deep, e, _⟩ := h; rw [e]; rfl
theorem zero__law_guest {as : En} {R : RetV → En → Prop} (h : sp__law_guest 0 as R) : False := h
def w__law_core_L1_1 (n : Nat) : WS := (wDrop (wAppend 6 (wIf (wBool (wName 9)) (wCallM (sp__law_guest n) (wmS 0 (wmS 1 (wmD (wOp (fI0 fun i j => .int (i - j)) (wName 2) (wC (.int 1))) wmNil)))) (wC .none))))
theorem w__law_core_L1_1_e (n : Nat) (E : VD) (ρ : En) : w__law_core_L1_1 n E ρ = (wDrop (wAppend 6 (wIf (wBool (wName 9)) (wCallM (sp__law_guest n) (wmS 0 (wmS 1 (wmD (wOp (fI0 fun i j => .int (i - j)) (wName 2) (wC (.int 1))) wmNil)))) (wC .none)))) E ρ := rfl
def w__law_core_L1_0 (n : Nat) : WS := (wSeq (wSet 9 (wAndV (wOp (fI0 fun i j => .bool (decide (j < i))) (wName 2) (wC (.int 0))) (wAndV (wOp (fI0 fun i j => .bool (decide (j < i))) (wAt 1 fIx (wC (.str "left"))) (wC (.int 0))) (wOp fEq (wCallIo 0 sp__law_take (wCons (wC (.int 2)) wNil)) (wC (.int 0))))))
    (w__law_core_L1_1 n))
theorem w__law_core_L1_0_e (n : Nat) (E : VD) (ρ : En) : w__law_core_L1_0 n E ρ = (wSeq (wSet 9 (wAndV (wOp (fI0 fun i j => .bool (decide (j < i))) (wName 2) (wC (.int 0))) (wAndV (wOp (fI0 fun i j => .bool (decide (j < i))) (wAt 1 fIx (wC (.str "left"))) (wC (.int 0))) (wOp fEq (wCallIo 0 sp__law_take (wCons (wC (.int 2)) wNil)) (wC (.int 0))))))
    (w__law_core_L1_1 n)) E ρ := rfl
def w__law_core_4 (n : Nat) : WS := (wRet (wTup (wCons (wName 5) (wCons (wName 7) (wCons (wName 8) (wCons (wC1 fTup (wPeek 6)) (wCons (wIf (wBool (wOp fEq (wCallIo 0 sp__law_take (wCons (wC (.int 2)) wNil)) (wC (.int 0)))) (wAt 4 fIx (wNeg (wC (.int 1)))) (wCallIo 0 sp__law_of (wCons (wName 4) wNil))) wNil)))))))
theorem w__law_core_4_e (n : Nat) (E : VD) (ρ : En) : w__law_core_4 n E ρ = (wRet (wTup (wCons (wName 5) (wCons (wName 7) (wCons (wName 8) (wCons (wC1 fTup (wPeek 6)) (wCons (wIf (wBool (wOp fEq (wCallIo 0 sp__law_take (wCons (wC (.int 2)) wNil)) (wC (.int 0)))) (wAt 4 fIx (wNeg (wC (.int 1)))) (wCallIo 0 sp__law_of (wCons (wName 4) wNil))) wNil))))))) E ρ := rfl
def w__law_core_3 (n : Nat) : WS := (wSeq (wSetF 4 (wCatF (wLst (wCons (wC .none) wNil)) (wLc [3] (wRng1 (wC (.int 4))) (bName 3) (wBool (wOp fIsNot (wAt 6 fIx (wName 3)) (wC .none))) (wName 3))))
    (w__law_core_4 n))
theorem w__law_core_3_e (n : Nat) (E : VD) (ρ : En) : w__law_core_3 n E ρ = (wSeq (wSetF 4 (wCatF (wLst (wCons (wC .none) wNil)) (wLc [3] (wRng1 (wC (.int 4))) (bName 3) (wBool (wOp fIsNot (wAt 6 fIx (wName 3)) (wC .none))) (wName 3))))
    (w__law_core_4 n)) E ρ := rfl
def w__law_core_2 (n : Nat) : WS := (wSeq (wFor (wRng1 (wC (.int 4))) (bName 3) (w__law_core_L1_0 n))
    (w__law_core_3 n))
theorem w__law_core_2_e (n : Nat) (E : VD) (ρ : En) : w__law_core_2 n E ρ = (wSeq (wFor (wRng1 (wC (.int 4))) (bName 3) (w__law_core_L1_0 n))
    (w__law_core_3 n)) E ρ := rfl
def w__law_core_1 (n : Nat) : WS := (wSeq (wPar 7 8 (wCons (wCallIo 0 sp__law_word wNil) (wCons (wCallIo 0 sp__law_of (wCons (wFz (wLst (wCons (wC (.int 0)) (wCons (wCallIo 0 sp__law_take (wCons (wC (.int 1000)) wNil)) (wCons (wOp fAdd (wOp (fI CPow fun i j => .int (i ^ j.toNat)) (wC (.int 10)) (wC (.int 11))) (wC (.int 7))) wNil))))) wNil)) wNil)))
    (w__law_core_2 n))
theorem w__law_core_1_e (n : Nat) (E : VD) (ρ : En) : w__law_core_1 n E ρ = (wSeq (wPar 7 8 (wCons (wCallIo 0 sp__law_word wNil) (wCons (wCallIo 0 sp__law_of (wCons (wFz (wLst (wCons (wC (.int 0)) (wCons (wCallIo 0 sp__law_take (wCons (wC (.int 1000)) wNil)) (wCons (wOp fAdd (wOp (fI CPow fun i j => .int (i ^ j.toNat)) (wC (.int 10)) (wC (.int 11))) (wC (.int 7))) wNil))))) wNil)) wNil)))
    (w__law_core_2 n)) E ρ := rfl
def w__law_core_0 (n : Nat) : WS := (wSeq (wParM [5, 6] (wmD (wC1 fTup (wFz (wLc [10] (wRng1 (wC (.int 8))) (bName 10) wYes (wCallIo 0 sp__law_word wNil)))) (wmF (wLst wNil) wmNil)))
    (w__law_core_1 n))
theorem w__law_core_0_e (n : Nat) (E : VD) (ρ : En) : w__law_core_0 n E ρ = (wSeq (wParM [5, 6] (wmD (wC1 fTup (wFz (wLc [10] (wRng1 (wC (.int 8))) (bName 10) wYes (wCallIo 0 sp__law_word wNil)))) (wmF (wLst wNil) wmNil)))
    (w__law_core_1 n)) E ρ := rfl
def w__law_core (n : Nat) : WS := (w__law_core_0 n)
def Bd__law_core : Prop := ∀ n, Body 3 8 (w__law_core n) (sp__law_core (n + 1))
def w__law_guest_2 (n : Nat) : WS := (wRet (wTup (wCons (wName 3) (wCons (wCallIo 0 sp__law_table wNil) (wCons (wCallIo 0 sp__law_of (wCons (wFz (wLst (wCons (wC (.str "own")) (wCons (wC (.str "true")) wNil)))) wNil)) (wCons (wCallIo 0 sp__law_of (wCons (wFz (wLst (wCons (wC .none) (wCons (wC (.int 0)) (wCons (wC (.int 1)) (wCons (wCallIo 0 sp__law_word wNil) wNil)))))) wNil)) wNil))))))
theorem w__law_guest_2_e (n : Nat) (E : VD) (ρ : En) : w__law_guest_2 n E ρ = (wRet (wTup (wCons (wName 3) (wCons (wCallIo 0 sp__law_table wNil) (wCons (wCallIo 0 sp__law_of (wCons (wFz (wLst (wCons (wC (.str "own")) (wCons (wC (.str "true")) wNil)))) wNil)) (wCons (wCallIo 0 sp__law_of (wCons (wFz (wLst (wCons (wC .none) (wCons (wC (.int 0)) (wCons (wC (.int 1)) (wCons (wCallIo 0 sp__law_word wNil) wNil)))))) wNil)) wNil)))))) E ρ := rfl
def w__law_guest_1 (n : Nat) : WS := (wSeq (wSet 3 (wCallM (sp__law_core n) (wmS 0 (wmS 1 (wmD (wName 2) wmNil)))))
    (w__law_guest_2 n))
theorem w__law_guest_1_e (n : Nat) (E : VD) (ρ : En) : w__law_guest_1 n E ρ = (wSeq (wSet 3 (wCallM (sp__law_core n) (wmS 0 (wmS 1 (wmD (wName 2) wmNil)))))
    (w__law_guest_2 n)) E ρ := rfl
def w__law_guest_0 (n : Nat) : WS := (wSeq (wPut 1 (wC (.str "left")) (wOp (fI0 fun i j => .int (i - j)) (wAt 1 fIx (wC (.str "left"))) (wC (.int 1))))
    (w__law_guest_1 n))
theorem w__law_guest_0_e (n : Nat) (E : VD) (ρ : En) : w__law_guest_0 n E ρ = (wSeq (wPut 1 (wC (.str "left")) (wOp (fI0 fun i j => .int (i - j)) (wAt 1 fIx (wC (.str "left"))) (wC (.int 1))))
    (w__law_guest_1 n)) E ρ := rfl
def w__law_guest (n : Nat) : WS := (w__law_guest_0 n)
def Bd__law_guest : Prop := ∀ n, Body 3 1 (w__law_guest n) (sp__law_guest (n + 1))
theorem look_left (z : Int) : lookD [(kD (.inr "left"), .int z)] (.inr "left") = some (.int z) := by simp [lookD, kD, dKey]
theorem words_comp {k : List D → En → Prop} {b : Bool} {tail : En} {j : Nat} (hw : tail.set j .no = tail) {C : Nat} (hC : C ≤ 2 ^ 39) : ∀ (its : List D) (acc : List Int) (ds : List D) (c : Nat), Hd c ds → c + 3 * its.length ≤ C → (∀ w ∈ acc, Wd w) →
    (∀ (ws : List Int) (ds' : List D), ws.length = acc.length + its.length → (∀ w ∈ ws, Wd w) → Hd C ds' → k (ws.map .int) (.o b (.l ds') :: tail)) →
    compL [j + 1] (bName (j + 1)) wYes (wCallIo 0 sp__law_word wNil) its (acc.map .int) (.o b (.l ds) :: tail) k
  | [], acc, ds, c, hd, hc, ha, k => k acc ds (by simp) ha (hd.mono (by simpa using hc))
  | it :: its, acc, ds, c, hd, hc, ha, k => by
    rw [List.length_cons] at hc
    unfold compL
    simp only [wSeq, wNext, wIfS, wBool, wOp, wAt, wPeek, wName, wC, fIx, wChain, wAndT, wOrT, wNotT, wAndV, wOrV, wNotV, wIf, wNil, wCons, wTup, wLst, wDNew, wFz, fI, fI0, fEq, fNe, fIsN, fIsNot, fAdd, fIn, wC1, wC1F, fLen, fTup, fList, fInt, fAbs, wSlT, wSlL, wNoPart, wPart, wDrop, wRet, wRetF, wRetO, wSet, wSetF, wSetT, wPar, wPut, wBreak, wCont, wItems, wRng1, wRng2, wZip, wEnum, wEnumA, wRev, wFor, wWhile, wLc, wDc, wYes, wCall, wCallF, wCallK, wCallIo, wIsi, wNeg, wGetN, wGetE, wPop2, wAppend, wStar, seqD, fRepT, wDisp, wpCons, wpNil, keysD, dKey, wExtF, fStrI, wCallM, wCallMF, wmNil, wmD, wmS, wmF, avIx, avSls, avSl, avBack, avSet, wParM, List.nodup_nil, List.nodup_cons, List.mem_cons, List.not_mem_nil, or_false, not_false_eq_true, List.drop_succ_cons, List.drop_zero,  wAug, wRepL, wCatO, wCatF, wKeys, wItemsK, bName, bNames, retD, ctD, vd, itemsD, isDict, List.getElem?_cons_zero, List.getElem?_cons_succ, List.set_cons_zero, List.set_cons_succ, List.cons_append, List.nil_append, List.append_nil, List.replicate_succ, List.replicate_zero, List.map_cons, List.map_nil, List.length_cons, List.length_nil, List.zip_cons_cons, List.zip_nil_right, List.zip_nil_left, List.foldl_cons, List.foldl_nil, wipeE, backE, List.getD_cons_zero, List.getD_cons_succ, outsOf, keepPin, List.range_succ, List.range_zero, exS, at0, at1, at2, at3, at4, ix0, ix1, ix2, if_true, if_false, true_and, and_true, Bool.false_eq_true, reduceCtorEq, eqvI, eqvS, eqvB, scalI, scalS, scalB, true_or, decide_eq_true_eq, Bool.not_true, Bool.not_false, Bool.not_eq_true, isi_none_int, isi_none_bool, isi_none_str, isi_none_tuple, isi_none_list, isi_none_dict, isi_bool_int, isi_bool_bool, isi_bool_str, isi_bool_tuple, isi_bool_list, isi_bool_dict, isi_int_int, isi_int_bool, isi_int_str, isi_int_tuple, isi_int_list, isi_int_dict, isi_str_int, isi_str_bool, isi_str_str, isi_str_tuple, isi_str_list, isi_str_dict, isi_list_int, isi_list_bool, isi_list_str, isi_list_tuple, isi_list_list, isi_list_dict, isi_tuple_int, isi_tuple_bool, isi_tuple_str, isi_tuple_tuple, isi_tuple_list, isi_tuple_dict, isi_dict_int, isi_dict_bool, isi_dict_str, isi_dict_tuple, isi_dict_list, isi_dict_dict]
    refine ⟨ds, c, rfl, hd, by omega, fun v ds1 hv h1 => ?_⟩
    simp only [wSeq, wNext, wIfS, wBool, wOp, wAt, wPeek, wName, wC, fIx, wChain, wAndT, wOrT, wNotT, wAndV, wOrV, wNotV, wIf, wNil, wCons, wTup, wLst, wDNew, wFz, fI, fI0, fEq, fNe, fIsN, fIsNot, fAdd, fIn, wC1, wC1F, fLen, fTup, fList, fInt, fAbs, wSlT, wSlL, wNoPart, wPart, wDrop, wRet, wRetF, wRetO, wSet, wSetF, wSetT, wPar, wPut, wBreak, wCont, wItems, wRng1, wRng2, wZip, wEnum, wEnumA, wRev, wFor, wWhile, wLc, wDc, wYes, wCall, wCallF, wCallK, wCallIo, wIsi, wNeg, wGetN, wGetE, wPop2, wAppend, wStar, seqD, fRepT, wDisp, wpCons, wpNil, keysD, dKey, wExtF, fStrI, wCallM, wCallMF, wmNil, wmD, wmS, wmF, avIx, avSls, avSl, avBack, avSet, wParM, List.nodup_nil, List.nodup_cons, List.mem_cons, List.not_mem_nil, or_false, not_false_eq_true, List.drop_succ_cons, List.drop_zero,  wAug, wRepL, wCatO, wCatF, wKeys, wItemsK, bName, bNames, retD, ctD, vd, itemsD, isDict, List.getElem?_cons_zero, List.getElem?_cons_succ, List.set_cons_zero, List.set_cons_succ, List.cons_append, List.nil_append, List.append_nil, List.replicate_succ, List.replicate_zero, List.map_cons, List.map_nil, List.length_cons, List.length_nil, List.zip_cons_cons, List.zip_nil_right, List.zip_nil_left, List.foldl_cons, List.foldl_nil, wipeE, backE, List.getD_cons_zero, List.getD_cons_succ, outsOf, keepPin, List.range_succ, List.range_zero, exS, at0, at1, at2, at3, at4, ix0, ix1, ix2, if_true, if_false, true_and, and_true, Bool.false_eq_true, reduceCtorEq, eqvI, eqvS, eqvB, scalI, scalS, scalB, true_or, decide_eq_true_eq, Bool.not_true, Bool.not_false, Bool.not_eq_true, isi_none_int, isi_none_bool, isi_none_str, isi_none_tuple, isi_none_list, isi_none_dict, isi_bool_int, isi_bool_bool, isi_bool_str, isi_bool_tuple, isi_bool_list, isi_bool_dict, isi_int_int, isi_int_bool, isi_int_str, isi_int_tuple, isi_int_list, isi_int_dict, isi_str_int, isi_str_bool, isi_str_str, isi_str_tuple, isi_str_list, isi_str_dict, isi_list_int, isi_list_bool, isi_list_str, isi_list_tuple, isi_list_list, isi_list_dict, isi_tuple_int, isi_tuple_bool, isi_tuple_str, isi_tuple_tuple, isi_tuple_list, isi_tuple_dict, isi_dict_int, isi_dict_bool, isi_dict_str, isi_dict_tuple, isi_dict_list, isi_dict_dict, List.set_set, hw]
    have ea : acc.map PyData.int ++ [.int v] = (acc ++ [v]).map .int := by simp
    rw [ea]
    refine words_comp hw hC its (acc ++ [v]) ds1 _ h1 (by omega) (fun w h => ?_) fun ws ds' hl => k ws ds' (by rw [hl]; simp; omega)
    rcases List.mem_append.mp h with h | h
    · exact ha w h
    · simp at h; subst h; exact hv
theorem of2 {a b x : D} (h : x ∈ [a, b]) : x = a ∨ x = b := by simpa using h
theorem ways_of {x : D} (h : x ∈ [PyData.str "own", PyData.str "true"]) : ∃ w, x = wayD w := by
  rcases of2 h with rfl | rfl
  · exact ⟨false, rfl⟩
  · exact ⟨true, rfl⟩
theorem body__law_guest : Bd__law_guest := by
  intro n as R h
  obtain ⟨ds, c, pot, deep, rfl, hd, hc, ⟨z, rfl⟩, hn, k⟩ := h
  unfold w__law_guest
  simp only [w__law_guest_0_e, wSeq, wNext, wIfS, wBool, wOp, wAt, wPeek, wName, wC, fIx, wChain, wAndT, wOrT, wNotT, wAndV, wOrV, wNotV, wIf, wNil, wCons, wTup, wLst, wDNew, wFz, fI, fI0, fEq, fNe, fIsN, fIsNot, fAdd, fIn, wC1, wC1F, fLen, fTup, fList, fInt, fAbs, wSlT, wSlL, wNoPart, wPart, wDrop, wRet, wRetF, wRetO, wSet, wSetF, wSetT, wPar, wPut, wBreak, wCont, wItems, wRng1, wRng2, wZip, wEnum, wEnumA, wRev, wFor, wWhile, wLc, wDc, wYes, wCall, wCallF, wCallK, wCallIo, wIsi, wNeg, wGetN, wGetE, wPop2, wAppend, wStar, seqD, fRepT, wDisp, wpCons, wpNil, keysD, dKey, wExtF, fStrI, wCallM, wCallMF, wmNil, wmD, wmS, wmF, avIx, avSls, avSl, avBack, avSet, wParM, List.nodup_nil, List.nodup_cons, List.mem_cons, List.not_mem_nil, or_false, not_false_eq_true, List.drop_succ_cons, List.drop_zero,  wAug, wRepL, wCatO, wCatF, wKeys, wItemsK, bName, bNames, retD, ctD, vd, itemsD, isDict, List.getElem?_cons_zero, List.getElem?_cons_succ, List.set_cons_zero, List.set_cons_succ, List.cons_append, List.nil_append, List.append_nil, List.replicate_succ, List.replicate_zero, List.map_cons, List.map_nil, List.length_cons, List.length_nil, List.zip_cons_cons, List.zip_nil_right, List.zip_nil_left, List.foldl_cons, List.foldl_nil, wipeE, backE, List.getD_cons_zero, List.getD_cons_succ, outsOf, keepPin, List.range_succ, List.range_zero, exS, at0, at1, at2, at3, at4, ix0, ix1, ix2, if_true, if_false, true_and, and_true, Bool.false_eq_true, reduceCtorEq, eqvI, eqvS, eqvB, scalI, scalS, scalB, true_or, decide_eq_true_eq, Bool.not_true, Bool.not_false, Bool.not_eq_true, isi_none_int, isi_none_bool, isi_none_str, isi_none_tuple, isi_none_list, isi_none_dict, isi_bool_int, isi_bool_bool, isi_bool_str, isi_bool_tuple, isi_bool_list, isi_bool_dict, isi_int_int, isi_int_bool, isi_int_str, isi_int_tuple, isi_int_list, isi_int_dict, isi_str_int, isi_str_bool, isi_str_str, isi_str_tuple, isi_str_list, isi_str_dict, isi_list_int, isi_list_bool, isi_list_str, isi_list_tuple, isi_list_list, isi_list_dict, isi_tuple_int, isi_tuple_bool, isi_tuple_str, isi_tuple_tuple, isi_tuple_list, isi_tuple_dict, isi_dict_int, isi_dict_bool, isi_dict_str, isi_dict_tuple, isi_dict_list, isi_dict_dict]
  refine ⟨_, _, rfl, look_left z, ?_⟩
  simp only [wSeq, wNext, wIfS, wBool, wOp, wAt, wPeek, wName, wC, fIx, wChain, wAndT, wOrT, wNotT, wAndV, wOrV, wNotV, wIf, wNil, wCons, wTup, wLst, wDNew, wFz, fI, fI0, fEq, fNe, fIsN, fIsNot, fAdd, fIn, wC1, wC1F, fLen, fTup, fList, fInt, fAbs, wSlT, wSlL, wNoPart, wPart, wDrop, wRet, wRetF, wRetO, wSet, wSetF, wSetT, wPar, wPut, wBreak, wCont, wItems, wRng1, wRng2, wZip, wEnum, wEnumA, wRev, wFor, wWhile, wLc, wDc, wYes, wCall, wCallF, wCallK, wCallIo, wIsi, wNeg, wGetN, wGetE, wPop2, wAppend, wStar, seqD, fRepT, wDisp, wpCons, wpNil, keysD, dKey, wExtF, fStrI, wCallM, wCallMF, wmNil, wmD, wmS, wmF, avIx, avSls, avSl, avBack, avSet, wParM, List.nodup_nil, List.nodup_cons, List.mem_cons, List.not_mem_nil, or_false, not_false_eq_true, List.drop_succ_cons, List.drop_zero,  wAug, wRepL, wCatO, wCatF, wKeys, wItemsK, bName, bNames, retD, ctD, vd, itemsD, isDict, List.getElem?_cons_zero, List.getElem?_cons_succ, List.set_cons_zero, List.set_cons_succ, List.cons_append, List.nil_append, List.append_nil, List.replicate_succ, List.replicate_zero, List.map_cons, List.map_nil, List.length_cons, List.length_nil, List.zip_cons_cons, List.zip_nil_right, List.zip_nil_left, List.foldl_cons, List.foldl_nil, wipeE, backE, List.getD_cons_zero, List.getD_cons_succ, outsOf, keepPin, List.range_succ, List.range_zero, exS, at0, at1, at2, at3, at4, ix0, ix1, ix2, if_true, if_false, true_and, and_true, Bool.false_eq_true, reduceCtorEq, eqvI, eqvS, eqvB, scalI, scalS, scalB, true_or, decide_eq_true_eq, Bool.not_true, Bool.not_false, Bool.not_eq_true, isi_none_int, isi_none_bool, isi_none_str, isi_none_tuple, isi_none_list, isi_none_dict, isi_bool_int, isi_bool_bool, isi_bool_str, isi_bool_tuple, isi_bool_list, isi_bool_dict, isi_int_int, isi_int_bool, isi_int_str, isi_int_tuple, isi_int_list, isi_int_dict, isi_str_int, isi_str_bool, isi_str_str, isi_str_tuple, isi_str_list, isi_str_dict, isi_list_int, isi_list_bool, isi_list_str, isi_list_tuple, isi_list_list, isi_list_dict, isi_tuple_int, isi_tuple_bool, isi_tuple_str, isi_tuple_tuple, isi_tuple_list, isi_tuple_dict, isi_dict_int, isi_dict_bool, isi_dict_str, isi_dict_tuple, isi_dict_list, isi_dict_dict]
  refine ⟨by decide, ?_⟩
  simp only [w__law_guest_1_e, wSeq, wNext, wIfS, wBool, wOp, wAt, wPeek, wName, wC, fIx, wChain, wAndT, wOrT, wNotT, wAndV, wOrV, wNotV, wIf, wNil, wCons, wTup, wLst, wDNew, wFz, fI, fI0, fEq, fNe, fIsN, fIsNot, fAdd, fIn, wC1, wC1F, fLen, fTup, fList, fInt, fAbs, wSlT, wSlL, wNoPart, wPart, wDrop, wRet, wRetF, wRetO, wSet, wSetF, wSetT, wPar, wPut, wBreak, wCont, wItems, wRng1, wRng2, wZip, wEnum, wEnumA, wRev, wFor, wWhile, wLc, wDc, wYes, wCall, wCallF, wCallK, wCallIo, wIsi, wNeg, wGetN, wGetE, wPop2, wAppend, wStar, seqD, fRepT, wDisp, wpCons, wpNil, keysD, dKey, wExtF, fStrI, wCallM, wCallMF, wmNil, wmD, wmS, wmF, avIx, avSls, avSl, avBack, avSet, wParM, List.nodup_nil, List.nodup_cons, List.mem_cons, List.not_mem_nil, or_false, not_false_eq_true, List.drop_succ_cons, List.drop_zero,  wAug, wRepL, wCatO, wCatF, wKeys, wItemsK, bName, bNames, retD, ctD, vd, itemsD, isDict, List.getElem?_cons_zero, List.getElem?_cons_succ, List.set_cons_zero, List.set_cons_succ, List.cons_append, List.nil_append, List.append_nil, List.replicate_succ, List.replicate_zero, List.map_cons, List.map_nil, List.length_cons, List.length_nil, List.zip_cons_cons, List.zip_nil_right, List.zip_nil_left, List.foldl_cons, List.foldl_nil, wipeE, backE, List.getD_cons_zero, List.getD_cons_succ, outsOf, keepPin, List.range_succ, List.range_zero, exS, at0, at1, at2, at3, at4, ix0, ix1, ix2, if_true, if_false, true_and, and_true, Bool.false_eq_true, reduceCtorEq, eqvI, eqvS, eqvB, scalI, scalS, scalB, true_or, decide_eq_true_eq, Bool.not_true, Bool.not_false, Bool.not_eq_true, isi_none_int, isi_none_bool, isi_none_str, isi_none_tuple, isi_none_list, isi_none_dict, isi_bool_int, isi_bool_bool, isi_bool_str, isi_bool_tuple, isi_bool_list, isi_bool_dict, isi_int_int, isi_int_bool, isi_int_str, isi_int_tuple, isi_int_list, isi_int_dict, isi_str_int, isi_str_bool, isi_str_str, isi_str_tuple, isi_str_list, isi_str_dict, isi_list_int, isi_list_bool, isi_list_str, isi_list_tuple, isi_list_list, isi_list_dict, isi_tuple_int, isi_tuple_bool, isi_tuple_str, isi_tuple_tuple, isi_tuple_list, isi_tuple_dict, isi_dict_int, isi_dict_bool, isi_dict_str, isi_dict_tuple, isi_dict_list, isi_dict_dict]
  have hp : PotOk (putE [(.inr "left", .int z)] (.inr "left") (.int (z - 1))) := ⟨z - 1, by unfold putE; simp⟩
  generalize putE [(.inr "left", .int z)] (.inr "left") (.int (z - 1)) = pot at hp
  cases n with
  | zero => omega
  | succ n =>
  refine ⟨ds, c, pot, deep, rfl, hd, by omega, hp, by omega, fun cd gs ds1 pot1 ok oks hle h1 hp1 => ?_⟩
  simp only [wSeq, wNext, wIfS, wBool, wOp, wAt, wPeek, wName, wC, fIx, wChain, wAndT, wOrT, wNotT, wAndV, wOrV, wNotV, wIf, wNil, wCons, wTup, wLst, wDNew, wFz, fI, fI0, fEq, fNe, fIsN, fIsNot, fAdd, fIn, wC1, wC1F, fLen, fTup, fList, fInt, fAbs, wSlT, wSlL, wNoPart, wPart, wDrop, wRet, wRetF, wRetO, wSet, wSetF, wSetT, wPar, wPut, wBreak, wCont, wItems, wRng1, wRng2, wZip, wEnum, wEnumA, wRev, wFor, wWhile, wLc, wDc, wYes, wCall, wCallF, wCallK, wCallIo, wIsi, wNeg, wGetN, wGetE, wPop2, wAppend, wStar, seqD, fRepT, wDisp, wpCons, wpNil, keysD, dKey, wExtF, fStrI, wCallM, wCallMF, wmNil, wmD, wmS, wmF, avIx, avSls, avSl, avBack, avSet, wParM, List.nodup_nil, List.nodup_cons, List.mem_cons, List.not_mem_nil, or_false, not_false_eq_true, List.drop_succ_cons, List.drop_zero,  wAug, wRepL, wCatO, wCatF, wKeys, wItemsK, bName, bNames, retD, ctD, vd, itemsD, isDict, List.getElem?_cons_zero, List.getElem?_cons_succ, List.set_cons_zero, List.set_cons_succ, List.cons_append, List.nil_append, List.append_nil, List.replicate_succ, List.replicate_zero, List.map_cons, List.map_nil, List.length_cons, List.length_nil, List.zip_cons_cons, List.zip_nil_right, List.zip_nil_left, List.foldl_cons, List.foldl_nil, wipeE, backE, List.getD_cons_zero, List.getD_cons_succ, outsOf, keepPin, List.range_succ, List.range_zero, exS, at0, at1, at2, at3, at4, ix0, ix1, ix2, if_true, if_false, true_and, and_true, Bool.false_eq_true, reduceCtorEq, eqvI, eqvS, eqvB, scalI, scalS, scalB, true_or, decide_eq_true_eq, Bool.not_true, Bool.not_false, Bool.not_eq_true, isi_none_int, isi_none_bool, isi_none_str, isi_none_tuple, isi_none_list, isi_none_dict, isi_bool_int, isi_bool_bool, isi_bool_str, isi_bool_tuple, isi_bool_list, isi_bool_dict, isi_int_int, isi_int_bool, isi_int_str, isi_int_tuple, isi_int_list, isi_int_dict, isi_str_int, isi_str_bool, isi_str_str, isi_str_tuple, isi_str_list, isi_str_dict, isi_list_int, isi_list_bool, isi_list_str, isi_list_tuple, isi_list_list, isi_list_dict, isi_tuple_int, isi_tuple_bool, isi_tuple_str, isi_tuple_tuple, isi_tuple_list, isi_tuple_dict, isi_dict_int, isi_dict_bool, isi_dict_str, isi_dict_tuple, isi_dict_list, isi_dict_dict]
  simp only [w__law_guest_2_e, wSeq, wNext, wIfS, wBool, wOp, wAt, wPeek, wName, wC, fIx, wChain, wAndT, wOrT, wNotT, wAndV, wOrV, wNotV, wIf, wNil, wCons, wTup, wLst, wDNew, wFz, fI, fI0, fEq, fNe, fIsN, fIsNot, fAdd, fIn, wC1, wC1F, fLen, fTup, fList, fInt, fAbs, wSlT, wSlL, wNoPart, wPart, wDrop, wRet, wRetF, wRetO, wSet, wSetF, wSetT, wPar, wPut, wBreak, wCont, wItems, wRng1, wRng2, wZip, wEnum, wEnumA, wRev, wFor, wWhile, wLc, wDc, wYes, wCall, wCallF, wCallK, wCallIo, wIsi, wNeg, wGetN, wGetE, wPop2, wAppend, wStar, seqD, fRepT, wDisp, wpCons, wpNil, keysD, dKey, wExtF, fStrI, wCallM, wCallMF, wmNil, wmD, wmS, wmF, avIx, avSls, avSl, avBack, avSet, wParM, List.nodup_nil, List.nodup_cons, List.mem_cons, List.not_mem_nil, or_false, not_false_eq_true, List.drop_succ_cons, List.drop_zero,  wAug, wRepL, wCatO, wCatF, wKeys, wItemsK, bName, bNames, retD, ctD, vd, itemsD, isDict, List.getElem?_cons_zero, List.getElem?_cons_succ, List.set_cons_zero, List.set_cons_succ, List.cons_append, List.nil_append, List.append_nil, List.replicate_succ, List.replicate_zero, List.map_cons, List.map_nil, List.length_cons, List.length_nil, List.zip_cons_cons, List.zip_nil_right, List.zip_nil_left, List.foldl_cons, List.foldl_nil, wipeE, backE, List.getD_cons_zero, List.getD_cons_succ, outsOf, keepPin, List.range_succ, List.range_zero, exS, at0, at1, at2, at3, at4, ix0, ix1, ix2, if_true, if_false, true_and, and_true, Bool.false_eq_true, reduceCtorEq, eqvI, eqvS, eqvB, scalI, scalS, scalB, true_or, decide_eq_true_eq, Bool.not_true, Bool.not_false, Bool.not_eq_true, isi_none_int, isi_none_bool, isi_none_str, isi_none_tuple, isi_none_list, isi_none_dict, isi_bool_int, isi_bool_bool, isi_bool_str, isi_bool_tuple, isi_bool_list, isi_bool_dict, isi_int_int, isi_int_bool, isi_int_str, isi_int_tuple, isi_int_list, isi_int_dict, isi_str_int, isi_str_bool, isi_str_str, isi_str_tuple, isi_str_list, isi_str_dict, isi_list_int, isi_list_bool, isi_list_str, isi_list_tuple, isi_list_list, isi_list_dict, isi_tuple_int, isi_tuple_bool, isi_tuple_str, isi_tuple_tuple, isi_tuple_list, isi_tuple_dict, isi_dict_int, isi_dict_bool, isi_dict_str, isi_dict_tuple, isi_dict_list, isi_dict_dict]
  refine ⟨ds1, _, rfl, h1, by omega, fun es ds2 tk tl h2 => ?_⟩
  simp only [wSeq, wNext, wIfS, wBool, wOp, wAt, wPeek, wName, wC, fIx, wChain, wAndT, wOrT, wNotT, wAndV, wOrV, wNotV, wIf, wNil, wCons, wTup, wLst, wDNew, wFz, fI, fI0, fEq, fNe, fIsN, fIsNot, fAdd, fIn, wC1, wC1F, fLen, fTup, fList, fInt, fAbs, wSlT, wSlL, wNoPart, wPart, wDrop, wRet, wRetF, wRetO, wSet, wSetF, wSetT, wPar, wPut, wBreak, wCont, wItems, wRng1, wRng2, wZip, wEnum, wEnumA, wRev, wFor, wWhile, wLc, wDc, wYes, wCall, wCallF, wCallK, wCallIo, wIsi, wNeg, wGetN, wGetE, wPop2, wAppend, wStar, seqD, fRepT, wDisp, wpCons, wpNil, keysD, dKey, wExtF, fStrI, wCallM, wCallMF, wmNil, wmD, wmS, wmF, avIx, avSls, avSl, avBack, avSet, wParM, List.nodup_nil, List.nodup_cons, List.mem_cons, List.not_mem_nil, or_false, not_false_eq_true, List.drop_succ_cons, List.drop_zero,  wAug, wRepL, wCatO, wCatF, wKeys, wItemsK, bName, bNames, retD, ctD, vd, itemsD, isDict, List.getElem?_cons_zero, List.getElem?_cons_succ, List.set_cons_zero, List.set_cons_succ, List.cons_append, List.nil_append, List.append_nil, List.replicate_succ, List.replicate_zero, List.map_cons, List.map_nil, List.length_cons, List.length_nil, List.zip_cons_cons, List.zip_nil_right, List.zip_nil_left, List.foldl_cons, List.foldl_nil, wipeE, backE, List.getD_cons_zero, List.getD_cons_succ, outsOf, keepPin, List.range_succ, List.range_zero, exS, at0, at1, at2, at3, at4, ix0, ix1, ix2, if_true, if_false, true_and, and_true, Bool.false_eq_true, reduceCtorEq, eqvI, eqvS, eqvB, scalI, scalS, scalB, true_or, decide_eq_true_eq, Bool.not_true, Bool.not_false, Bool.not_eq_true, isi_none_int, isi_none_bool, isi_none_str, isi_none_tuple, isi_none_list, isi_none_dict, isi_bool_int, isi_bool_bool, isi_bool_str, isi_bool_tuple, isi_bool_list, isi_bool_dict, isi_int_int, isi_int_bool, isi_int_str, isi_int_tuple, isi_int_list, isi_int_dict, isi_str_int, isi_str_bool, isi_str_str, isi_str_tuple, isi_str_list, isi_str_dict, isi_list_int, isi_list_bool, isi_list_str, isi_list_tuple, isi_list_list, isi_list_dict, isi_tuple_int, isi_tuple_bool, isi_tuple_str, isi_tuple_tuple, isi_tuple_list, isi_tuple_dict, isi_dict_int, isi_dict_bool, isi_dict_str, isi_dict_tuple, isi_dict_list, isi_dict_dict]
  refine ⟨by decide, ds2, _, _, rfl, h2, by omega, by simp, by simp, fun x ds3 hx h3 => ?_⟩
  obtain ⟨w, rfl⟩ := ways_of hx
  simp only [wSeq, wNext, wIfS, wBool, wOp, wAt, wPeek, wName, wC, fIx, wChain, wAndT, wOrT, wNotT, wAndV, wOrV, wNotV, wIf, wNil, wCons, wTup, wLst, wDNew, wFz, fI, fI0, fEq, fNe, fIsN, fIsNot, fAdd, fIn, wC1, wC1F, fLen, fTup, fList, fInt, fAbs, wSlT, wSlL, wNoPart, wPart, wDrop, wRet, wRetF, wRetO, wSet, wSetF, wSetT, wPar, wPut, wBreak, wCont, wItems, wRng1, wRng2, wZip, wEnum, wEnumA, wRev, wFor, wWhile, wLc, wDc, wYes, wCall, wCallF, wCallK, wCallIo, wIsi, wNeg, wGetN, wGetE, wPop2, wAppend, wStar, seqD, fRepT, wDisp, wpCons, wpNil, keysD, dKey, wExtF, fStrI, wCallM, wCallMF, wmNil, wmD, wmS, wmF, avIx, avSls, avSl, avBack, avSet, wParM, List.nodup_nil, List.nodup_cons, List.mem_cons, List.not_mem_nil, or_false, not_false_eq_true, List.drop_succ_cons, List.drop_zero,  wAug, wRepL, wCatO, wCatF, wKeys, wItemsK, bName, bNames, retD, ctD, vd, itemsD, isDict, List.getElem?_cons_zero, List.getElem?_cons_succ, List.set_cons_zero, List.set_cons_succ, List.cons_append, List.nil_append, List.append_nil, List.replicate_succ, List.replicate_zero, List.map_cons, List.map_nil, List.length_cons, List.length_nil, List.zip_cons_cons, List.zip_nil_right, List.zip_nil_left, List.foldl_cons, List.foldl_nil, wipeE, backE, List.getD_cons_zero, List.getD_cons_succ, outsOf, keepPin, List.range_succ, List.range_zero, exS, at0, at1, at2, at3, at4, ix0, ix1, ix2, if_true, if_false, true_and, and_true, Bool.false_eq_true, reduceCtorEq, eqvI, eqvS, eqvB, scalI, scalS, scalB, true_or, decide_eq_true_eq, Bool.not_true, Bool.not_false, Bool.not_eq_true, isi_none_int, isi_none_bool, isi_none_str, isi_none_tuple, isi_none_list, isi_none_dict, isi_bool_int, isi_bool_bool, isi_bool_str, isi_bool_tuple, isi_bool_list, isi_bool_dict, isi_int_int, isi_int_bool, isi_int_str, isi_int_tuple, isi_int_list, isi_int_dict, isi_str_int, isi_str_bool, isi_str_str, isi_str_tuple, isi_str_list, isi_str_dict, isi_list_int, isi_list_bool, isi_list_str, isi_list_tuple, isi_list_list, isi_list_dict, isi_tuple_int, isi_tuple_bool, isi_tuple_str, isi_tuple_tuple, isi_tuple_list, isi_tuple_dict, isi_dict_int, isi_dict_bool, isi_dict_str, isi_dict_tuple, isi_dict_list, isi_dict_dict]
  refine ⟨ds3, _, rfl, h3, by omega, fun v ds4 hv h4 => ?_⟩
  simp only [wSeq, wNext, wIfS, wBool, wOp, wAt, wPeek, wName, wC, fIx, wChain, wAndT, wOrT, wNotT, wAndV, wOrV, wNotV, wIf, wNil, wCons, wTup, wLst, wDNew, wFz, fI, fI0, fEq, fNe, fIsN, fIsNot, fAdd, fIn, wC1, wC1F, fLen, fTup, fList, fInt, fAbs, wSlT, wSlL, wNoPart, wPart, wDrop, wRet, wRetF, wRetO, wSet, wSetF, wSetT, wPar, wPut, wBreak, wCont, wItems, wRng1, wRng2, wZip, wEnum, wEnumA, wRev, wFor, wWhile, wLc, wDc, wYes, wCall, wCallF, wCallK, wCallIo, wIsi, wNeg, wGetN, wGetE, wPop2, wAppend, wStar, seqD, fRepT, wDisp, wpCons, wpNil, keysD, dKey, wExtF, fStrI, wCallM, wCallMF, wmNil, wmD, wmS, wmF, avIx, avSls, avSl, avBack, avSet, wParM, List.nodup_nil, List.nodup_cons, List.mem_cons, List.not_mem_nil, or_false, not_false_eq_true, List.drop_succ_cons, List.drop_zero,  wAug, wRepL, wCatO, wCatF, wKeys, wItemsK, bName, bNames, retD, ctD, vd, itemsD, isDict, List.getElem?_cons_zero, List.getElem?_cons_succ, List.set_cons_zero, List.set_cons_succ, List.cons_append, List.nil_append, List.append_nil, List.replicate_succ, List.replicate_zero, List.map_cons, List.map_nil, List.length_cons, List.length_nil, List.zip_cons_cons, List.zip_nil_right, List.zip_nil_left, List.foldl_cons, List.foldl_nil, wipeE, backE, List.getD_cons_zero, List.getD_cons_succ, outsOf, keepPin, List.range_succ, List.range_zero, exS, at0, at1, at2, at3, at4, ix0, ix1, ix2, if_true, if_false, true_and, and_true, Bool.false_eq_true, reduceCtorEq, eqvI, eqvS, eqvB, scalI, scalS, scalB, true_or, decide_eq_true_eq, Bool.not_true, Bool.not_false, Bool.not_eq_true, isi_none_int, isi_none_bool, isi_none_str, isi_none_tuple, isi_none_list, isi_none_dict, isi_bool_int, isi_bool_bool, isi_bool_str, isi_bool_tuple, isi_bool_list, isi_bool_dict, isi_int_int, isi_int_bool, isi_int_str, isi_int_tuple, isi_int_list, isi_int_dict, isi_str_int, isi_str_bool, isi_str_str, isi_str_tuple, isi_str_list, isi_str_dict, isi_list_int, isi_list_bool, isi_list_str, isi_list_tuple, isi_list_list, isi_list_dict, isi_tuple_int, isi_tuple_bool, isi_tuple_str, isi_tuple_tuple, isi_tuple_list, isi_tuple_dict, isi_dict_int, isi_dict_bool, isi_dict_str, isi_dict_tuple, isi_dict_list, isi_dict_dict]
  refine ⟨by decide, ds4, _, _, rfl, h4, by omega, by simp, by simp, fun x ds5 hx h5 => ?_⟩
  have hf : ∃ f, x = fuelD f ∧ ∀ y, f = some y → Wd y := by
    simp only [List.mem_cons, List.not_mem_nil, or_false] at hx
    rcases hx with rfl | rfl | rfl | rfl
    · exact ⟨none, rfl, fun y e => nomatch e⟩
    · exact ⟨some 0, rfl, fun y e => by cases e; exact ⟨by decide, by decide⟩⟩
    · exact ⟨some 1, rfl, fun y e => by cases e; exact ⟨by decide, by decide⟩⟩
    · exact ⟨some v, rfl, fun y e => by cases e; exact hv⟩
  obtain ⟨f, rfl, hf⟩ := hf
  simp only [wSeq, wNext, wIfS, wBool, wOp, wAt, wPeek, wName, wC, fIx, wChain, wAndT, wOrT, wNotT, wAndV, wOrV, wNotV, wIf, wNil, wCons, wTup, wLst, wDNew, wFz, fI, fI0, fEq, fNe, fIsN, fIsNot, fAdd, fIn, wC1, wC1F, fLen, fTup, fList, fInt, fAbs, wSlT, wSlL, wNoPart, wPart, wDrop, wRet, wRetF, wRetO, wSet, wSetF, wSetT, wPar, wPut, wBreak, wCont, wItems, wRng1, wRng2, wZip, wEnum, wEnumA, wRev, wFor, wWhile, wLc, wDc, wYes, wCall, wCallF, wCallK, wCallIo, wIsi, wNeg, wGetN, wGetE, wPop2, wAppend, wStar, seqD, fRepT, wDisp, wpCons, wpNil, keysD, dKey, wExtF, fStrI, wCallM, wCallMF, wmNil, wmD, wmS, wmF, avIx, avSls, avSl, avBack, avSet, wParM, List.nodup_nil, List.nodup_cons, List.mem_cons, List.not_mem_nil, or_false, not_false_eq_true, List.drop_succ_cons, List.drop_zero,  wAug, wRepL, wCatO, wCatF, wKeys, wItemsK, bName, bNames, retD, ctD, vd, itemsD, isDict, List.getElem?_cons_zero, List.getElem?_cons_succ, List.set_cons_zero, List.set_cons_succ, List.cons_append, List.nil_append, List.append_nil, List.replicate_succ, List.replicate_zero, List.map_cons, List.map_nil, List.length_cons, List.length_nil, List.zip_cons_cons, List.zip_nil_right, List.zip_nil_left, List.foldl_cons, List.foldl_nil, wipeE, backE, List.getD_cons_zero, List.getD_cons_succ, outsOf, keepPin, List.range_succ, List.range_zero, exS, at0, at1, at2, at3, at4, ix0, ix1, ix2, if_true, if_false, true_and, and_true, Bool.false_eq_true, reduceCtorEq, eqvI, eqvS, eqvB, scalI, scalS, scalB, true_or, decide_eq_true_eq, Bool.not_true, Bool.not_false, Bool.not_eq_true, isi_none_int, isi_none_bool, isi_none_str, isi_none_tuple, isi_none_list, isi_none_dict, isi_bool_int, isi_bool_bool, isi_bool_str, isi_bool_tuple, isi_bool_list, isi_bool_dict, isi_int_int, isi_int_bool, isi_int_str, isi_int_tuple, isi_int_list, isi_int_dict, isi_str_int, isi_str_bool, isi_str_str, isi_str_tuple, isi_str_list, isi_str_dict, isi_list_int, isi_list_bool, isi_list_str, isi_list_tuple, isi_list_list, isi_list_dict, isi_tuple_int, isi_tuple_bool, isi_tuple_str, isi_tuple_tuple, isi_tuple_list, isi_tuple_dict, isi_dict_int, isi_dict_bool, isi_dict_str, isi_dict_tuple, isi_dict_list, isi_dict_dict]
  refine ⟨by decide, ?_⟩
  exact k (.mk cd gs es w f) ds5 pot1 (fun z => nomatch z) ⟨ok, tk, hf, oks⟩ hle (h5.mono (by omega)) hp1
theorem guests_loop {E : VD} {n deep : Nat} (hn : 2 * deep ≤ n) {regs : List Int} {pc cl : Int} {b C : Nat} (hb : b = 3000 * 5 ^ deep) (hC : C ≤ 2 ^ 38) : ∀ (its : List Nat) (gl : List Gst) (ds : List D) (pot : List (Key × D)) (c : Nat) (s3 s4 s9 : Sl), (∀ b c, s3 ≠ .o b c) → Hd c ds → PotOk pot → 5 * c + (b + 600) * its.length ≤ 5 * C → gl.length + its.length ≤ 4 → (∀ g ∈ gl, g.Ok ∧ g.Le deep) →
    (∀ (gl' : List Gst) (ds : List D) (pot : List (Key × D)) (s3 s4 s9 : Sl), (∀ b c, s3 ≠ .o b c) → Hd C ds → PotOk pot → gl'.length = gl.length + its.length → (∀ g ∈ gl', g.Ok ∧ g.Le deep) → E.nx [.o true (.l ds), .o true (.k pot), .d (.int deep), s3, s4, .d (intsD regs), .o false (.l (gl'.map gD)), .d (.int pc), .d (.int cl), s9, .no]) →
    wForL (bName 3) (w__law_core_L1_0 n) E (its.map fun (i : Nat) => .int (i : Int)) [.o true (.l ds), .o true (.k pot), .d (.int deep), s3, s4, .d (intsD regs), .o false (.l (gl.map gD)), .d (.int pc), .d (.int cl), s9, .no]
  | [], gl, ds, pot, c, s3, s4, s9, h3, hd, hp, hc, hl, hg, k => k gl ds pot _ _ _ h3 (hd.mono (by simp at hc; omega)) hp (by simp) hg
  | j :: its, gl, ds, pot, c, s3, s4, s9, h3, hd, hp, hc, hl, hg, k => by
    rw [List.length_cons] at hc hl
    have hc2 : 5 * c + (b + 600) + (b + 600) * its.length ≤ 5 * C := by rw [Nat.mul_add] at hc; omega
    have hb1 : 3000 ≤ b := by
      have : 0 < 5 ^ deep := Nat.pow_pos (by decide)
      omega
    have next : ∀ (g : Gst) (ds1 : List D) (pot1 : List (Key × D)) (c1 : Nat) (s3 s4 s9 : Sl), (∀ b c, s3 ≠ .o b c) → g.Ok → g.Le deep → Hd c1 ds1 → PotOk pot1 → 5 * c1 ≤ 5 * c + (b + 600) → wForL (bName 3) (w__law_core_L1_0 n) E (its.map fun (i : Nat) => .int (i : Int)) [.o true (.l ds1), .o true (.k pot1), .d (.int deep), s3, s4, .d (intsD regs), .o false (.l (gl.map gD ++ [gD g])), .d (.int pc), .d (.int cl), s9, .no] := by
      intro g ds1 pot1 c1 s3 s4 s9 h3 g1 g2 h1 hp1 hc1
      have ea : gl.map gD ++ [gD g] = (gl ++ [g]).map gD := by simp
      rw [ea]
      refine guests_loop hn hb hC its (gl ++ [g]) ds1 pot1 c1 _ _ _ h3 h1 hp1 (by omega) (by simp; omega) (fun x hx => ?_) fun gl' ds pot s3 s4 s9 h0 h1 h2 h3 => k gl' ds pot _ _ _ h0 h1 h2 (by rw [h3]; simp; omega)
      rcases List.mem_append.mp hx with hx | hx
      · exact hg x hx
      · simp at hx; subst hx; exact ⟨g1, g2⟩
    rw [List.map_cons]
    unfold wForL
    simp only [w__law_core_L1_0_e, wSeq, wNext, wIfS, wBool, wOp, wAt, wPeek, wName, wC, fIx, wChain, wAndT, wOrT, wNotT, wAndV, wOrV, wNotV, wIf, wNil, wCons, wTup, wLst, wDNew, wFz, fI, fI0, fEq, fNe, fIsN, fIsNot, fAdd, fIn, wC1, wC1F, fLen, fTup, fList, fInt, fAbs, wSlT, wSlL, wNoPart, wPart, wDrop, wRet, wRetF, wRetO, wSet, wSetF, wSetT, wPar, wPut, wBreak, wCont, wItems, wRng1, wRng2, wZip, wEnum, wEnumA, wRev, wFor, wWhile, wLc, wDc, wYes, wCall, wCallF, wCallK, wCallIo, wIsi, wNeg, wGetN, wGetE, wPop2, wAppend, wStar, seqD, fRepT, wDisp, wpCons, wpNil, keysD, dKey, wExtF, fStrI, wCallM, wCallMF, wmNil, wmD, wmS, wmF, avIx, avSls, avSl, avBack, avSet, wParM, List.nodup_nil, List.nodup_cons, List.mem_cons, List.not_mem_nil, or_false, not_false_eq_true, List.drop_succ_cons, List.drop_zero,  wAug, wRepL, wCatO, wCatF, wKeys, wItemsK, bName, bNames, retD, ctD, vd, itemsD, isDict, List.getElem?_cons_zero, List.getElem?_cons_succ, List.set_cons_zero, List.set_cons_succ, List.cons_append, List.nil_append, List.append_nil, List.replicate_succ, List.replicate_zero, List.map_cons, List.map_nil, List.length_cons, List.length_nil, List.zip_cons_cons, List.zip_nil_right, List.zip_nil_left, List.foldl_cons, List.foldl_nil, wipeE, backE, List.getD_cons_zero, List.getD_cons_succ, outsOf, keepPin, List.range_succ, List.range_zero, exS, at0, at1, at2, at3, at4, ix0, ix1, ix2, if_true, if_false, true_and, and_true, Bool.false_eq_true, reduceCtorEq, eqvI, eqvS, eqvB, scalI, scalS, scalB, true_or, decide_eq_true_eq, Bool.not_true, Bool.not_false, Bool.not_eq_true, isi_none_int, isi_none_bool, isi_none_str, isi_none_tuple, isi_none_list, isi_none_dict, isi_bool_int, isi_bool_bool, isi_bool_str, isi_bool_tuple, isi_bool_list, isi_bool_dict, isi_int_int, isi_int_bool, isi_int_str, isi_int_tuple, isi_int_list, isi_int_dict, isi_str_int, isi_str_bool, isi_str_str, isi_str_tuple, isi_str_list, isi_str_dict, isi_list_int, isi_list_bool, isi_list_str, isi_list_tuple, isi_list_list, isi_list_dict, isi_tuple_int, isi_tuple_bool, isi_tuple_str, isi_tuple_tuple, isi_tuple_list, isi_tuple_dict, isi_dict_int, isi_dict_bool, isi_dict_str, isi_dict_tuple, isi_dict_list, isi_dict_dict]
    obtain ⟨z, rfl⟩ := hp
    have skip : ∀ (ds1 : List D) (c1 : Nat), Hd c1 ds1 → 5 * c1 ≤ 5 * c + (b + 600) → w__law_core_L1_1 n ⟨fun ρ2 => wForL (bName 3) (w__law_core_L1_0 n) E (its.map fun (i : Nat) => .int (i : Int)) ρ2, E.rt, E.nx, fun ρ2 => wForL (bName 3) (w__law_core_L1_0 n) E (its.map fun (i : Nat) => .int (i : Int)) ρ2⟩ [.o true (.l ds1), .o true (.k [(.inr "left", .int z)]), .d (.int deep), .d (.int j), s4, .d (intsD regs), .o false (.l (gl.map gD)), .d (.int pc), .d (.int cl), .d (.bool false), .no] := by
      intro ds1 c1 h1 hc1
      simp only [w__law_core_L1_1_e, wSeq, wNext, wIfS, wBool, wOp, wAt, wPeek, wName, wC, fIx, wChain, wAndT, wOrT, wNotT, wAndV, wOrV, wNotV, wIf, wNil, wCons, wTup, wLst, wDNew, wFz, fI, fI0, fEq, fNe, fIsN, fIsNot, fAdd, fIn, wC1, wC1F, fLen, fTup, fList, fInt, fAbs, wSlT, wSlL, wNoPart, wPart, wDrop, wRet, wRetF, wRetO, wSet, wSetF, wSetT, wPar, wPut, wBreak, wCont, wItems, wRng1, wRng2, wZip, wEnum, wEnumA, wRev, wFor, wWhile, wLc, wDc, wYes, wCall, wCallF, wCallK, wCallIo, wIsi, wNeg, wGetN, wGetE, wPop2, wAppend, wStar, seqD, fRepT, wDisp, wpCons, wpNil, keysD, dKey, wExtF, fStrI, wCallM, wCallMF, wmNil, wmD, wmS, wmF, avIx, avSls, avSl, avBack, avSet, wParM, List.nodup_nil, List.nodup_cons, List.mem_cons, List.not_mem_nil, or_false, not_false_eq_true, List.drop_succ_cons, List.drop_zero,  wAug, wRepL, wCatO, wCatF, wKeys, wItemsK, bName, bNames, retD, ctD, vd, itemsD, isDict, List.getElem?_cons_zero, List.getElem?_cons_succ, List.set_cons_zero, List.set_cons_succ, List.cons_append, List.nil_append, List.append_nil, List.replicate_succ, List.replicate_zero, List.map_cons, List.map_nil, List.length_cons, List.length_nil, List.zip_cons_cons, List.zip_nil_right, List.zip_nil_left, List.foldl_cons, List.foldl_nil, wipeE, backE, List.getD_cons_zero, List.getD_cons_succ, outsOf, keepPin, List.range_succ, List.range_zero, exS, at0, at1, at2, at3, at4, ix0, ix1, ix2, if_true, if_false, true_and, and_true, Bool.false_eq_true, reduceCtorEq, eqvI, eqvS, eqvB, scalI, scalS, scalB, true_or, decide_eq_true_eq, Bool.not_true, Bool.not_false, Bool.not_eq_true, isi_none_int, isi_none_bool, isi_none_str, isi_none_tuple, isi_none_list, isi_none_dict, isi_bool_int, isi_bool_bool, isi_bool_str, isi_bool_tuple, isi_bool_list, isi_bool_dict, isi_int_int, isi_int_bool, isi_int_str, isi_int_tuple, isi_int_list, isi_int_dict, isi_str_int, isi_str_bool, isi_str_str, isi_str_tuple, isi_str_list, isi_str_dict, isi_list_int, isi_list_bool, isi_list_str, isi_list_tuple, isi_list_list, isi_list_dict, isi_tuple_int, isi_tuple_bool, isi_tuple_str, isi_tuple_tuple, isi_tuple_list, isi_tuple_dict, isi_dict_int, isi_dict_bool, isi_dict_str, isi_dict_tuple, isi_dict_list, isi_dict_dict]
      refine ⟨small_lt (by simp; omega), ?_⟩
      exact next .no ds1 _ c1 _ _ _ (fun b c z => nomatch z) (by unfold Gst.Ok; trivial) (by unfold Gst.Le; trivial) h1 ⟨z, rfl⟩ hc1
    by_cases hdp : (0 : Int) < (deep : Int)
    · rw [decide_eq_true hdp]
      simp only [wSeq, wNext, wIfS, wBool, wOp, wAt, wPeek, wName, wC, fIx, wChain, wAndT, wOrT, wNotT, wAndV, wOrV, wNotV, wIf, wNil, wCons, wTup, wLst, wDNew, wFz, fI, fI0, fEq, fNe, fIsN, fIsNot, fAdd, fIn, wC1, wC1F, fLen, fTup, fList, fInt, fAbs, wSlT, wSlL, wNoPart, wPart, wDrop, wRet, wRetF, wRetO, wSet, wSetF, wSetT, wPar, wPut, wBreak, wCont, wItems, wRng1, wRng2, wZip, wEnum, wEnumA, wRev, wFor, wWhile, wLc, wDc, wYes, wCall, wCallF, wCallK, wCallIo, wIsi, wNeg, wGetN, wGetE, wPop2, wAppend, wStar, seqD, fRepT, wDisp, wpCons, wpNil, keysD, dKey, wExtF, fStrI, wCallM, wCallMF, wmNil, wmD, wmS, wmF, avIx, avSls, avSl, avBack, avSet, wParM, List.nodup_nil, List.nodup_cons, List.mem_cons, List.not_mem_nil, or_false, not_false_eq_true, List.drop_succ_cons, List.drop_zero,  wAug, wRepL, wCatO, wCatF, wKeys, wItemsK, bName, bNames, retD, ctD, vd, itemsD, isDict, List.getElem?_cons_zero, List.getElem?_cons_succ, List.set_cons_zero, List.set_cons_succ, List.cons_append, List.nil_append, List.append_nil, List.replicate_succ, List.replicate_zero, List.map_cons, List.map_nil, List.length_cons, List.length_nil, List.zip_cons_cons, List.zip_nil_right, List.zip_nil_left, List.foldl_cons, List.foldl_nil, wipeE, backE, List.getD_cons_zero, List.getD_cons_succ, outsOf, keepPin, List.range_succ, List.range_zero, exS, at0, at1, at2, at3, at4, ix0, ix1, ix2, if_true, if_false, true_and, and_true, Bool.false_eq_true, reduceCtorEq, eqvI, eqvS, eqvB, scalI, scalS, scalB, true_or, decide_eq_true_eq, Bool.not_true, Bool.not_false, Bool.not_eq_true, isi_none_int, isi_none_bool, isi_none_str, isi_none_tuple, isi_none_list, isi_none_dict, isi_bool_int, isi_bool_bool, isi_bool_str, isi_bool_tuple, isi_bool_list, isi_bool_dict, isi_int_int, isi_int_bool, isi_int_str, isi_int_tuple, isi_int_list, isi_int_dict, isi_str_int, isi_str_bool, isi_str_str, isi_str_tuple, isi_str_list, isi_str_dict, isi_list_int, isi_list_bool, isi_list_str, isi_list_tuple, isi_list_list, isi_list_dict, isi_tuple_int, isi_tuple_bool, isi_tuple_str, isi_tuple_tuple, isi_tuple_list, isi_tuple_dict, isi_dict_int, isi_dict_bool, isi_dict_str, isi_dict_tuple, isi_dict_list, isi_dict_dict]
      refine ⟨_, _, rfl, look_left z, ?_⟩
      simp only [wSeq, wNext, wIfS, wBool, wOp, wAt, wPeek, wName, wC, fIx, wChain, wAndT, wOrT, wNotT, wAndV, wOrV, wNotV, wIf, wNil, wCons, wTup, wLst, wDNew, wFz, fI, fI0, fEq, fNe, fIsN, fIsNot, fAdd, fIn, wC1, wC1F, fLen, fTup, fList, fInt, fAbs, wSlT, wSlL, wNoPart, wPart, wDrop, wRet, wRetF, wRetO, wSet, wSetF, wSetT, wPar, wPut, wBreak, wCont, wItems, wRng1, wRng2, wZip, wEnum, wEnumA, wRev, wFor, wWhile, wLc, wDc, wYes, wCall, wCallF, wCallK, wCallIo, wIsi, wNeg, wGetN, wGetE, wPop2, wAppend, wStar, seqD, fRepT, wDisp, wpCons, wpNil, keysD, dKey, wExtF, fStrI, wCallM, wCallMF, wmNil, wmD, wmS, wmF, avIx, avSls, avSl, avBack, avSet, wParM, List.nodup_nil, List.nodup_cons, List.mem_cons, List.not_mem_nil, or_false, not_false_eq_true, List.drop_succ_cons, List.drop_zero,  wAug, wRepL, wCatO, wCatF, wKeys, wItemsK, bName, bNames, retD, ctD, vd, itemsD, isDict, List.getElem?_cons_zero, List.getElem?_cons_succ, List.set_cons_zero, List.set_cons_succ, List.cons_append, List.nil_append, List.append_nil, List.replicate_succ, List.replicate_zero, List.map_cons, List.map_nil, List.length_cons, List.length_nil, List.zip_cons_cons, List.zip_nil_right, List.zip_nil_left, List.foldl_cons, List.foldl_nil, wipeE, backE, List.getD_cons_zero, List.getD_cons_succ, outsOf, keepPin, List.range_succ, List.range_zero, exS, at0, at1, at2, at3, at4, ix0, ix1, ix2, if_true, if_false, true_and, and_true, Bool.false_eq_true, reduceCtorEq, eqvI, eqvS, eqvB, scalI, scalS, scalB, true_or, decide_eq_true_eq, Bool.not_true, Bool.not_false, Bool.not_eq_true, isi_none_int, isi_none_bool, isi_none_str, isi_none_tuple, isi_none_list, isi_none_dict, isi_bool_int, isi_bool_bool, isi_bool_str, isi_bool_tuple, isi_bool_list, isi_bool_dict, isi_int_int, isi_int_bool, isi_int_str, isi_int_tuple, isi_int_list, isi_int_dict, isi_str_int, isi_str_bool, isi_str_str, isi_str_tuple, isi_str_list, isi_str_dict, isi_list_int, isi_list_bool, isi_list_str, isi_list_tuple, isi_list_list, isi_list_dict, isi_tuple_int, isi_tuple_bool, isi_tuple_str, isi_tuple_tuple, isi_tuple_list, isi_tuple_dict, isi_dict_int, isi_dict_bool, isi_dict_str, isi_dict_tuple, isi_dict_list, isi_dict_dict]
      by_cases hz : (0 : Int) < z
      · rw [decide_eq_true hz]
        simp only [wSeq, wNext, wIfS, wBool, wOp, wAt, wPeek, wName, wC, fIx, wChain, wAndT, wOrT, wNotT, wAndV, wOrV, wNotV, wIf, wNil, wCons, wTup, wLst, wDNew, wFz, fI, fI0, fEq, fNe, fIsN, fIsNot, fAdd, fIn, wC1, wC1F, fLen, fTup, fList, fInt, fAbs, wSlT, wSlL, wNoPart, wPart, wDrop, wRet, wRetF, wRetO, wSet, wSetF, wSetT, wPar, wPut, wBreak, wCont, wItems, wRng1, wRng2, wZip, wEnum, wEnumA, wRev, wFor, wWhile, wLc, wDc, wYes, wCall, wCallF, wCallK, wCallIo, wIsi, wNeg, wGetN, wGetE, wPop2, wAppend, wStar, seqD, fRepT, wDisp, wpCons, wpNil, keysD, dKey, wExtF, fStrI, wCallM, wCallMF, wmNil, wmD, wmS, wmF, avIx, avSls, avSl, avBack, avSet, wParM, List.nodup_nil, List.nodup_cons, List.mem_cons, List.not_mem_nil, or_false, not_false_eq_true, List.drop_succ_cons, List.drop_zero,  wAug, wRepL, wCatO, wCatF, wKeys, wItemsK, bName, bNames, retD, ctD, vd, itemsD, isDict, List.getElem?_cons_zero, List.getElem?_cons_succ, List.set_cons_zero, List.set_cons_succ, List.cons_append, List.nil_append, List.append_nil, List.replicate_succ, List.replicate_zero, List.map_cons, List.map_nil, List.length_cons, List.length_nil, List.zip_cons_cons, List.zip_nil_right, List.zip_nil_left, List.foldl_cons, List.foldl_nil, wipeE, backE, List.getD_cons_zero, List.getD_cons_succ, outsOf, keepPin, List.range_succ, List.range_zero, exS, at0, at1, at2, at3, at4, ix0, ix1, ix2, if_true, if_false, true_and, and_true, Bool.false_eq_true, reduceCtorEq, eqvI, eqvS, eqvB, scalI, scalS, scalB, true_or, decide_eq_true_eq, Bool.not_true, Bool.not_false, Bool.not_eq_true, isi_none_int, isi_none_bool, isi_none_str, isi_none_tuple, isi_none_list, isi_none_dict, isi_bool_int, isi_bool_bool, isi_bool_str, isi_bool_tuple, isi_bool_list, isi_bool_dict, isi_int_int, isi_int_bool, isi_int_str, isi_int_tuple, isi_int_list, isi_int_dict, isi_str_int, isi_str_bool, isi_str_str, isi_str_tuple, isi_str_list, isi_str_dict, isi_list_int, isi_list_bool, isi_list_str, isi_list_tuple, isi_list_list, isi_list_dict, isi_tuple_int, isi_tuple_bool, isi_tuple_str, isi_tuple_tuple, isi_tuple_list, isi_tuple_dict, isi_dict_int, isi_dict_bool, isi_dict_str, isi_dict_tuple, isi_dict_list, isi_dict_dict]
        refine ⟨ds, c, 2, rfl, hd, by omega, by decide, by decide, fun v ds1 v0 v1 h1 => ?_⟩
        simp only [wSeq, wNext, wIfS, wBool, wOp, wAt, wPeek, wName, wC, fIx, wChain, wAndT, wOrT, wNotT, wAndV, wOrV, wNotV, wIf, wNil, wCons, wTup, wLst, wDNew, wFz, fI, fI0, fEq, fNe, fIsN, fIsNot, fAdd, fIn, wC1, wC1F, fLen, fTup, fList, fInt, fAbs, wSlT, wSlL, wNoPart, wPart, wDrop, wRet, wRetF, wRetO, wSet, wSetF, wSetT, wPar, wPut, wBreak, wCont, wItems, wRng1, wRng2, wZip, wEnum, wEnumA, wRev, wFor, wWhile, wLc, wDc, wYes, wCall, wCallF, wCallK, wCallIo, wIsi, wNeg, wGetN, wGetE, wPop2, wAppend, wStar, seqD, fRepT, wDisp, wpCons, wpNil, keysD, dKey, wExtF, fStrI, wCallM, wCallMF, wmNil, wmD, wmS, wmF, avIx, avSls, avSl, avBack, avSet, wParM, List.nodup_nil, List.nodup_cons, List.mem_cons, List.not_mem_nil, or_false, not_false_eq_true, List.drop_succ_cons, List.drop_zero,  wAug, wRepL, wCatO, wCatF, wKeys, wItemsK, bName, bNames, retD, ctD, vd, itemsD, isDict, List.getElem?_cons_zero, List.getElem?_cons_succ, List.set_cons_zero, List.set_cons_succ, List.cons_append, List.nil_append, List.append_nil, List.replicate_succ, List.replicate_zero, List.map_cons, List.map_nil, List.length_cons, List.length_nil, List.zip_cons_cons, List.zip_nil_right, List.zip_nil_left, List.foldl_cons, List.foldl_nil, wipeE, backE, List.getD_cons_zero, List.getD_cons_succ, outsOf, keepPin, List.range_succ, List.range_zero, exS, at0, at1, at2, at3, at4, ix0, ix1, ix2, if_true, if_false, true_and, and_true, Bool.false_eq_true, reduceCtorEq, eqvI, eqvS, eqvB, scalI, scalS, scalB, true_or, decide_eq_true_eq, Bool.not_true, Bool.not_false, Bool.not_eq_true, isi_none_int, isi_none_bool, isi_none_str, isi_none_tuple, isi_none_list, isi_none_dict, isi_bool_int, isi_bool_bool, isi_bool_str, isi_bool_tuple, isi_bool_list, isi_bool_dict, isi_int_int, isi_int_bool, isi_int_str, isi_int_tuple, isi_int_list, isi_int_dict, isi_str_int, isi_str_bool, isi_str_str, isi_str_tuple, isi_str_list, isi_str_dict, isi_list_int, isi_list_bool, isi_list_str, isi_list_tuple, isi_list_list, isi_list_dict, isi_tuple_int, isi_tuple_bool, isi_tuple_str, isi_tuple_tuple, isi_tuple_list, isi_tuple_dict, isi_dict_int, isi_dict_bool, isi_dict_str, isi_dict_tuple, isi_dict_list, isi_dict_dict]
        by_cases hv : v = 0
        · rw [decide_eq_true hv]
          simp only [w__law_core_L1_1_e, wSeq, wNext, wIfS, wBool, wOp, wAt, wPeek, wName, wC, fIx, wChain, wAndT, wOrT, wNotT, wAndV, wOrV, wNotV, wIf, wNil, wCons, wTup, wLst, wDNew, wFz, fI, fI0, fEq, fNe, fIsN, fIsNot, fAdd, fIn, wC1, wC1F, fLen, fTup, fList, fInt, fAbs, wSlT, wSlL, wNoPart, wPart, wDrop, wRet, wRetF, wRetO, wSet, wSetF, wSetT, wPar, wPut, wBreak, wCont, wItems, wRng1, wRng2, wZip, wEnum, wEnumA, wRev, wFor, wWhile, wLc, wDc, wYes, wCall, wCallF, wCallK, wCallIo, wIsi, wNeg, wGetN, wGetE, wPop2, wAppend, wStar, seqD, fRepT, wDisp, wpCons, wpNil, keysD, dKey, wExtF, fStrI, wCallM, wCallMF, wmNil, wmD, wmS, wmF, avIx, avSls, avSl, avBack, avSet, wParM, List.nodup_nil, List.nodup_cons, List.mem_cons, List.not_mem_nil, or_false, not_false_eq_true, List.drop_succ_cons, List.drop_zero,  wAug, wRepL, wCatO, wCatF, wKeys, wItemsK, bName, bNames, retD, ctD, vd, itemsD, isDict, List.getElem?_cons_zero, List.getElem?_cons_succ, List.set_cons_zero, List.set_cons_succ, List.cons_append, List.nil_append, List.append_nil, List.replicate_succ, List.replicate_zero, List.map_cons, List.map_nil, List.length_cons, List.length_nil, List.zip_cons_cons, List.zip_nil_right, List.zip_nil_left, List.foldl_cons, List.foldl_nil, wipeE, backE, List.getD_cons_zero, List.getD_cons_succ, outsOf, keepPin, List.range_succ, List.range_zero, exS, at0, at1, at2, at3, at4, ix0, ix1, ix2, if_true, if_false, true_and, and_true, Bool.false_eq_true, reduceCtorEq, eqvI, eqvS, eqvB, scalI, scalS, scalB, true_or, decide_eq_true_eq, Bool.not_true, Bool.not_false, Bool.not_eq_true, isi_none_int, isi_none_bool, isi_none_str, isi_none_tuple, isi_none_list, isi_none_dict, isi_bool_int, isi_bool_bool, isi_bool_str, isi_bool_tuple, isi_bool_list, isi_bool_dict, isi_int_int, isi_int_bool, isi_int_str, isi_int_tuple, isi_int_list, isi_int_dict, isi_str_int, isi_str_bool, isi_str_str, isi_str_tuple, isi_str_list, isi_str_dict, isi_list_int, isi_list_bool, isi_list_str, isi_list_tuple, isi_list_list, isi_list_dict, isi_tuple_int, isi_tuple_bool, isi_tuple_str, isi_tuple_tuple, isi_tuple_list, isi_tuple_dict, isi_dict_int, isi_dict_bool, isi_dict_str, isi_dict_tuple, isi_dict_list, isi_dict_dict]
          obtain ⟨e, rfl⟩ : ∃ e, deep = e + 1 := ⟨deep - 1, by omega⟩
          obtain ⟨m, rfl⟩ : ∃ m, n = m + 1 := ⟨n - 1, by omega⟩
          rw [Nat.pow_succ] at hb
          refine ⟨ds1, c + 1, _, e, by rw [show ((e + 1 : Nat) : Int) - 1 = (e : Int) by omega], h1, by omega, ⟨z, rfl⟩, by omega, fun g ds2 pot2 g0 g1 g2 h2 hp2 => ?_⟩
          simp only [wSeq, wNext, wIfS, wBool, wOp, wAt, wPeek, wName, wC, fIx, wChain, wAndT, wOrT, wNotT, wAndV, wOrV, wNotV, wIf, wNil, wCons, wTup, wLst, wDNew, wFz, fI, fI0, fEq, fNe, fIsN, fIsNot, fAdd, fIn, wC1, wC1F, fLen, fTup, fList, fInt, fAbs, wSlT, wSlL, wNoPart, wPart, wDrop, wRet, wRetF, wRetO, wSet, wSetF, wSetT, wPar, wPut, wBreak, wCont, wItems, wRng1, wRng2, wZip, wEnum, wEnumA, wRev, wFor, wWhile, wLc, wDc, wYes, wCall, wCallF, wCallK, wCallIo, wIsi, wNeg, wGetN, wGetE, wPop2, wAppend, wStar, seqD, fRepT, wDisp, wpCons, wpNil, keysD, dKey, wExtF, fStrI, wCallM, wCallMF, wmNil, wmD, wmS, wmF, avIx, avSls, avSl, avBack, avSet, wParM, List.nodup_nil, List.nodup_cons, List.mem_cons, List.not_mem_nil, or_false, not_false_eq_true, List.drop_succ_cons, List.drop_zero,  wAug, wRepL, wCatO, wCatF, wKeys, wItemsK, bName, bNames, retD, ctD, vd, itemsD, isDict, List.getElem?_cons_zero, List.getElem?_cons_succ, List.set_cons_zero, List.set_cons_succ, List.cons_append, List.nil_append, List.append_nil, List.replicate_succ, List.replicate_zero, List.map_cons, List.map_nil, List.length_cons, List.length_nil, List.zip_cons_cons, List.zip_nil_right, List.zip_nil_left, List.foldl_cons, List.foldl_nil, wipeE, backE, List.getD_cons_zero, List.getD_cons_succ, outsOf, keepPin, List.range_succ, List.range_zero, exS, at0, at1, at2, at3, at4, ix0, ix1, ix2, if_true, if_false, true_and, and_true, Bool.false_eq_true, reduceCtorEq, eqvI, eqvS, eqvB, scalI, scalS, scalB, true_or, decide_eq_true_eq, Bool.not_true, Bool.not_false, Bool.not_eq_true, isi_none_int, isi_none_bool, isi_none_str, isi_none_tuple, isi_none_list, isi_none_dict, isi_bool_int, isi_bool_bool, isi_bool_str, isi_bool_tuple, isi_bool_list, isi_bool_dict, isi_int_int, isi_int_bool, isi_int_str, isi_int_tuple, isi_int_list, isi_int_dict, isi_str_int, isi_str_bool, isi_str_str, isi_str_tuple, isi_str_list, isi_str_dict, isi_list_int, isi_list_bool, isi_list_str, isi_list_tuple, isi_list_list, isi_list_dict, isi_tuple_int, isi_tuple_bool, isi_tuple_str, isi_tuple_tuple, isi_tuple_list, isi_tuple_dict, isi_dict_int, isi_dict_bool, isi_dict_str, isi_dict_tuple, isi_dict_list, isi_dict_dict]
          refine ⟨small_lt (by simp; omega), ?_⟩
          exact next g ds2 pot2 _ _ _ _ (fun b c z => nomatch z) g1 g2 h2 hp2 (by omega)
        · rw [decide_eq_false hv]
          exact skip ds1 (c + 1) h1 (by omega)
      · rw [decide_eq_false hz]
        exact skip ds c hd (by omega)
    · rw [decide_eq_false hdp]
      exact skip ds c hd (by omega)
theorem at_last {xs : List D} (h : xs ≠ []) : ∃ d ∈ xs, atI xs (-1) = some d := by
  have hl : 0 < xs.length := List.length_pos_iff.mpr h
  refine ⟨xs[xs.length - 1], List.getElem_mem _, ?_⟩
  unfold atI ixN
  rw [if_neg (by omega), if_pos (by omega), show ((-1 : Int) + (xs.length : Int)).toNat = xs.length - 1 by omega]
  simp [hl]
theorem at_gs (gs : Fin 4 → Gst) {j : Nat} (h : j < 4) : atI [gD (gs 0), gD (gs 1), gD (gs 2), gD (gs 3)] (j : Int) = some (gD (gs ⟨j, h⟩)) := by
  refine atI_nat ?_
  match j, h with
  | 0, _ => rfl
  | 1, _ => rfl
  | 2, _ => rfl
  | 3, _ => rfl
theorem none_iff (g : Gst) : isNone (gD g) = true ↔ g = .no := by cases g <;> simp [gD, isNone]
def Ins (gs : Fin 4 → Gst) (d : D) : Prop := ∃ o : Option Nat, d = insD o ∧ ∀ k, o = some k → ∃ h : k < 4, gs ⟨k, h⟩ ≠ .no
theorem there_comp {k : List D → En → Prop} {gs : Fin 4 → Gst} {deep : Nat} {regs : List Int} {pc cl : Int} {ds : List D} {pot : List (Key × D)} {s4 s9 : Sl} : ∀ (its : List Nat) (acc : List D), (∀ j ∈ its, j < 4) → (∀ d ∈ acc, Ins gs d) →
    (∀ acc' : List D, acc'.length ≤ acc.length + its.length → (∀ d ∈ acc', Ins gs d) → k acc' [.o true (.l ds), .o true (.k pot), .d (.int deep), .no, s4, .d (intsD regs), .o false (.l [gD (gs 0), gD (gs 1), gD (gs 2), gD (gs 3)]), .d (.int pc), .d (.int cl), s9, .no]) →
    compL [3] (bName 3) (wBool (wOp fIsNot (wAt 6 fIx (wName 3)) (wC .none))) (wName 3) (its.map fun (i : Nat) => .int (i : Int)) acc [.o true (.l ds), .o true (.k pot), .d (.int deep), .no, s4, .d (intsD regs), .o false (.l [gD (gs 0), gD (gs 1), gD (gs 2), gD (gs 3)]), .d (.int pc), .d (.int cl), s9, .no] k
  | [], acc, hj, ha, k => k acc (by simp) ha
  | j :: its, acc, hj, ha, k => by
    have h4 := hj j (by simp)
    rw [List.map_cons]
    unfold compL
    simp only [wSeq, wNext, wIfS, wBool, wOp, wAt, wPeek, wName, wC, fIx, wChain, wAndT, wOrT, wNotT, wAndV, wOrV, wNotV, wIf, wNil, wCons, wTup, wLst, wDNew, wFz, fI, fI0, fEq, fNe, fIsN, fIsNot, fAdd, fIn, wC1, wC1F, fLen, fTup, fList, fInt, fAbs, wSlT, wSlL, wNoPart, wPart, wDrop, wRet, wRetF, wRetO, wSet, wSetF, wSetT, wPar, wPut, wBreak, wCont, wItems, wRng1, wRng2, wZip, wEnum, wEnumA, wRev, wFor, wWhile, wLc, wDc, wYes, wCall, wCallF, wCallK, wCallIo, wIsi, wNeg, wGetN, wGetE, wPop2, wAppend, wStar, seqD, fRepT, wDisp, wpCons, wpNil, keysD, dKey, wExtF, fStrI, wCallM, wCallMF, wmNil, wmD, wmS, wmF, avIx, avSls, avSl, avBack, avSet, wParM, List.nodup_nil, List.nodup_cons, List.mem_cons, List.not_mem_nil, or_false, not_false_eq_true, List.drop_succ_cons, List.drop_zero,  wAug, wRepL, wCatO, wCatF, wKeys, wItemsK, bName, bNames, retD, ctD, vd, itemsD, isDict, List.getElem?_cons_zero, List.getElem?_cons_succ, List.set_cons_zero, List.set_cons_succ, List.cons_append, List.nil_append, List.append_nil, List.replicate_succ, List.replicate_zero, List.map_cons, List.map_nil, List.length_cons, List.length_nil, List.zip_cons_cons, List.zip_nil_right, List.zip_nil_left, List.foldl_cons, List.foldl_nil, wipeE, backE, List.getD_cons_zero, List.getD_cons_succ, outsOf, keepPin, List.range_succ, List.range_zero, exS, at0, at1, at2, at3, at4, ix0, ix1, ix2, if_true, if_false, true_and, and_true, Bool.false_eq_true, reduceCtorEq, eqvI, eqvS, eqvB, scalI, scalS, scalB, true_or, decide_eq_true_eq, Bool.not_true, Bool.not_false, Bool.not_eq_true, isi_none_int, isi_none_bool, isi_none_str, isi_none_tuple, isi_none_list, isi_none_dict, isi_bool_int, isi_bool_bool, isi_bool_str, isi_bool_tuple, isi_bool_list, isi_bool_dict, isi_int_int, isi_int_bool, isi_int_str, isi_int_tuple, isi_int_list, isi_int_dict, isi_str_int, isi_str_bool, isi_str_str, isi_str_tuple, isi_str_list, isi_str_dict, isi_list_int, isi_list_bool, isi_list_str, isi_list_tuple, isi_list_list, isi_list_dict, isi_tuple_int, isi_tuple_bool, isi_tuple_str, isi_tuple_tuple, isi_tuple_list, isi_tuple_dict, isi_dict_int, isi_dict_bool, isi_dict_str, isi_dict_tuple, isi_dict_list, isi_dict_dict]
    refine ⟨_, at_gs gs h4, ?_⟩
    by_cases hg : gs ⟨j, h4⟩ = .no
    · rw [if_neg (by rw [(none_iff _).mpr hg]; simp)]
      exact there_comp its acc (fun q hq => hj q (by simp [hq])) ha fun acc' hl => k acc' (by rw [List.length_cons]; omega)
    · rw [if_pos (by have := (not_congr (none_iff _)).mpr hg; simp [this])]
      refine there_comp its _ (fun q hq => hj q (by simp [hq])) (fun d hd => ?_) fun acc' hl => k acc' (by rw [List.length_cons]; simp at hl; omega)
      rcases List.mem_append.mp hd with hd | hd
      · exact ha d hd
      · simp at hd
        exact ⟨some j, hd, fun k e => by cases e; exact ⟨h4, hg⟩⟩
theorem body__law_core : Bd__law_core := by
  intro n as R h
  obtain ⟨ds, c, pot, deep, rfl, hd, hc, hp, hn, k⟩ := h
  unfold w__law_core
  simp only [w__law_core_0_e, wSeq, wNext, wIfS, wBool, wOp, wAt, wPeek, wName, wC, fIx, wChain, wAndT, wOrT, wNotT, wAndV, wOrV, wNotV, wIf, wNil, wCons, wTup, wLst, wDNew, wFz, fI, fI0, fEq, fNe, fIsN, fIsNot, fAdd, fIn, wC1, wC1F, fLen, fTup, fList, fInt, fAbs, wSlT, wSlL, wNoPart, wPart, wDrop, wRet, wRetF, wRetO, wSet, wSetF, wSetT, wPar, wPut, wBreak, wCont, wItems, wRng1, wRng2, wZip, wEnum, wEnumA, wRev, wFor, wWhile, wLc, wDc, wYes, wCall, wCallF, wCallK, wCallIo, wIsi, wNeg, wGetN, wGetE, wPop2, wAppend, wStar, seqD, fRepT, wDisp, wpCons, wpNil, keysD, dKey, wExtF, fStrI, wCallM, wCallMF, wmNil, wmD, wmS, wmF, avIx, avSls, avSl, avBack, avSet, wParM, List.nodup_nil, List.nodup_cons, List.mem_cons, List.not_mem_nil, or_false, not_false_eq_true, List.drop_succ_cons, List.drop_zero,  wAug, wRepL, wCatO, wCatF, wKeys, wItemsK, bName, bNames, retD, ctD, vd, itemsD, isDict, List.getElem?_cons_zero, List.getElem?_cons_succ, List.set_cons_zero, List.set_cons_succ, List.cons_append, List.nil_append, List.append_nil, List.replicate_succ, List.replicate_zero, List.map_cons, List.map_nil, List.length_cons, List.length_nil, List.zip_cons_cons, List.zip_nil_right, List.zip_nil_left, List.foldl_cons, List.foldl_nil, wipeE, backE, List.getD_cons_zero, List.getD_cons_succ, outsOf, keepPin, List.range_succ, List.range_zero, exS, at0, at1, at2, at3, at4, ix0, ix1, ix2, if_true, if_false, true_and, and_true, Bool.false_eq_true, reduceCtorEq, eqvI, eqvS, eqvB, scalI, scalS, scalB, true_or, decide_eq_true_eq, Bool.not_true, Bool.not_false, Bool.not_eq_true, isi_none_int, isi_none_bool, isi_none_str, isi_none_tuple, isi_none_list, isi_none_dict, isi_bool_int, isi_bool_bool, isi_bool_str, isi_bool_tuple, isi_bool_list, isi_bool_dict, isi_int_int, isi_int_bool, isi_int_str, isi_int_tuple, isi_int_list, isi_int_dict, isi_str_int, isi_str_bool, isi_str_str, isi_str_tuple, isi_str_list, isi_str_dict, isi_list_int, isi_list_bool, isi_list_str, isi_list_tuple, isi_list_list, isi_list_dict, isi_tuple_int, isi_tuple_bool, isi_tuple_str, isi_tuple_tuple, isi_tuple_list, isi_tuple_dict, isi_dict_int, isi_dict_bool, isi_dict_str, isi_dict_tuple, isi_dict_list, isi_dict_dict]
  refine ⟨by decide, by decide, noOwn_of rfl, small_len (by simp), ?_⟩
  refine words_comp (acc := []) (C := c + 24) rfl (by omega) _ ds c hd (by simp) (by simp) fun regs ds1 rl rw h1 => ?_
  simp only [wSeq, wNext, wIfS, wBool, wOp, wAt, wPeek, wName, wC, fIx, wChain, wAndT, wOrT, wNotT, wAndV, wOrV, wNotV, wIf, wNil, wCons, wTup, wLst, wDNew, wFz, fI, fI0, fEq, fNe, fIsN, fIsNot, fAdd, fIn, wC1, wC1F, fLen, fTup, fList, fInt, fAbs, wSlT, wSlL, wNoPart, wPart, wDrop, wRet, wRetF, wRetO, wSet, wSetF, wSetT, wPar, wPut, wBreak, wCont, wItems, wRng1, wRng2, wZip, wEnum, wEnumA, wRev, wFor, wWhile, wLc, wDc, wYes, wCall, wCallF, wCallK, wCallIo, wIsi, wNeg, wGetN, wGetE, wPop2, wAppend, wStar, seqD, fRepT, wDisp, wpCons, wpNil, keysD, dKey, wExtF, fStrI, wCallM, wCallMF, wmNil, wmD, wmS, wmF, avIx, avSls, avSl, avBack, avSet, wParM, List.nodup_nil, List.nodup_cons, List.mem_cons, List.not_mem_nil, or_false, not_false_eq_true, List.drop_succ_cons, List.drop_zero,  wAug, wRepL, wCatO, wCatF, wKeys, wItemsK, bName, bNames, retD, ctD, vd, itemsD, isDict, List.getElem?_cons_zero, List.getElem?_cons_succ, List.set_cons_zero, List.set_cons_succ, List.cons_append, List.nil_append, List.append_nil, List.replicate_succ, List.replicate_zero, List.map_cons, List.map_nil, List.length_cons, List.length_nil, List.zip_cons_cons, List.zip_nil_right, List.zip_nil_left, List.foldl_cons, List.foldl_nil, wipeE, backE, List.getD_cons_zero, List.getD_cons_succ, outsOf, keepPin, List.range_succ, List.range_zero, exS, at0, at1, at2, at3, at4, ix0, ix1, ix2, if_true, if_false, true_and, and_true, Bool.false_eq_true, reduceCtorEq, eqvI, eqvS, eqvB, scalI, scalS, scalB, true_or, decide_eq_true_eq, Bool.not_true, Bool.not_false, Bool.not_eq_true, isi_none_int, isi_none_bool, isi_none_str, isi_none_tuple, isi_none_list, isi_none_dict, isi_bool_int, isi_bool_bool, isi_bool_str, isi_bool_tuple, isi_bool_list, isi_bool_dict, isi_int_int, isi_int_bool, isi_int_str, isi_int_tuple, isi_int_list, isi_int_dict, isi_str_int, isi_str_bool, isi_str_str, isi_str_tuple, isi_str_list, isi_str_dict, isi_list_int, isi_list_bool, isi_list_str, isi_list_tuple, isi_list_list, isi_list_dict, isi_tuple_int, isi_tuple_bool, isi_tuple_str, isi_tuple_tuple, isi_tuple_list, isi_tuple_dict, isi_dict_int, isi_dict_bool, isi_dict_str, isi_dict_tuple, isi_dict_list, isi_dict_dict]
  refine ⟨by decide, ?_⟩
  simp only [w__law_core_1_e, wSeq, wNext, wIfS, wBool, wOp, wAt, wPeek, wName, wC, fIx, wChain, wAndT, wOrT, wNotT, wAndV, wOrV, wNotV, wIf, wNil, wCons, wTup, wLst, wDNew, wFz, fI, fI0, fEq, fNe, fIsN, fIsNot, fAdd, fIn, wC1, wC1F, fLen, fTup, fList, fInt, fAbs, wSlT, wSlL, wNoPart, wPart, wDrop, wRet, wRetF, wRetO, wSet, wSetF, wSetT, wPar, wPut, wBreak, wCont, wItems, wRng1, wRng2, wZip, wEnum, wEnumA, wRev, wFor, wWhile, wLc, wDc, wYes, wCall, wCallF, wCallK, wCallIo, wIsi, wNeg, wGetN, wGetE, wPop2, wAppend, wStar, seqD, fRepT, wDisp, wpCons, wpNil, keysD, dKey, wExtF, fStrI, wCallM, wCallMF, wmNil, wmD, wmS, wmF, avIx, avSls, avSl, avBack, avSet, wParM, List.nodup_nil, List.nodup_cons, List.mem_cons, List.not_mem_nil, or_false, not_false_eq_true, List.drop_succ_cons, List.drop_zero,  wAug, wRepL, wCatO, wCatF, wKeys, wItemsK, bName, bNames, retD, ctD, vd, itemsD, isDict, List.getElem?_cons_zero, List.getElem?_cons_succ, List.set_cons_zero, List.set_cons_succ, List.cons_append, List.nil_append, List.append_nil, List.replicate_succ, List.replicate_zero, List.map_cons, List.map_nil, List.length_cons, List.length_nil, List.zip_cons_cons, List.zip_nil_right, List.zip_nil_left, List.foldl_cons, List.foldl_nil, wipeE, backE, List.getD_cons_zero, List.getD_cons_succ, outsOf, keepPin, List.range_succ, List.range_zero, exS, at0, at1, at2, at3, at4, ix0, ix1, ix2, if_true, if_false, true_and, and_true, Bool.false_eq_true, reduceCtorEq, eqvI, eqvS, eqvB, scalI, scalS, scalB, true_or, decide_eq_true_eq, Bool.not_true, Bool.not_false, Bool.not_eq_true, isi_none_int, isi_none_bool, isi_none_str, isi_none_tuple, isi_none_list, isi_none_dict, isi_bool_int, isi_bool_bool, isi_bool_str, isi_bool_tuple, isi_bool_list, isi_bool_dict, isi_int_int, isi_int_bool, isi_int_str, isi_int_tuple, isi_int_list, isi_int_dict, isi_str_int, isi_str_bool, isi_str_str, isi_str_tuple, isi_str_list, isi_str_dict, isi_list_int, isi_list_bool, isi_list_str, isi_list_tuple, isi_list_list, isi_list_dict, isi_tuple_int, isi_tuple_bool, isi_tuple_str, isi_tuple_tuple, isi_tuple_list, isi_tuple_dict, isi_dict_int, isi_dict_bool, isi_dict_str, isi_dict_tuple, isi_dict_list, isi_dict_dict]
  refine ⟨ds1, _, rfl, h1, by omega, fun pc ds2 hpc h2 => ?_⟩
  simp only [wSeq, wNext, wIfS, wBool, wOp, wAt, wPeek, wName, wC, fIx, wChain, wAndT, wOrT, wNotT, wAndV, wOrV, wNotV, wIf, wNil, wCons, wTup, wLst, wDNew, wFz, fI, fI0, fEq, fNe, fIsN, fIsNot, fAdd, fIn, wC1, wC1F, fLen, fTup, fList, fInt, fAbs, wSlT, wSlL, wNoPart, wPart, wDrop, wRet, wRetF, wRetO, wSet, wSetF, wSetT, wPar, wPut, wBreak, wCont, wItems, wRng1, wRng2, wZip, wEnum, wEnumA, wRev, wFor, wWhile, wLc, wDc, wYes, wCall, wCallF, wCallK, wCallIo, wIsi, wNeg, wGetN, wGetE, wPop2, wAppend, wStar, seqD, fRepT, wDisp, wpCons, wpNil, keysD, dKey, wExtF, fStrI, wCallM, wCallMF, wmNil, wmD, wmS, wmF, avIx, avSls, avSl, avBack, avSet, wParM, List.nodup_nil, List.nodup_cons, List.mem_cons, List.not_mem_nil, or_false, not_false_eq_true, List.drop_succ_cons, List.drop_zero,  wAug, wRepL, wCatO, wCatF, wKeys, wItemsK, bName, bNames, retD, ctD, vd, itemsD, isDict, List.getElem?_cons_zero, List.getElem?_cons_succ, List.set_cons_zero, List.set_cons_succ, List.cons_append, List.nil_append, List.append_nil, List.replicate_succ, List.replicate_zero, List.map_cons, List.map_nil, List.length_cons, List.length_nil, List.zip_cons_cons, List.zip_nil_right, List.zip_nil_left, List.foldl_cons, List.foldl_nil, wipeE, backE, List.getD_cons_zero, List.getD_cons_succ, outsOf, keepPin, List.range_succ, List.range_zero, exS, at0, at1, at2, at3, at4, ix0, ix1, ix2, if_true, if_false, true_and, and_true, Bool.false_eq_true, reduceCtorEq, eqvI, eqvS, eqvB, scalI, scalS, scalB, true_or, decide_eq_true_eq, Bool.not_true, Bool.not_false, Bool.not_eq_true, isi_none_int, isi_none_bool, isi_none_str, isi_none_tuple, isi_none_list, isi_none_dict, isi_bool_int, isi_bool_bool, isi_bool_str, isi_bool_tuple, isi_bool_list, isi_bool_dict, isi_int_int, isi_int_bool, isi_int_str, isi_int_tuple, isi_int_list, isi_int_dict, isi_str_int, isi_str_bool, isi_str_str, isi_str_tuple, isi_str_list, isi_str_dict, isi_list_int, isi_list_bool, isi_list_str, isi_list_tuple, isi_list_list, isi_list_dict, isi_tuple_int, isi_tuple_bool, isi_tuple_str, isi_tuple_tuple, isi_tuple_list, isi_tuple_dict, isi_dict_int, isi_dict_bool, isi_dict_str, isi_dict_tuple, isi_dict_list, isi_dict_dict]
  refine ⟨ds2, _, 1000, rfl, h2, by omega, by decide, by decide, fun t ds3 t0 t1 h3 => ?_⟩
  simp only [wSeq, wNext, wIfS, wBool, wOp, wAt, wPeek, wName, wC, fIx, wChain, wAndT, wOrT, wNotT, wAndV, wOrV, wNotV, wIf, wNil, wCons, wTup, wLst, wDNew, wFz, fI, fI0, fEq, fNe, fIsN, fIsNot, fAdd, fIn, wC1, wC1F, fLen, fTup, fList, fInt, fAbs, wSlT, wSlL, wNoPart, wPart, wDrop, wRet, wRetF, wRetO, wSet, wSetF, wSetT, wPar, wPut, wBreak, wCont, wItems, wRng1, wRng2, wZip, wEnum, wEnumA, wRev, wFor, wWhile, wLc, wDc, wYes, wCall, wCallF, wCallK, wCallIo, wIsi, wNeg, wGetN, wGetE, wPop2, wAppend, wStar, seqD, fRepT, wDisp, wpCons, wpNil, keysD, dKey, wExtF, fStrI, wCallM, wCallMF, wmNil, wmD, wmS, wmF, avIx, avSls, avSl, avBack, avSet, wParM, List.nodup_nil, List.nodup_cons, List.mem_cons, List.not_mem_nil, or_false, not_false_eq_true, List.drop_succ_cons, List.drop_zero,  wAug, wRepL, wCatO, wCatF, wKeys, wItemsK, bName, bNames, retD, ctD, vd, itemsD, isDict, List.getElem?_cons_zero, List.getElem?_cons_succ, List.set_cons_zero, List.set_cons_succ, List.cons_append, List.nil_append, List.append_nil, List.replicate_succ, List.replicate_zero, List.map_cons, List.map_nil, List.length_cons, List.length_nil, List.zip_cons_cons, List.zip_nil_right, List.zip_nil_left, List.foldl_cons, List.foldl_nil, wipeE, backE, List.getD_cons_zero, List.getD_cons_succ, outsOf, keepPin, List.range_succ, List.range_zero, exS, at0, at1, at2, at3, at4, ix0, ix1, ix2, if_true, if_false, true_and, and_true, Bool.false_eq_true, reduceCtorEq, eqvI, eqvS, eqvB, scalI, scalS, scalB, true_or, decide_eq_true_eq, Bool.not_true, Bool.not_false, Bool.not_eq_true, isi_none_int, isi_none_bool, isi_none_str, isi_none_tuple, isi_none_list, isi_none_dict, isi_bool_int, isi_bool_bool, isi_bool_str, isi_bool_tuple, isi_bool_list, isi_bool_dict, isi_int_int, isi_int_bool, isi_int_str, isi_int_tuple, isi_int_list, isi_int_dict, isi_str_int, isi_str_bool, isi_str_str, isi_str_tuple, isi_str_list, isi_str_dict, isi_list_int, isi_list_bool, isi_list_str, isi_list_tuple, isi_list_list, isi_list_dict, isi_tuple_int, isi_tuple_bool, isi_tuple_str, isi_tuple_tuple, isi_tuple_list, isi_tuple_dict, isi_dict_int, isi_dict_bool, isi_dict_str, isi_dict_tuple, isi_dict_list, isi_dict_dict]
  refine ⟨by unfold CPow; decide, by decide, ds3, _, _, rfl, h3, by omega, by simp, by simp, fun x ds4 hx h4 => ?_⟩
  have hcl : ∃ cl : Int, x = .int cl ∧ 0 ≤ cl ∧ cl < 10 ^ 12 := by
    simp only [List.mem_cons, List.not_mem_nil, or_false] at hx
    rcases hx with rfl | rfl | rfl
    · exact ⟨_, rfl, by decide, by decide⟩
    · exact ⟨_, rfl, t0, by omega⟩
    · exact ⟨_, rfl, by decide, by decide⟩
  obtain ⟨cl, rfl, cl0, cl1⟩ := hcl
  simp only [wSeq, wNext, wIfS, wBool, wOp, wAt, wPeek, wName, wC, fIx, wChain, wAndT, wOrT, wNotT, wAndV, wOrV, wNotV, wIf, wNil, wCons, wTup, wLst, wDNew, wFz, fI, fI0, fEq, fNe, fIsN, fIsNot, fAdd, fIn, wC1, wC1F, fLen, fTup, fList, fInt, fAbs, wSlT, wSlL, wNoPart, wPart, wDrop, wRet, wRetF, wRetO, wSet, wSetF, wSetT, wPar, wPut, wBreak, wCont, wItems, wRng1, wRng2, wZip, wEnum, wEnumA, wRev, wFor, wWhile, wLc, wDc, wYes, wCall, wCallF, wCallK, wCallIo, wIsi, wNeg, wGetN, wGetE, wPop2, wAppend, wStar, seqD, fRepT, wDisp, wpCons, wpNil, keysD, dKey, wExtF, fStrI, wCallM, wCallMF, wmNil, wmD, wmS, wmF, avIx, avSls, avSl, avBack, avSet, wParM, List.nodup_nil, List.nodup_cons, List.mem_cons, List.not_mem_nil, or_false, not_false_eq_true, List.drop_succ_cons, List.drop_zero,  wAug, wRepL, wCatO, wCatF, wKeys, wItemsK, bName, bNames, retD, ctD, vd, itemsD, isDict, List.getElem?_cons_zero, List.getElem?_cons_succ, List.set_cons_zero, List.set_cons_succ, List.cons_append, List.nil_append, List.append_nil, List.replicate_succ, List.replicate_zero, List.map_cons, List.map_nil, List.length_cons, List.length_nil, List.zip_cons_cons, List.zip_nil_right, List.zip_nil_left, List.foldl_cons, List.foldl_nil, wipeE, backE, List.getD_cons_zero, List.getD_cons_succ, outsOf, keepPin, List.range_succ, List.range_zero, exS, at0, at1, at2, at3, at4, ix0, ix1, ix2, if_true, if_false, true_and, and_true, Bool.false_eq_true, reduceCtorEq, eqvI, eqvS, eqvB, scalI, scalS, scalB, true_or, decide_eq_true_eq, Bool.not_true, Bool.not_false, Bool.not_eq_true, isi_none_int, isi_none_bool, isi_none_str, isi_none_tuple, isi_none_list, isi_none_dict, isi_bool_int, isi_bool_bool, isi_bool_str, isi_bool_tuple, isi_bool_list, isi_bool_dict, isi_int_int, isi_int_bool, isi_int_str, isi_int_tuple, isi_int_list, isi_int_dict, isi_str_int, isi_str_bool, isi_str_str, isi_str_tuple, isi_str_list, isi_str_dict, isi_list_int, isi_list_bool, isi_list_str, isi_list_tuple, isi_list_list, isi_list_dict, isi_tuple_int, isi_tuple_bool, isi_tuple_str, isi_tuple_tuple, isi_tuple_list, isi_tuple_dict, isi_dict_int, isi_dict_bool, isi_dict_str, isi_dict_tuple, isi_dict_list, isi_dict_dict]
  simp only [w__law_core_2_e, wSeq, wNext, wIfS, wBool, wOp, wAt, wPeek, wName, wC, fIx, wChain, wAndT, wOrT, wNotT, wAndV, wOrV, wNotV, wIf, wNil, wCons, wTup, wLst, wDNew, wFz, fI, fI0, fEq, fNe, fIsN, fIsNot, fAdd, fIn, wC1, wC1F, fLen, fTup, fList, fInt, fAbs, wSlT, wSlL, wNoPart, wPart, wDrop, wRet, wRetF, wRetO, wSet, wSetF, wSetT, wPar, wPut, wBreak, wCont, wItems, wRng1, wRng2, wZip, wEnum, wEnumA, wRev, wFor, wWhile, wLc, wDc, wYes, wCall, wCallF, wCallK, wCallIo, wIsi, wNeg, wGetN, wGetE, wPop2, wAppend, wStar, seqD, fRepT, wDisp, wpCons, wpNil, keysD, dKey, wExtF, fStrI, wCallM, wCallMF, wmNil, wmD, wmS, wmF, avIx, avSls, avSl, avBack, avSet, wParM, List.nodup_nil, List.nodup_cons, List.mem_cons, List.not_mem_nil, or_false, not_false_eq_true, List.drop_succ_cons, List.drop_zero,  wAug, wRepL, wCatO, wCatF, wKeys, wItemsK, bName, bNames, retD, ctD, vd, itemsD, isDict, List.getElem?_cons_zero, List.getElem?_cons_succ, List.set_cons_zero, List.set_cons_succ, List.cons_append, List.nil_append, List.append_nil, List.replicate_succ, List.replicate_zero, List.map_cons, List.map_nil, List.length_cons, List.length_nil, List.zip_cons_cons, List.zip_nil_right, List.zip_nil_left, List.foldl_cons, List.foldl_nil, wipeE, backE, List.getD_cons_zero, List.getD_cons_succ, outsOf, keepPin, List.range_succ, List.range_zero, exS, at0, at1, at2, at3, at4, ix0, ix1, ix2, if_true, if_false, true_and, and_true, Bool.false_eq_true, reduceCtorEq, eqvI, eqvS, eqvB, scalI, scalS, scalB, true_or, decide_eq_true_eq, Bool.not_true, Bool.not_false, Bool.not_eq_true, isi_none_int, isi_none_bool, isi_none_str, isi_none_tuple, isi_none_list, isi_none_dict, isi_bool_int, isi_bool_bool, isi_bool_str, isi_bool_tuple, isi_bool_list, isi_bool_dict, isi_int_int, isi_int_bool, isi_int_str, isi_int_tuple, isi_int_list, isi_int_dict, isi_str_int, isi_str_bool, isi_str_str, isi_str_tuple, isi_str_list, isi_str_dict, isi_list_int, isi_list_bool, isi_list_str, isi_list_tuple, isi_list_list, isi_list_dict, isi_tuple_int, isi_tuple_bool, isi_tuple_str, isi_tuple_tuple, isi_tuple_list, isi_tuple_dict, isi_dict_int, isi_dict_bool, isi_dict_str, isi_dict_tuple, isi_dict_list, isi_dict_dict]
  refine ⟨by decide, by decide, ?_⟩
  have hb1 : 0 < 5 ^ deep := Nat.pow_pos (by decide)
  refine guests_loop (b := 3000 * 5 ^ deep) (C := c + 3000 * 5 ^ deep - 3) hn rfl (by omega) (List.range 4) [] ds4 pot _ _ _ _ (fun b c z => nomatch z) h4 hp (by simp; omega) (by simp) (by simp) fun gl ds5 pot5 s3 s4 s9 h3 h5 hp5 hgl hg => ?_
  simp at hgl
  match gl, hgl with
  | [g0, g1, g2, g3], _ =>
  simp only [w__law_core_3_e, wSeq, wNext, wIfS, wBool, wOp, wAt, wPeek, wName, wC, fIx, wChain, wAndT, wOrT, wNotT, wAndV, wOrV, wNotV, wIf, wNil, wCons, wTup, wLst, wDNew, wFz, fI, fI0, fEq, fNe, fIsN, fIsNot, fAdd, fIn, wC1, wC1F, fLen, fTup, fList, fInt, fAbs, wSlT, wSlL, wNoPart, wPart, wDrop, wRet, wRetF, wRetO, wSet, wSetF, wSetT, wPar, wPut, wBreak, wCont, wItems, wRng1, wRng2, wZip, wEnum, wEnumA, wRev, wFor, wWhile, wLc, wDc, wYes, wCall, wCallF, wCallK, wCallIo, wIsi, wNeg, wGetN, wGetE, wPop2, wAppend, wStar, seqD, fRepT, wDisp, wpCons, wpNil, keysD, dKey, wExtF, fStrI, wCallM, wCallMF, wmNil, wmD, wmS, wmF, avIx, avSls, avSl, avBack, avSet, wParM, List.nodup_nil, List.nodup_cons, List.mem_cons, List.not_mem_nil, or_false, not_false_eq_true, List.drop_succ_cons, List.drop_zero,  wAug, wRepL, wCatO, wCatF, wKeys, wItemsK, bName, bNames, retD, ctD, vd, itemsD, isDict, List.getElem?_cons_zero, List.getElem?_cons_succ, List.set_cons_zero, List.set_cons_succ, List.cons_append, List.nil_append, List.append_nil, List.replicate_succ, List.replicate_zero, List.map_cons, List.map_nil, List.length_cons, List.length_nil, List.zip_cons_cons, List.zip_nil_right, List.zip_nil_left, List.foldl_cons, List.foldl_nil, wipeE, backE, List.getD_cons_zero, List.getD_cons_succ, outsOf, keepPin, List.range_succ, List.range_zero, exS, at0, at1, at2, at3, at4, ix0, ix1, ix2, if_true, if_false, true_and, and_true, Bool.false_eq_true, reduceCtorEq, eqvI, eqvS, eqvB, scalI, scalS, scalB, true_or, decide_eq_true_eq, Bool.not_true, Bool.not_false, Bool.not_eq_true, isi_none_int, isi_none_bool, isi_none_str, isi_none_tuple, isi_none_list, isi_none_dict, isi_bool_int, isi_bool_bool, isi_bool_str, isi_bool_tuple, isi_bool_list, isi_bool_dict, isi_int_int, isi_int_bool, isi_int_str, isi_int_tuple, isi_int_list, isi_int_dict, isi_str_int, isi_str_bool, isi_str_str, isi_str_tuple, isi_str_list, isi_str_dict, isi_list_int, isi_list_bool, isi_list_str, isi_list_tuple, isi_list_list, isi_list_dict, isi_tuple_int, isi_tuple_bool, isi_tuple_str, isi_tuple_tuple, isi_tuple_list, isi_tuple_dict, isi_dict_int, isi_dict_bool, isi_dict_str, isi_dict_tuple, isi_dict_list, isi_dict_dict]
  refine ⟨by decide, by decide, by decide, fun v hv b' c' z => ?_, small_len (by simp), ?_⟩
  · simp only [List.mem_cons, List.not_mem_nil, or_false] at hv
    subst hv
    exact h3 b' c' (Option.some.inj z)
  let gs : Fin 4 → Gst := fun i => [g0, g1, g2, g3][i.val]
  have hgs : ∀ i, (gs i).Ok ∧ (gs i).Le deep := fun i => hg _ (by simp only [gs]; exact List.getElem_mem _)
  have eg : [gD g0, gD g1, gD g2, gD g3] = [gD (gs 0), gD (gs 1), gD (gs 2), gD (gs 3)] := rfl
  rw [eg]
  clear_value gs
  refine there_comp (List.range 4) [] (fun j hj => List.mem_range.mp hj) (by simp) fun acc hl ha => ?_
  have hsome : ∀ d ∈ PyData.none :: acc, Ins gs d := fun d hd => by
    rcases List.mem_cons.mp hd with rfl | hd
    · exact ⟨none, rfl, fun k e => nomatch e⟩
    · exact ha d hd
  simp at hl
  have fin : ∀ (x : D) (ds6 : List D) (c6 : Nat), Ins gs x → Hd c6 ds6 → c6 ≤ c + 3000 * 5 ^ deep → R (.fz (.tuple [intsD regs, .int pc, .int cl, .tuple [gD (gs 0), gD (gs 1), gD (gs 2), gD (gs 3)], x])) [.o true (.l ds6), .o true (.k pot5), .no] := by
    intro x ds6 c6 ⟨o, e, ho⟩ h6 hc6
    subst e
    exact k ⟨regs, pc, cl, o⟩ gs ds6 pot5 ⟨by simpa using rl, rw, hpc, cl0, cl1, ho⟩ (fun i => (hgs i).1) (fun i => (hgs i).2) (h6.mono hc6) hp5
  simp only [wSeq, wNext, wIfS, wBool, wOp, wAt, wPeek, wName, wC, fIx, wChain, wAndT, wOrT, wNotT, wAndV, wOrV, wNotV, wIf, wNil, wCons, wTup, wLst, wDNew, wFz, fI, fI0, fEq, fNe, fIsN, fIsNot, fAdd, fIn, wC1, wC1F, fLen, fTup, fList, fInt, fAbs, wSlT, wSlL, wNoPart, wPart, wDrop, wRet, wRetF, wRetO, wSet, wSetF, wSetT, wPar, wPut, wBreak, wCont, wItems, wRng1, wRng2, wZip, wEnum, wEnumA, wRev, wFor, wWhile, wLc, wDc, wYes, wCall, wCallF, wCallK, wCallIo, wIsi, wNeg, wGetN, wGetE, wPop2, wAppend, wStar, seqD, fRepT, wDisp, wpCons, wpNil, keysD, dKey, wExtF, fStrI, wCallM, wCallMF, wmNil, wmD, wmS, wmF, avIx, avSls, avSl, avBack, avSet, wParM, List.nodup_nil, List.nodup_cons, List.mem_cons, List.not_mem_nil, or_false, not_false_eq_true, List.drop_succ_cons, List.drop_zero,  wAug, wRepL, wCatO, wCatF, wKeys, wItemsK, bName, bNames, retD, ctD, vd, itemsD, isDict, List.getElem?_cons_zero, List.getElem?_cons_succ, List.set_cons_zero, List.set_cons_succ, List.cons_append, List.nil_append, List.append_nil, List.replicate_succ, List.replicate_zero, List.map_cons, List.map_nil, List.length_cons, List.length_nil, List.zip_cons_cons, List.zip_nil_right, List.zip_nil_left, List.foldl_cons, List.foldl_nil, wipeE, backE, List.getD_cons_zero, List.getD_cons_succ, outsOf, keepPin, List.range_succ, List.range_zero, exS, at0, at1, at2, at3, at4, ix0, ix1, ix2, if_true, if_false, true_and, and_true, Bool.false_eq_true, reduceCtorEq, eqvI, eqvS, eqvB, scalI, scalS, scalB, true_or, decide_eq_true_eq, Bool.not_true, Bool.not_false, Bool.not_eq_true, isi_none_int, isi_none_bool, isi_none_str, isi_none_tuple, isi_none_list, isi_none_dict, isi_bool_int, isi_bool_bool, isi_bool_str, isi_bool_tuple, isi_bool_list, isi_bool_dict, isi_int_int, isi_int_bool, isi_int_str, isi_int_tuple, isi_int_list, isi_int_dict, isi_str_int, isi_str_bool, isi_str_str, isi_str_tuple, isi_str_list, isi_str_dict, isi_list_int, isi_list_bool, isi_list_str, isi_list_tuple, isi_list_list, isi_list_dict, isi_tuple_int, isi_tuple_bool, isi_tuple_str, isi_tuple_tuple, isi_tuple_list, isi_tuple_dict, isi_dict_int, isi_dict_bool, isi_dict_str, isi_dict_tuple, isi_dict_list, isi_dict_dict]
  refine ⟨small_len (by omega), ?_⟩
  simp only [w__law_core_4_e, wSeq, wNext, wIfS, wBool, wOp, wAt, wPeek, wName, wC, fIx, wChain, wAndT, wOrT, wNotT, wAndV, wOrV, wNotV, wIf, wNil, wCons, wTup, wLst, wDNew, wFz, fI, fI0, fEq, fNe, fIsN, fIsNot, fAdd, fIn, wC1, wC1F, fLen, fTup, fList, fInt, fAbs, wSlT, wSlL, wNoPart, wPart, wDrop, wRet, wRetF, wRetO, wSet, wSetF, wSetT, wPar, wPut, wBreak, wCont, wItems, wRng1, wRng2, wZip, wEnum, wEnumA, wRev, wFor, wWhile, wLc, wDc, wYes, wCall, wCallF, wCallK, wCallIo, wIsi, wNeg, wGetN, wGetE, wPop2, wAppend, wStar, seqD, fRepT, wDisp, wpCons, wpNil, keysD, dKey, wExtF, fStrI, wCallM, wCallMF, wmNil, wmD, wmS, wmF, avIx, avSls, avSl, avBack, avSet, wParM, List.nodup_nil, List.nodup_cons, List.mem_cons, List.not_mem_nil, or_false, not_false_eq_true, List.drop_succ_cons, List.drop_zero,  wAug, wRepL, wCatO, wCatF, wKeys, wItemsK, bName, bNames, retD, ctD, vd, itemsD, isDict, List.getElem?_cons_zero, List.getElem?_cons_succ, List.set_cons_zero, List.set_cons_succ, List.cons_append, List.nil_append, List.append_nil, List.replicate_succ, List.replicate_zero, List.map_cons, List.map_nil, List.length_cons, List.length_nil, List.zip_cons_cons, List.zip_nil_right, List.zip_nil_left, List.foldl_cons, List.foldl_nil, wipeE, backE, List.getD_cons_zero, List.getD_cons_succ, outsOf, keepPin, List.range_succ, List.range_zero, exS, at0, at1, at2, at3, at4, ix0, ix1, ix2, if_true, if_false, true_and, and_true, Bool.false_eq_true, reduceCtorEq, eqvI, eqvS, eqvB, scalI, scalS, scalB, true_or, decide_eq_true_eq, Bool.not_true, Bool.not_false, Bool.not_eq_true, isi_none_int, isi_none_bool, isi_none_str, isi_none_tuple, isi_none_list, isi_none_dict, isi_bool_int, isi_bool_bool, isi_bool_str, isi_bool_tuple, isi_bool_list, isi_bool_dict, isi_int_int, isi_int_bool, isi_int_str, isi_int_tuple, isi_int_list, isi_int_dict, isi_str_int, isi_str_bool, isi_str_str, isi_str_tuple, isi_str_list, isi_str_dict, isi_list_int, isi_list_bool, isi_list_str, isi_list_tuple, isi_list_list, isi_list_dict, isi_tuple_int, isi_tuple_bool, isi_tuple_str, isi_tuple_tuple, isi_tuple_list, isi_tuple_dict, isi_dict_int, isi_dict_bool, isi_dict_str, isi_dict_tuple, isi_dict_list, isi_dict_dict]
  refine ⟨ds5, _, 2, rfl, h5, by omega, by decide, by decide, fun v ds6 v0 v1 h6 => ?_⟩
  simp only [wSeq, wNext, wIfS, wBool, wOp, wAt, wPeek, wName, wC, fIx, wChain, wAndT, wOrT, wNotT, wAndV, wOrV, wNotV, wIf, wNil, wCons, wTup, wLst, wDNew, wFz, fI, fI0, fEq, fNe, fIsN, fIsNot, fAdd, fIn, wC1, wC1F, fLen, fTup, fList, fInt, fAbs, wSlT, wSlL, wNoPart, wPart, wDrop, wRet, wRetF, wRetO, wSet, wSetF, wSetT, wPar, wPut, wBreak, wCont, wItems, wRng1, wRng2, wZip, wEnum, wEnumA, wRev, wFor, wWhile, wLc, wDc, wYes, wCall, wCallF, wCallK, wCallIo, wIsi, wNeg, wGetN, wGetE, wPop2, wAppend, wStar, seqD, fRepT, wDisp, wpCons, wpNil, keysD, dKey, wExtF, fStrI, wCallM, wCallMF, wmNil, wmD, wmS, wmF, avIx, avSls, avSl, avBack, avSet, wParM, List.nodup_nil, List.nodup_cons, List.mem_cons, List.not_mem_nil, or_false, not_false_eq_true, List.drop_succ_cons, List.drop_zero,  wAug, wRepL, wCatO, wCatF, wKeys, wItemsK, bName, bNames, retD, ctD, vd, itemsD, isDict, List.getElem?_cons_zero, List.getElem?_cons_succ, List.set_cons_zero, List.set_cons_succ, List.cons_append, List.nil_append, List.append_nil, List.replicate_succ, List.replicate_zero, List.map_cons, List.map_nil, List.length_cons, List.length_nil, List.zip_cons_cons, List.zip_nil_right, List.zip_nil_left, List.foldl_cons, List.foldl_nil, wipeE, backE, List.getD_cons_zero, List.getD_cons_succ, outsOf, keepPin, List.range_succ, List.range_zero, exS, at0, at1, at2, at3, at4, ix0, ix1, ix2, if_true, if_false, true_and, and_true, Bool.false_eq_true, reduceCtorEq, eqvI, eqvS, eqvB, scalI, scalS, scalB, true_or, decide_eq_true_eq, Bool.not_true, Bool.not_false, Bool.not_eq_true, isi_none_int, isi_none_bool, isi_none_str, isi_none_tuple, isi_none_list, isi_none_dict, isi_bool_int, isi_bool_bool, isi_bool_str, isi_bool_tuple, isi_bool_list, isi_bool_dict, isi_int_int, isi_int_bool, isi_int_str, isi_int_tuple, isi_int_list, isi_int_dict, isi_str_int, isi_str_bool, isi_str_str, isi_str_tuple, isi_str_list, isi_str_dict, isi_list_int, isi_list_bool, isi_list_str, isi_list_tuple, isi_list_list, isi_list_dict, isi_tuple_int, isi_tuple_bool, isi_tuple_str, isi_tuple_tuple, isi_tuple_list, isi_tuple_dict, isi_dict_int, isi_dict_bool, isi_dict_str, isi_dict_tuple, isi_dict_list, isi_dict_dict]
  by_cases hv : v = 0
  · rw [if_pos hv]
    obtain ⟨d, hd, e⟩ := at_last (xs := .none :: acc) (by simp)
    exact ⟨d, e, by decide, fin d ds6 _ (hsome d hd) h6 (by omega)⟩
  · rw [if_neg hv]
    refine ⟨ds6, _, _, rfl, h6, by omega, by simp, by simp; omega, fun x ds7 hx h7 => ⟨by decide, fin x ds7 _ (hsome x hx) h7 (by omega)⟩⟩

end K23

namespace K23
open PySem PySem.Spec PyProof.Rows L2 G
/-! ### a drawn machine -/
structure Mdr (m : Mch) : Prop where
  ok : m.Ok
  le : ∀ k, (m.gs k).Le 8
  tt : tot m.gs ≤ 3000000
  wl : m.words.length = 10 ∨ m.words.length = 20 ∨ m.words.length = 50
  ll : m.letters.length ≤ 2
  sl : m.sent.length ≤ 2
def sp__law_tree : Spc := fun as R => ∃ (ds : List D) (c : Nat) (most : Int) (deep : Nat), as = [.o true (.l ds), .d (.int most), .d (.int deep)] ∧ Hd c ds ∧ c ≤ 2 ^ 36 ∧ deep ≤ 4 ∧
  ∀ (m : Mch) (ds' : List D), Mdr m → Hd (c + 5000000) ds' → R (.fz (mD m)) [.o true (.l ds'), .no, .no]
theorem len__law_tree : ∀ as R, sp__law_tree as R → as.length = 3 := fun as R ⟨ds, c, m, deep, e, _⟩ => by rw [e]; rfl
def w__law_tree_L1_4 : WS := (wSet 3 (wTup (wCons (wOp fRepT (wTup (wCons (wC (.int 0)) wNil)) (wC (.int 8))) (wCons (wCallIo 0 sp__law_word wNil) (wCons (wC (.int 0)) (wCons (wC1 fTup (wPeek 7)) (wCons (wCallIo 0 sp__law_of (wCons (wFz (wLst (wCons (wName 8) (wCons (wName 8) (wCons (wC .none) wNil))))) wNil)) wNil)))))))
theorem w__law_tree_L1_4_e (E : VD) (ρ : En) : w__law_tree_L1_4 E ρ = (wSet 3 (wTup (wCons (wOp fRepT (wTup (wCons (wC (.int 0)) wNil)) (wC (.int 8))) (wCons (wCallIo 0 sp__law_word wNil) (wCons (wC (.int 0)) (wCons (wC1 fTup (wPeek 7)) (wCons (wCallIo 0 sp__law_of (wCons (wFz (wLst (wCons (wName 8) (wCons (wName 8) (wCons (wC .none) wNil))))) wNil)) wNil))))))) E ρ := rfl
def w__law_tree_L1_3 : WS := (wSeq (wIfS (wBool (wOp fEq (wCallIo 0 sp__law_take (wCons (wC (.int 3)) wNil)) (wC (.int 0)))) (wPut 7 (wOp (fI (fun _ j => 0 < j) fun i j => .int (i % j)) (wOp fAdd (wName 8) (wC (.int 1))) (wC (.int 4))) (wCallM (sp__law_guest 12) (wmS 0 (wmF (wDisp (wpCons (wC (.str "left")) (wC (.int 1)) wpNil)) (wmD (wC (.int 0)) wmNil))))) wNext)
    w__law_tree_L1_4)
theorem w__law_tree_L1_3_e (E : VD) (ρ : En) : w__law_tree_L1_3 E ρ = (wSeq (wIfS (wBool (wOp fEq (wCallIo 0 sp__law_take (wCons (wC (.int 3)) wNil)) (wC (.int 0)))) (wPut 7 (wOp (fI (fun _ j => 0 < j) fun i j => .int (i % j)) (wOp fAdd (wName 8) (wC (.int 1))) (wC (.int 4))) (wCallM (sp__law_guest 12) (wmS 0 (wmF (wDisp (wpCons (wC (.str "left")) (wC (.int 1)) wpNil)) (wmD (wC (.int 0)) wmNil))))) wNext)
    w__law_tree_L1_4) E ρ := rfl
def w__law_tree_L1_2 : WS := (wSeq (wPut 7 (wName 8) (wTup (wCons (wName 3) (wCons (wCallIo 0 sp__law_table wNil) (wCons (wName 9) (wCons (wC .none) wNil))))))
    w__law_tree_L1_3)
theorem w__law_tree_L1_2_e (E : VD) (ρ : En) : w__law_tree_L1_2 E ρ = (wSeq (wPut 7 (wName 8) (wTup (wCons (wName 3) (wCons (wCallIo 0 sp__law_table wNil) (wCons (wName 9) (wCons (wC .none) wNil))))))
    w__law_tree_L1_3) E ρ := rfl
def w__law_tree_L1_1 : WS := (wSeq (wSetF 7 (wLst (wCons (wC .none) (wCons (wC .none) (wCons (wC .none) (wCons (wC .none) wNil))))))
    w__law_tree_L1_2)
theorem w__law_tree_L1_1_e (E : VD) (ρ : En) : w__law_tree_L1_1 E ρ = (wSeq (wSetF 7 (wLst (wCons (wC .none) (wCons (wC .none) (wCons (wC .none) (wCons (wC .none) wNil))))))
    w__law_tree_L1_2) E ρ := rfl
def w__law_tree_L1_0 : WS := (wSeq (wPar 8 9 (wCons (wCallIo 0 sp__law_take (wCons (wC (.int 4)) wNil)) (wCons (wCallIo 0 sp__law_of (wCons (wFz (wLst (wCons (wC (.str "own")) (wCons (wC (.str "true")) wNil)))) wNil)) wNil)))
    w__law_tree_L1_1)
theorem w__law_tree_L1_0_e (E : VD) (ρ : En) : w__law_tree_L1_0 E ρ = (wSeq (wPar 8 9 (wCons (wCallIo 0 sp__law_take (wCons (wC (.int 4)) wNil)) (wCons (wCallIo 0 sp__law_of (wCons (wFz (wLst (wCons (wC (.str "own")) (wCons (wC (.str "true")) wNil)))) wNil)) wNil)))
    w__law_tree_L1_1) E ρ := rfl
def w__law_tree_4 : WS := (wRet (wTup (wCons (wName 5) (wCons (wName 3) (wCons (wName 6) (wCons (wC1 fTup (wFz (wLc [10] (wRng1 (wCallIo 0 sp__law_take (wCons (wC (.int 3)) wNil))) (bName 10) wYes (wCallIo 0 sp__law_word wNil)))) wNil))))))
theorem w__law_tree_4_e (E : VD) (ρ : En) : w__law_tree_4 E ρ = (wRet (wTup (wCons (wName 5) (wCons (wName 3) (wCons (wName 6) (wCons (wC1 fTup (wFz (wLc [10] (wRng1 (wCallIo 0 sp__law_take (wCons (wC (.int 3)) wNil))) (bName 10) wYes (wCallIo 0 sp__law_word wNil)))) wNil)))))) E ρ := rfl
def w__law_tree_3 : WS := (wSeq (wSet 6 (wC1 fTup (wFz (wLc [10] (wRng1 (wCallIo 0 sp__law_take (wCons (wC (.int 3)) wNil))) (bName 10) wYes (wCallIo 0 sp__law_word wNil)))))
    w__law_tree_4)
theorem w__law_tree_3_e (E : VD) (ρ : En) : w__law_tree_3 E ρ = (wSeq (wSet 6 (wC1 fTup (wFz (wLc [10] (wRng1 (wCallIo 0 sp__law_take (wCons (wC (.int 3)) wNil))) (bName 10) wYes (wCallIo 0 sp__law_word wNil)))))
    w__law_tree_4) E ρ := rfl
def w__law_tree_2 : WS := (wSeq (wSet 5 (wC1 fTup (wFz (wLc [10] (wRng1 (wOp (fI CMulA fun i j => .int (i * j)) (wC (.int 10)) (wCallIo 0 sp__law_of (wCons (wFz (wLst (wCons (wC (.int 1)) (wCons (wC (.int 2)) (wCons (wC (.int 5)) wNil))))) wNil)))) (bName 10) wYes (wCallIo 0 sp__law_word wNil)))))
    w__law_tree_3)
theorem w__law_tree_2_e (E : VD) (ρ : En) : w__law_tree_2 E ρ = (wSeq (wSet 5 (wC1 fTup (wFz (wLc [10] (wRng1 (wOp (fI CMulA fun i j => .int (i * j)) (wC (.int 10)) (wCallIo 0 sp__law_of (wCons (wFz (wLst (wCons (wC (.int 1)) (wCons (wC (.int 2)) (wCons (wC (.int 5)) wNil))))) wNil)))) (bName 10) wYes (wCallIo 0 sp__law_word wNil)))))
    w__law_tree_3) E ρ := rfl
def w__law_tree_1 : WS := (wSeq (wFor (wRng1 (wCallIo 0 sp__law_of (wCons (wFz (wLst (wCons (wC (.int 0)) (wCons (wC (.int 0)) (wCons (wC (.int 1)) (wCons (wName 2) wNil)))))) wNil))) (bName 4) w__law_tree_L1_0)
    w__law_tree_2)
theorem w__law_tree_1_e (E : VD) (ρ : En) : w__law_tree_1 E ρ = (wSeq (wFor (wRng1 (wCallIo 0 sp__law_of (wCons (wFz (wLst (wCons (wC (.int 0)) (wCons (wC (.int 0)) (wCons (wC (.int 1)) (wCons (wName 2) wNil)))))) wNil))) (bName 4) w__law_tree_L1_0)
    w__law_tree_2) E ρ := rfl
def w__law_tree_0 : WS := (wSeq (wSet 3 (wCallM (sp__law_core 12) (wmS 0 (wmF (wDisp (wpCons (wC (.str "left")) (wName 1) wpNil)) (wmD (wName 2) wmNil)))))
    w__law_tree_1)
theorem w__law_tree_0_e (E : VD) (ρ : En) : w__law_tree_0 E ρ = (wSeq (wSet 3 (wCallM (sp__law_core 12) (wmS 0 (wmF (wDisp (wpCons (wC (.str "left")) (wName 1) wpNil)) (wmD (wName 2) wmNil)))))
    w__law_tree_1) E ρ := rfl
def w__law_tree : WS := w__law_tree_0
def Bd__law_tree : Prop := Body 3 8 w__law_tree sp__law_tree
def putG (gs : Fin 4 → Gst) (j : Nat) (g : Gst) : Fin 4 → Gst := fun i => if i.val = j then g else gs i
def noG : Fin 4 → Gst := fun _ => .no
theorem set_lst4 (gs : Fin 4 → Gst) {j : Nat} (h : j < 4) (g : Gst) : [gD (gs 0), gD (gs 1), gD (gs 2), gD (gs 3)].set j (gD g) = [gD (putG gs j g 0), gD (putG gs j g 1), gD (putG gs j g 2), gD (putG gs j g 3)] := by
  match j, h with
  | 0, _ => rfl
  | 1, _ => rfl
  | 2, _ => rfl
  | 3, _ => rfl
theorem ixN_lt {n j : Nat} (h : j < n) : ixN n (j : Int) = some j := by unfold ixN; rw [if_pos (by omega), if_pos (by omega)]; simp
theorem putG_at (gs : Fin 4 → Gst) {j : Nat} (h : j < 4) (g : Gst) : putG gs j g ⟨j, h⟩ = g := by unfold putG; simp
theorem tot_putG (gs : Fin 4 → Gst) {j : Nat} (h : j < 4) (g : Gst) : tot (putG gs j g) + gsz (gs ⟨j, h⟩) = tot gs + gsz g := by
  match j, h with
  | 0, _ => show gsz g + gsz (gs 1) + gsz (gs 2) + gsz (gs 3) + gsz (gs 0) = gsz (gs 0) + gsz (gs 1) + gsz (gs 2) + gsz (gs 3) + gsz g; omega
  | 1, _ => show gsz (gs 0) + gsz g + gsz (gs 2) + gsz (gs 3) + gsz (gs 1) = gsz (gs 0) + gsz (gs 1) + gsz (gs 2) + gsz (gs 3) + gsz g; omega
  | 2, _ => show gsz (gs 0) + gsz (gs 1) + gsz g + gsz (gs 3) + gsz (gs 2) = gsz (gs 0) + gsz (gs 1) + gsz (gs 2) + gsz (gs 3) + gsz g; omega
  | 3, _ => show gsz (gs 0) + gsz (gs 1) + gsz (gs 2) + gsz g + gsz (gs 3) = gsz (gs 0) + gsz (gs 1) + gsz (gs 2) + gsz (gs 3) + gsz g; omega
theorem nest_loop {E : VD} {most : Int} {deep : Nat} {C : Nat} (hC : C ≤ 2 ^ 37) : ∀ (its : List D) (cd : Cd) (gs : Fin 4 → Gst) (ds : List D) (c d : Nat) (s4 s5 s6 s7 s8 s9 : Sl), Hd c ds → c + 4000 * its.length ≤ C → cd.Ok gs → (∀ k, (gs k).Ok) → (∀ k, (gs k).Le d) → d + its.length ≤ 8 → tot gs + 20000 * its.length ≤ 3000000 →
    (∀ (cd : Cd) (gs : Fin 4 → Gst) (ds : List D) (s4 s5 s6 s7 s8 s9 : Sl), Hd C ds → cd.Ok gs → (∀ k, (gs k).Ok) → (∀ k, (gs k).Le 8) → tot gs ≤ 3000000 → E.nx [.o true (.l ds), .d (.int most), .d (.int deep), .d (coreD cd gs), s4, s5, s6, s7, s8, s9, .no]) →
    wForL (bName 4) w__law_tree_L1_0 E its [.o true (.l ds), .d (.int most), .d (.int deep), .d (coreD cd gs), s4, s5, s6, s7, s8, s9, .no]
  | [], cd, gs, ds, c, d, s4, s5, s6, s7, s8, s9, hd, hc, ok, oks, hle, h8, ht, k => k cd gs ds _ _ _ _ _ _ (hd.mono (by simpa using hc)) ok oks (fun i => (hle i).mono (by simpa using h8)) (by simpa using ht)
  | it :: its, cd, gs, ds, c, d, s4, s5, s6, s7, s8, s9, hd, hc, ok, oks, hle, h8, ht, k => by
    rw [List.length_cons] at hc h8 ht
    unfold wForL
    simp only [w__law_tree_L1_0_e, wSeq, wNext, wIfS, wBool, wOp, wAt, wPeek, wName, wC, fIx, wChain, wAndT, wOrT, wNotT, wAndV, wOrV, wNotV, wIf, wNil, wCons, wTup, wLst, wDNew, wFz, fI, fI0, fEq, fNe, fIsN, fIsNot, fAdd, fIn, wC1, wC1F, fLen, fTup, fList, fInt, fAbs, wSlT, wSlL, wNoPart, wPart, wDrop, wRet, wRetF, wRetO, wSet, wSetF, wSetT, wPar, wPut, wBreak, wCont, wItems, wRng1, wRng2, wZip, wEnum, wEnumA, wRev, wFor, wWhile, wLc, wDc, wYes, wCall, wCallF, wCallK, wCallIo, wIsi, wNeg, wGetN, wGetE, wPop2, wAppend, wStar, seqD, fRepT, wDisp, wpCons, wpNil, keysD, dKey, wExtF, fStrI, wCallM, wCallMF, wmNil, wmD, wmS, wmF, avIx, avSls, avSl, avBack, avSet, wParM, List.nodup_nil, List.nodup_cons, List.mem_cons, List.not_mem_nil, or_false, not_false_eq_true, List.drop_succ_cons, List.drop_zero,  wAug, wRepL, wCatO, wCatF, wKeys, wItemsK, bName, bNames, retD, ctD, vd, itemsD, isDict, List.getElem?_cons_zero, List.getElem?_cons_succ, List.set_cons_zero, List.set_cons_succ, List.cons_append, List.nil_append, List.append_nil, List.replicate_succ, List.replicate_zero, List.map_cons, List.map_nil, List.length_cons, List.length_nil, List.zip_cons_cons, List.zip_nil_right, List.zip_nil_left, List.foldl_cons, List.foldl_nil, wipeE, backE, List.getD_cons_zero, List.getD_cons_succ, outsOf, keepPin, List.range_succ, List.range_zero, exS, at0, at1, at2, at3, at4, ix0, ix1, ix2, if_true, if_false, true_and, and_true, Bool.false_eq_true, reduceCtorEq, eqvI, eqvS, eqvB, scalI, scalS, scalB, true_or, decide_eq_true_eq, Bool.not_true, Bool.not_false, Bool.not_eq_true, isi_none_int, isi_none_bool, isi_none_str, isi_none_tuple, isi_none_list, isi_none_dict, isi_bool_int, isi_bool_bool, isi_bool_str, isi_bool_tuple, isi_bool_list, isi_bool_dict, isi_int_int, isi_int_bool, isi_int_str, isi_int_tuple, isi_int_list, isi_int_dict, isi_str_int, isi_str_bool, isi_str_str, isi_str_tuple, isi_str_list, isi_str_dict, isi_list_int, isi_list_bool, isi_list_str, isi_list_tuple, isi_list_list, isi_list_dict, isi_tuple_int, isi_tuple_bool, isi_tuple_str, isi_tuple_tuple, isi_tuple_list, isi_tuple_dict, isi_dict_int, isi_dict_bool, isi_dict_str, isi_dict_tuple, isi_dict_list, isi_dict_dict]
    refine ⟨ds, c, 4, rfl, hd, by omega, by decide, by decide, fun v ds1 v0 v1 h1 => ?_⟩
    obtain ⟨v, rfl⟩ := Int.eq_ofNat_of_zero_le v0
    simp only [wSeq, wNext, wIfS, wBool, wOp, wAt, wPeek, wName, wC, fIx, wChain, wAndT, wOrT, wNotT, wAndV, wOrV, wNotV, wIf, wNil, wCons, wTup, wLst, wDNew, wFz, fI, fI0, fEq, fNe, fIsN, fIsNot, fAdd, fIn, wC1, wC1F, fLen, fTup, fList, fInt, fAbs, wSlT, wSlL, wNoPart, wPart, wDrop, wRet, wRetF, wRetO, wSet, wSetF, wSetT, wPar, wPut, wBreak, wCont, wItems, wRng1, wRng2, wZip, wEnum, wEnumA, wRev, wFor, wWhile, wLc, wDc, wYes, wCall, wCallF, wCallK, wCallIo, wIsi, wNeg, wGetN, wGetE, wPop2, wAppend, wStar, seqD, fRepT, wDisp, wpCons, wpNil, keysD, dKey, wExtF, fStrI, wCallM, wCallMF, wmNil, wmD, wmS, wmF, avIx, avSls, avSl, avBack, avSet, wParM, List.nodup_nil, List.nodup_cons, List.mem_cons, List.not_mem_nil, or_false, not_false_eq_true, List.drop_succ_cons, List.drop_zero,  wAug, wRepL, wCatO, wCatF, wKeys, wItemsK, bName, bNames, retD, ctD, vd, itemsD, isDict, List.getElem?_cons_zero, List.getElem?_cons_succ, List.set_cons_zero, List.set_cons_succ, List.cons_append, List.nil_append, List.append_nil, List.replicate_succ, List.replicate_zero, List.map_cons, List.map_nil, List.length_cons, List.length_nil, List.zip_cons_cons, List.zip_nil_right, List.zip_nil_left, List.foldl_cons, List.foldl_nil, wipeE, backE, List.getD_cons_zero, List.getD_cons_succ, outsOf, keepPin, List.range_succ, List.range_zero, exS, at0, at1, at2, at3, at4, ix0, ix1, ix2, if_true, if_false, true_and, and_true, Bool.false_eq_true, reduceCtorEq, eqvI, eqvS, eqvB, scalI, scalS, scalB, true_or, decide_eq_true_eq, Bool.not_true, Bool.not_false, Bool.not_eq_true, isi_none_int, isi_none_bool, isi_none_str, isi_none_tuple, isi_none_list, isi_none_dict, isi_bool_int, isi_bool_bool, isi_bool_str, isi_bool_tuple, isi_bool_list, isi_bool_dict, isi_int_int, isi_int_bool, isi_int_str, isi_int_tuple, isi_int_list, isi_int_dict, isi_str_int, isi_str_bool, isi_str_str, isi_str_tuple, isi_str_list, isi_str_dict, isi_list_int, isi_list_bool, isi_list_str, isi_list_tuple, isi_list_list, isi_list_dict, isi_tuple_int, isi_tuple_bool, isi_tuple_str, isi_tuple_tuple, isi_tuple_list, isi_tuple_dict, isi_dict_int, isi_dict_bool, isi_dict_str, isi_dict_tuple, isi_dict_list, isi_dict_dict]
    refine ⟨by decide, ds1, _, _, rfl, h1, by omega, by simp, by simp, fun x ds2 hx h2 => ?_⟩
    obtain ⟨w, rfl⟩ := ways_of hx
    simp only [wSeq, wNext, wIfS, wBool, wOp, wAt, wPeek, wName, wC, fIx, wChain, wAndT, wOrT, wNotT, wAndV, wOrV, wNotV, wIf, wNil, wCons, wTup, wLst, wDNew, wFz, fI, fI0, fEq, fNe, fIsN, fIsNot, fAdd, fIn, wC1, wC1F, fLen, fTup, fList, fInt, fAbs, wSlT, wSlL, wNoPart, wPart, wDrop, wRet, wRetF, wRetO, wSet, wSetF, wSetT, wPar, wPut, wBreak, wCont, wItems, wRng1, wRng2, wZip, wEnum, wEnumA, wRev, wFor, wWhile, wLc, wDc, wYes, wCall, wCallF, wCallK, wCallIo, wIsi, wNeg, wGetN, wGetE, wPop2, wAppend, wStar, seqD, fRepT, wDisp, wpCons, wpNil, keysD, dKey, wExtF, fStrI, wCallM, wCallMF, wmNil, wmD, wmS, wmF, avIx, avSls, avSl, avBack, avSet, wParM, List.nodup_nil, List.nodup_cons, List.mem_cons, List.not_mem_nil, or_false, not_false_eq_true, List.drop_succ_cons, List.drop_zero,  wAug, wRepL, wCatO, wCatF, wKeys, wItemsK, bName, bNames, retD, ctD, vd, itemsD, isDict, List.getElem?_cons_zero, List.getElem?_cons_succ, List.set_cons_zero, List.set_cons_succ, List.cons_append, List.nil_append, List.append_nil, List.replicate_succ, List.replicate_zero, List.map_cons, List.map_nil, List.length_cons, List.length_nil, List.zip_cons_cons, List.zip_nil_right, List.zip_nil_left, List.foldl_cons, List.foldl_nil, wipeE, backE, List.getD_cons_zero, List.getD_cons_succ, outsOf, keepPin, List.range_succ, List.range_zero, exS, at0, at1, at2, at3, at4, ix0, ix1, ix2, if_true, if_false, true_and, and_true, Bool.false_eq_true, reduceCtorEq, eqvI, eqvS, eqvB, scalI, scalS, scalB, true_or, decide_eq_true_eq, Bool.not_true, Bool.not_false, Bool.not_eq_true, isi_none_int, isi_none_bool, isi_none_str, isi_none_tuple, isi_none_list, isi_none_dict, isi_bool_int, isi_bool_bool, isi_bool_str, isi_bool_tuple, isi_bool_list, isi_bool_dict, isi_int_int, isi_int_bool, isi_int_str, isi_int_tuple, isi_int_list, isi_int_dict, isi_str_int, isi_str_bool, isi_str_str, isi_str_tuple, isi_str_list, isi_str_dict, isi_list_int, isi_list_bool, isi_list_str, isi_list_tuple, isi_list_list, isi_list_dict, isi_tuple_int, isi_tuple_bool, isi_tuple_str, isi_tuple_tuple, isi_tuple_list, isi_tuple_dict, isi_dict_int, isi_dict_bool, isi_dict_str, isi_dict_tuple, isi_dict_list, isi_dict_dict]
    simp only [w__law_tree_L1_1_e, wSeq, wNext, wIfS, wBool, wOp, wAt, wPeek, wName, wC, fIx, wChain, wAndT, wOrT, wNotT, wAndV, wOrV, wNotV, wIf, wNil, wCons, wTup, wLst, wDNew, wFz, fI, fI0, fEq, fNe, fIsN, fIsNot, fAdd, fIn, wC1, wC1F, fLen, fTup, fList, fInt, fAbs, wSlT, wSlL, wNoPart, wPart, wDrop, wRet, wRetF, wRetO, wSet, wSetF, wSetT, wPar, wPut, wBreak, wCont, wItems, wRng1, wRng2, wZip, wEnum, wEnumA, wRev, wFor, wWhile, wLc, wDc, wYes, wCall, wCallF, wCallK, wCallIo, wIsi, wNeg, wGetN, wGetE, wPop2, wAppend, wStar, seqD, fRepT, wDisp, wpCons, wpNil, keysD, dKey, wExtF, fStrI, wCallM, wCallMF, wmNil, wmD, wmS, wmF, avIx, avSls, avSl, avBack, avSet, wParM, List.nodup_nil, List.nodup_cons, List.mem_cons, List.not_mem_nil, or_false, not_false_eq_true, List.drop_succ_cons, List.drop_zero,  wAug, wRepL, wCatO, wCatF, wKeys, wItemsK, bName, bNames, retD, ctD, vd, itemsD, isDict, List.getElem?_cons_zero, List.getElem?_cons_succ, List.set_cons_zero, List.set_cons_succ, List.cons_append, List.nil_append, List.append_nil, List.replicate_succ, List.replicate_zero, List.map_cons, List.map_nil, List.length_cons, List.length_nil, List.zip_cons_cons, List.zip_nil_right, List.zip_nil_left, List.foldl_cons, List.foldl_nil, wipeE, backE, List.getD_cons_zero, List.getD_cons_succ, outsOf, keepPin, List.range_succ, List.range_zero, exS, at0, at1, at2, at3, at4, ix0, ix1, ix2, if_true, if_false, true_and, and_true, Bool.false_eq_true, reduceCtorEq, eqvI, eqvS, eqvB, scalI, scalS, scalB, true_or, decide_eq_true_eq, Bool.not_true, Bool.not_false, Bool.not_eq_true, isi_none_int, isi_none_bool, isi_none_str, isi_none_tuple, isi_none_list, isi_none_dict, isi_bool_int, isi_bool_bool, isi_bool_str, isi_bool_tuple, isi_bool_list, isi_bool_dict, isi_int_int, isi_int_bool, isi_int_str, isi_int_tuple, isi_int_list, isi_int_dict, isi_str_int, isi_str_bool, isi_str_str, isi_str_tuple, isi_str_list, isi_str_dict, isi_list_int, isi_list_bool, isi_list_str, isi_list_tuple, isi_list_list, isi_list_dict, isi_tuple_int, isi_tuple_bool, isi_tuple_str, isi_tuple_tuple, isi_tuple_list, isi_tuple_dict, isi_dict_int, isi_dict_bool, isi_dict_str, isi_dict_tuple, isi_dict_list, isi_dict_dict]
    refine ⟨by decide, ?_⟩
    simp only [w__law_tree_L1_2_e, wSeq, wNext, wIfS, wBool, wOp, wAt, wPeek, wName, wC, fIx, wChain, wAndT, wOrT, wNotT, wAndV, wOrV, wNotV, wIf, wNil, wCons, wTup, wLst, wDNew, wFz, fI, fI0, fEq, fNe, fIsN, fIsNot, fAdd, fIn, wC1, wC1F, fLen, fTup, fList, fInt, fAbs, wSlT, wSlL, wNoPart, wPart, wDrop, wRet, wRetF, wRetO, wSet, wSetF, wSetT, wPar, wPut, wBreak, wCont, wItems, wRng1, wRng2, wZip, wEnum, wEnumA, wRev, wFor, wWhile, wLc, wDc, wYes, wCall, wCallF, wCallK, wCallIo, wIsi, wNeg, wGetN, wGetE, wPop2, wAppend, wStar, seqD, fRepT, wDisp, wpCons, wpNil, keysD, dKey, wExtF, fStrI, wCallM, wCallMF, wmNil, wmD, wmS, wmF, avIx, avSls, avSl, avBack, avSet, wParM, List.nodup_nil, List.nodup_cons, List.mem_cons, List.not_mem_nil, or_false, not_false_eq_true, List.drop_succ_cons, List.drop_zero,  wAug, wRepL, wCatO, wCatF, wKeys, wItemsK, bName, bNames, retD, ctD, vd, itemsD, isDict, List.getElem?_cons_zero, List.getElem?_cons_succ, List.set_cons_zero, List.set_cons_succ, List.cons_append, List.nil_append, List.append_nil, List.replicate_succ, List.replicate_zero, List.map_cons, List.map_nil, List.length_cons, List.length_nil, List.zip_cons_cons, List.zip_nil_right, List.zip_nil_left, List.foldl_cons, List.foldl_nil, wipeE, backE, List.getD_cons_zero, List.getD_cons_succ, outsOf, keepPin, List.range_succ, List.range_zero, exS, at0, at1, at2, at3, at4, ix0, ix1, ix2, if_true, if_false, true_and, and_true, Bool.false_eq_true, reduceCtorEq, eqvI, eqvS, eqvB, scalI, scalS, scalB, true_or, decide_eq_true_eq, Bool.not_true, Bool.not_false, Bool.not_eq_true, isi_none_int, isi_none_bool, isi_none_str, isi_none_tuple, isi_none_list, isi_none_dict, isi_bool_int, isi_bool_bool, isi_bool_str, isi_bool_tuple, isi_bool_list, isi_bool_dict, isi_int_int, isi_int_bool, isi_int_str, isi_int_tuple, isi_int_list, isi_int_dict, isi_str_int, isi_str_bool, isi_str_str, isi_str_tuple, isi_str_list, isi_str_dict, isi_list_int, isi_list_bool, isi_list_str, isi_list_tuple, isi_list_list, isi_list_dict, isi_tuple_int, isi_tuple_bool, isi_tuple_str, isi_tuple_tuple, isi_tuple_list, isi_tuple_dict, isi_dict_int, isi_dict_bool, isi_dict_str, isi_dict_tuple, isi_dict_list, isi_dict_dict]
    refine ⟨ds2, _, rfl, h2, by omega, fun es ds3 tk tl h3 => ?_⟩
    simp only [wSeq, wNext, wIfS, wBool, wOp, wAt, wPeek, wName, wC, fIx, wChain, wAndT, wOrT, wNotT, wAndV, wOrV, wNotV, wIf, wNil, wCons, wTup, wLst, wDNew, wFz, fI, fI0, fEq, fNe, fIsN, fIsNot, fAdd, fIn, wC1, wC1F, fLen, fTup, fList, fInt, fAbs, wSlT, wSlL, wNoPart, wPart, wDrop, wRet, wRetF, wRetO, wSet, wSetF, wSetT, wPar, wPut, wBreak, wCont, wItems, wRng1, wRng2, wZip, wEnum, wEnumA, wRev, wFor, wWhile, wLc, wDc, wYes, wCall, wCallF, wCallK, wCallIo, wIsi, wNeg, wGetN, wGetE, wPop2, wAppend, wStar, seqD, fRepT, wDisp, wpCons, wpNil, keysD, dKey, wExtF, fStrI, wCallM, wCallMF, wmNil, wmD, wmS, wmF, avIx, avSls, avSl, avBack, avSet, wParM, List.nodup_nil, List.nodup_cons, List.mem_cons, List.not_mem_nil, or_false, not_false_eq_true, List.drop_succ_cons, List.drop_zero,  wAug, wRepL, wCatO, wCatF, wKeys, wItemsK, bName, bNames, retD, ctD, vd, itemsD, isDict, List.getElem?_cons_zero, List.getElem?_cons_succ, List.set_cons_zero, List.set_cons_succ, List.cons_append, List.nil_append, List.append_nil, List.replicate_succ, List.replicate_zero, List.map_cons, List.map_nil, List.length_cons, List.length_nil, List.zip_cons_cons, List.zip_nil_right, List.zip_nil_left, List.foldl_cons, List.foldl_nil, wipeE, backE, List.getD_cons_zero, List.getD_cons_succ, outsOf, keepPin, List.range_succ, List.range_zero, exS, at0, at1, at2, at3, at4, ix0, ix1, ix2, if_true, if_false, true_and, and_true, Bool.false_eq_true, reduceCtorEq, eqvI, eqvS, eqvB, scalI, scalS, scalB, true_or, decide_eq_true_eq, Bool.not_true, Bool.not_false, Bool.not_eq_true, isi_none_int, isi_none_bool, isi_none_str, isi_none_tuple, isi_none_list, isi_none_dict, isi_bool_int, isi_bool_bool, isi_bool_str, isi_bool_tuple, isi_bool_list, isi_bool_dict, isi_int_int, isi_int_bool, isi_int_str, isi_int_tuple, isi_int_list, isi_int_dict, isi_str_int, isi_str_bool, isi_str_str, isi_str_tuple, isi_str_list, isi_str_dict, isi_list_int, isi_list_bool, isi_list_str, isi_list_tuple, isi_list_list, isi_list_dict, isi_tuple_int, isi_tuple_bool, isi_tuple_str, isi_tuple_tuple, isi_tuple_list, isi_tuple_dict, isi_dict_int, isi_dict_bool, isi_dict_str, isi_dict_tuple, isi_dict_list, isi_dict_dict]
    have hv4 : v < 4 := by omega
    refine ⟨by decide, v, ixN_lt hv4, ?_⟩
    have e0 : [PyData.none, .none, .none, .none] = [gD (noG 0), gD (noG 1), gD (noG 2), gD (noG 3)] := rfl
    have eg : PyData.tuple [coreD cd gs, tbl es, wayD w, .none] = gD (.mk cd gs es w none) := rfl
    rw [eg, e0, set_lst4 noG hv4]
    have okg : (Gst.mk cd gs es w none).Ok := ⟨ok, tk, (fun x e => nomatch e), oks⟩
    have leg : (Gst.mk cd gs es w none).Le (d + 1) := hle
    have p1 : ∀ i, (putG noG v (.mk cd gs es w none) i).Ok ∧ (putG noG v (.mk cd gs es w none) i).Le (d + 1) := fun i => by
      unfold putG
      split
      · exact ⟨okg, leg⟩
      · exact ⟨trivial, trivial⟩
    have pv : putG noG v (.mk cd gs es w none) ⟨v, hv4⟩ ≠ .no := by rw [putG_at]; exact fun z => nomatch z
    have pt : tot (putG noG v (.mk cd gs es w none)) ≤ tot gs + 7012 := by
      have := tot_putG noG hv4 (.mk cd gs es w none)
      rw [gsz_mk] at this
      have e : tot noG = 16 := rfl
      have e2 : gsz (noG ⟨v, hv4⟩) = 4 := rfl
      omega
    generalize putG noG v (.mk cd gs es w none) = hs at p1 pv pt
    have fin : ∀ (hs : Fin 4 → Gst) (ds4 : List D) (c4 : Nat) (s4 s5 s6 : Sl), (∀ i, (hs i).Ok ∧ (hs i).Le (d + 1)) → hs ⟨v, hv4⟩ ≠ .no → tot hs ≤ tot gs + 15000 → Hd c4 ds4 → c4 + 4 + 4000 * its.length ≤ C → w__law_tree_L1_4 ⟨fun ρ2 => wForL (bName 4) w__law_tree_L1_0 E its ρ2, E.rt, E.nx, fun ρ2 => wForL (bName 4) w__law_tree_L1_0 E its ρ2⟩ [.o true (.l ds4), .d (.int most), .d (.int deep), .d (coreD cd gs), s4, s5, s6, .o false (.l [gD (hs 0), gD (hs 1), gD (hs 2), gD (hs 3)]), .d (.int (v : Int)), .d (wayD w), .no] := by
      intro hs ds4 c4 s4 s5 s6 p1 pv pt h4 hc4
      simp only [w__law_tree_L1_4_e, wSeq, wNext, wIfS, wBool, wOp, wAt, wPeek, wName, wC, fIx, wChain, wAndT, wOrT, wNotT, wAndV, wOrV, wNotV, wIf, wNil, wCons, wTup, wLst, wDNew, wFz, fI, fI0, fEq, fNe, fIsN, fIsNot, fAdd, fIn, wC1, wC1F, fLen, fTup, fList, fInt, fAbs, wSlT, wSlL, wNoPart, wPart, wDrop, wRet, wRetF, wRetO, wSet, wSetF, wSetT, wPar, wPut, wBreak, wCont, wItems, wRng1, wRng2, wZip, wEnum, wEnumA, wRev, wFor, wWhile, wLc, wDc, wYes, wCall, wCallF, wCallK, wCallIo, wIsi, wNeg, wGetN, wGetE, wPop2, wAppend, wStar, seqD, fRepT, wDisp, wpCons, wpNil, keysD, dKey, wExtF, fStrI, wCallM, wCallMF, wmNil, wmD, wmS, wmF, avIx, avSls, avSl, avBack, avSet, wParM, List.nodup_nil, List.nodup_cons, List.mem_cons, List.not_mem_nil, or_false, not_false_eq_true, List.drop_succ_cons, List.drop_zero,  wAug, wRepL, wCatO, wCatF, wKeys, wItemsK, bName, bNames, retD, ctD, vd, itemsD, isDict, List.getElem?_cons_zero, List.getElem?_cons_succ, List.set_cons_zero, List.set_cons_succ, List.cons_append, List.nil_append, List.append_nil, List.replicate_succ, List.replicate_zero, List.map_cons, List.map_nil, List.length_cons, List.length_nil, List.zip_cons_cons, List.zip_nil_right, List.zip_nil_left, List.foldl_cons, List.foldl_nil, wipeE, backE, List.getD_cons_zero, List.getD_cons_succ, outsOf, keepPin, List.range_succ, List.range_zero, exS, at0, at1, at2, at3, at4, ix0, ix1, ix2, if_true, if_false, true_and, and_true, Bool.false_eq_true, reduceCtorEq, eqvI, eqvS, eqvB, scalI, scalS, scalB, true_or, decide_eq_true_eq, Bool.not_true, Bool.not_false, Bool.not_eq_true, isi_none_int, isi_none_bool, isi_none_str, isi_none_tuple, isi_none_list, isi_none_dict, isi_bool_int, isi_bool_bool, isi_bool_str, isi_bool_tuple, isi_bool_list, isi_bool_dict, isi_int_int, isi_int_bool, isi_int_str, isi_int_tuple, isi_int_list, isi_int_dict, isi_str_int, isi_str_bool, isi_str_str, isi_str_tuple, isi_str_list, isi_str_dict, isi_list_int, isi_list_bool, isi_list_str, isi_list_tuple, isi_list_list, isi_list_dict, isi_tuple_int, isi_tuple_bool, isi_tuple_str, isi_tuple_tuple, isi_tuple_list, isi_tuple_dict, isi_dict_int, isi_dict_bool, isi_dict_str, isi_dict_tuple, isi_dict_list, isi_dict_dict]
      refine ⟨by decide, by simp, by decide, by decide, by decide, ds4, c4, rfl, h4, by omega, fun pc ds5 hpc h5 => ?_⟩
      simp only [wSeq, wNext, wIfS, wBool, wOp, wAt, wPeek, wName, wC, fIx, wChain, wAndT, wOrT, wNotT, wAndV, wOrV, wNotV, wIf, wNil, wCons, wTup, wLst, wDNew, wFz, fI, fI0, fEq, fNe, fIsN, fIsNot, fAdd, fIn, wC1, wC1F, fLen, fTup, fList, fInt, fAbs, wSlT, wSlL, wNoPart, wPart, wDrop, wRet, wRetF, wRetO, wSet, wSetF, wSetT, wPar, wPut, wBreak, wCont, wItems, wRng1, wRng2, wZip, wEnum, wEnumA, wRev, wFor, wWhile, wLc, wDc, wYes, wCall, wCallF, wCallK, wCallIo, wIsi, wNeg, wGetN, wGetE, wPop2, wAppend, wStar, seqD, fRepT, wDisp, wpCons, wpNil, keysD, dKey, wExtF, fStrI, wCallM, wCallMF, wmNil, wmD, wmS, wmF, avIx, avSls, avSl, avBack, avSet, wParM, List.nodup_nil, List.nodup_cons, List.mem_cons, List.not_mem_nil, or_false, not_false_eq_true, List.drop_succ_cons, List.drop_zero,  wAug, wRepL, wCatO, wCatF, wKeys, wItemsK, bName, bNames, retD, ctD, vd, itemsD, isDict, List.getElem?_cons_zero, List.getElem?_cons_succ, List.set_cons_zero, List.set_cons_succ, List.cons_append, List.nil_append, List.append_nil, List.replicate_succ, List.replicate_zero, List.map_cons, List.map_nil, List.length_cons, List.length_nil, List.zip_cons_cons, List.zip_nil_right, List.zip_nil_left, List.foldl_cons, List.foldl_nil, wipeE, backE, List.getD_cons_zero, List.getD_cons_succ, outsOf, keepPin, List.range_succ, List.range_zero, exS, at0, at1, at2, at3, at4, ix0, ix1, ix2, if_true, if_false, true_and, and_true, Bool.false_eq_true, reduceCtorEq, eqvI, eqvS, eqvB, scalI, scalS, scalB, true_or, decide_eq_true_eq, Bool.not_true, Bool.not_false, Bool.not_eq_true, isi_none_int, isi_none_bool, isi_none_str, isi_none_tuple, isi_none_list, isi_none_dict, isi_bool_int, isi_bool_bool, isi_bool_str, isi_bool_tuple, isi_bool_list, isi_bool_dict, isi_int_int, isi_int_bool, isi_int_str, isi_int_tuple, isi_int_list, isi_int_dict, isi_str_int, isi_str_bool, isi_str_str, isi_str_tuple, isi_str_list, isi_str_dict, isi_list_int, isi_list_bool, isi_list_str, isi_list_tuple, isi_list_list, isi_list_dict, isi_tuple_int, isi_tuple_bool, isi_tuple_str, isi_tuple_tuple, isi_tuple_list, isi_tuple_dict, isi_dict_int, isi_dict_bool, isi_dict_str, isi_dict_tuple, isi_dict_list, isi_dict_dict]
      refine ⟨by decide, ds5, _, _, rfl, h5, by omega, by simp, by simp, fun x ds6 hx h6 => ?_⟩
      obtain ⟨o, rfl, ho⟩ : Ins hs x := by
        simp only [List.mem_cons, List.not_mem_nil, or_false] at hx
        rcases hx with rfl | rfl | rfl
        · exact ⟨some v, rfl, fun k e => by cases e; exact ⟨hv4, pv⟩⟩
        · exact ⟨some v, rfl, fun k e => by cases e; exact ⟨hv4, pv⟩⟩
        · exact ⟨none, rfl, fun k e => nomatch e⟩
      simp only [wSeq, wNext, wIfS, wBool, wOp, wAt, wPeek, wName, wC, fIx, wChain, wAndT, wOrT, wNotT, wAndV, wOrV, wNotV, wIf, wNil, wCons, wTup, wLst, wDNew, wFz, fI, fI0, fEq, fNe, fIsN, fIsNot, fAdd, fIn, wC1, wC1F, fLen, fTup, fList, fInt, fAbs, wSlT, wSlL, wNoPart, wPart, wDrop, wRet, wRetF, wRetO, wSet, wSetF, wSetT, wPar, wPut, wBreak, wCont, wItems, wRng1, wRng2, wZip, wEnum, wEnumA, wRev, wFor, wWhile, wLc, wDc, wYes, wCall, wCallF, wCallK, wCallIo, wIsi, wNeg, wGetN, wGetE, wPop2, wAppend, wStar, seqD, fRepT, wDisp, wpCons, wpNil, keysD, dKey, wExtF, fStrI, wCallM, wCallMF, wmNil, wmD, wmS, wmF, avIx, avSls, avSl, avBack, avSet, wParM, List.nodup_nil, List.nodup_cons, List.mem_cons, List.not_mem_nil, or_false, not_false_eq_true, List.drop_succ_cons, List.drop_zero,  wAug, wRepL, wCatO, wCatF, wKeys, wItemsK, bName, bNames, retD, ctD, vd, itemsD, isDict, List.getElem?_cons_zero, List.getElem?_cons_succ, List.set_cons_zero, List.set_cons_succ, List.cons_append, List.nil_append, List.append_nil, List.replicate_succ, List.replicate_zero, List.map_cons, List.map_nil, List.length_cons, List.length_nil, List.zip_cons_cons, List.zip_nil_right, List.zip_nil_left, List.foldl_cons, List.foldl_nil, wipeE, backE, List.getD_cons_zero, List.getD_cons_succ, outsOf, keepPin, List.range_succ, List.range_zero, exS, at0, at1, at2, at3, at4, ix0, ix1, ix2, if_true, if_false, true_and, and_true, Bool.false_eq_true, reduceCtorEq, eqvI, eqvS, eqvB, scalI, scalS, scalB, true_or, decide_eq_true_eq, Bool.not_true, Bool.not_false, Bool.not_eq_true, isi_none_int, isi_none_bool, isi_none_str, isi_none_tuple, isi_none_list, isi_none_dict, isi_bool_int, isi_bool_bool, isi_bool_str, isi_bool_tuple, isi_bool_list, isi_bool_dict, isi_int_int, isi_int_bool, isi_int_str, isi_int_tuple, isi_int_list, isi_int_dict, isi_str_int, isi_str_bool, isi_str_str, isi_str_tuple, isi_str_list, isi_str_dict, isi_list_int, isi_list_bool, isi_list_str, isi_list_tuple, isi_list_list, isi_list_dict, isi_tuple_int, isi_tuple_bool, isi_tuple_str, isi_tuple_tuple, isi_tuple_list, isi_tuple_dict, isi_dict_int, isi_dict_bool, isi_dict_str, isi_dict_tuple, isi_dict_list, isi_dict_dict]
      refine ⟨by decide, ?_⟩
      exact nest_loop hC its ⟨[0, 0, 0, 0, 0, 0, 0, 0], pc, 0, o⟩ hs ds6 _ (d + 1) _ _ _ _ _ _ h6 (by omega) ⟨rfl, fun r hr => by simp at hr; subst hr; exact ⟨by decide, by decide⟩, hpc, (by show (0 : Int) ≤ 0; decide), (by show (0 : Int) < 10 ^ 12; decide), ho⟩ (fun i => (p1 i).1) (fun i => (p1 i).2) (by omega) (by omega) k
    simp only [w__law_tree_L1_3_e, wSeq, wNext, wIfS, wBool, wOp, wAt, wPeek, wName, wC, fIx, wChain, wAndT, wOrT, wNotT, wAndV, wOrV, wNotV, wIf, wNil, wCons, wTup, wLst, wDNew, wFz, fI, fI0, fEq, fNe, fIsN, fIsNot, fAdd, fIn, wC1, wC1F, fLen, fTup, fList, fInt, fAbs, wSlT, wSlL, wNoPart, wPart, wDrop, wRet, wRetF, wRetO, wSet, wSetF, wSetT, wPar, wPut, wBreak, wCont, wItems, wRng1, wRng2, wZip, wEnum, wEnumA, wRev, wFor, wWhile, wLc, wDc, wYes, wCall, wCallF, wCallK, wCallIo, wIsi, wNeg, wGetN, wGetE, wPop2, wAppend, wStar, seqD, fRepT, wDisp, wpCons, wpNil, keysD, dKey, wExtF, fStrI, wCallM, wCallMF, wmNil, wmD, wmS, wmF, avIx, avSls, avSl, avBack, avSet, wParM, List.nodup_nil, List.nodup_cons, List.mem_cons, List.not_mem_nil, or_false, not_false_eq_true, List.drop_succ_cons, List.drop_zero,  wAug, wRepL, wCatO, wCatF, wKeys, wItemsK, bName, bNames, retD, ctD, vd, itemsD, isDict, List.getElem?_cons_zero, List.getElem?_cons_succ, List.set_cons_zero, List.set_cons_succ, List.cons_append, List.nil_append, List.append_nil, List.replicate_succ, List.replicate_zero, List.map_cons, List.map_nil, List.length_cons, List.length_nil, List.zip_cons_cons, List.zip_nil_right, List.zip_nil_left, List.foldl_cons, List.foldl_nil, wipeE, backE, List.getD_cons_zero, List.getD_cons_succ, outsOf, keepPin, List.range_succ, List.range_zero, exS, at0, at1, at2, at3, at4, ix0, ix1, ix2, if_true, if_false, true_and, and_true, Bool.false_eq_true, reduceCtorEq, eqvI, eqvS, eqvB, scalI, scalS, scalB, true_or, decide_eq_true_eq, Bool.not_true, Bool.not_false, Bool.not_eq_true, isi_none_int, isi_none_bool, isi_none_str, isi_none_tuple, isi_none_list, isi_none_dict, isi_bool_int, isi_bool_bool, isi_bool_str, isi_bool_tuple, isi_bool_list, isi_bool_dict, isi_int_int, isi_int_bool, isi_int_str, isi_int_tuple, isi_int_list, isi_int_dict, isi_str_int, isi_str_bool, isi_str_str, isi_str_tuple, isi_str_list, isi_str_dict, isi_list_int, isi_list_bool, isi_list_str, isi_list_tuple, isi_list_list, isi_list_dict, isi_tuple_int, isi_tuple_bool, isi_tuple_str, isi_tuple_tuple, isi_tuple_list, isi_tuple_dict, isi_dict_int, isi_dict_bool, isi_dict_str, isi_dict_tuple, isi_dict_list, isi_dict_dict]
    refine ⟨ds3, _, 3, rfl, h3, by omega, by decide, by decide, fun u ds4 u0 u1 h4 => ?_⟩
    simp only [wSeq, wNext, wIfS, wBool, wOp, wAt, wPeek, wName, wC, fIx, wChain, wAndT, wOrT, wNotT, wAndV, wOrV, wNotV, wIf, wNil, wCons, wTup, wLst, wDNew, wFz, fI, fI0, fEq, fNe, fIsN, fIsNot, fAdd, fIn, wC1, wC1F, fLen, fTup, fList, fInt, fAbs, wSlT, wSlL, wNoPart, wPart, wDrop, wRet, wRetF, wRetO, wSet, wSetF, wSetT, wPar, wPut, wBreak, wCont, wItems, wRng1, wRng2, wZip, wEnum, wEnumA, wRev, wFor, wWhile, wLc, wDc, wYes, wCall, wCallF, wCallK, wCallIo, wIsi, wNeg, wGetN, wGetE, wPop2, wAppend, wStar, seqD, fRepT, wDisp, wpCons, wpNil, keysD, dKey, wExtF, fStrI, wCallM, wCallMF, wmNil, wmD, wmS, wmF, avIx, avSls, avSl, avBack, avSet, wParM, List.nodup_nil, List.nodup_cons, List.mem_cons, List.not_mem_nil, or_false, not_false_eq_true, List.drop_succ_cons, List.drop_zero,  wAug, wRepL, wCatO, wCatF, wKeys, wItemsK, bName, bNames, retD, ctD, vd, itemsD, isDict, List.getElem?_cons_zero, List.getElem?_cons_succ, List.set_cons_zero, List.set_cons_succ, List.cons_append, List.nil_append, List.append_nil, List.replicate_succ, List.replicate_zero, List.map_cons, List.map_nil, List.length_cons, List.length_nil, List.zip_cons_cons, List.zip_nil_right, List.zip_nil_left, List.foldl_cons, List.foldl_nil, wipeE, backE, List.getD_cons_zero, List.getD_cons_succ, outsOf, keepPin, List.range_succ, List.range_zero, exS, at0, at1, at2, at3, at4, ix0, ix1, ix2, if_true, if_false, true_and, and_true, Bool.false_eq_true, reduceCtorEq, eqvI, eqvS, eqvB, scalI, scalS, scalB, true_or, decide_eq_true_eq, Bool.not_true, Bool.not_false, Bool.not_eq_true, isi_none_int, isi_none_bool, isi_none_str, isi_none_tuple, isi_none_list, isi_none_dict, isi_bool_int, isi_bool_bool, isi_bool_str, isi_bool_tuple, isi_bool_list, isi_bool_dict, isi_int_int, isi_int_bool, isi_int_str, isi_int_tuple, isi_int_list, isi_int_dict, isi_str_int, isi_str_bool, isi_str_str, isi_str_tuple, isi_str_list, isi_str_dict, isi_list_int, isi_list_bool, isi_list_str, isi_list_tuple, isi_list_list, isi_list_dict, isi_tuple_int, isi_tuple_bool, isi_tuple_str, isi_tuple_tuple, isi_tuple_list, isi_tuple_dict, isi_dict_int, isi_dict_bool, isi_dict_str, isi_dict_tuple, isi_dict_list, isi_dict_dict]
    by_cases hu : u = 0
    · rw [if_pos hu]
      refine ⟨by decide, ds4, _, _, 0, rfl, h4, by omega, ⟨1, rfl⟩, by decide, fun g ds5 pot5 g0 g1 g2 h5 _ => ?_⟩
      simp only [wSeq, wNext, wIfS, wBool, wOp, wAt, wPeek, wName, wC, fIx, wChain, wAndT, wOrT, wNotT, wAndV, wOrV, wNotV, wIf, wNil, wCons, wTup, wLst, wDNew, wFz, fI, fI0, fEq, fNe, fIsN, fIsNot, fAdd, fIn, wC1, wC1F, fLen, fTup, fList, fInt, fAbs, wSlT, wSlL, wNoPart, wPart, wDrop, wRet, wRetF, wRetO, wSet, wSetF, wSetT, wPar, wPut, wBreak, wCont, wItems, wRng1, wRng2, wZip, wEnum, wEnumA, wRev, wFor, wWhile, wLc, wDc, wYes, wCall, wCallF, wCallK, wCallIo, wIsi, wNeg, wGetN, wGetE, wPop2, wAppend, wStar, seqD, fRepT, wDisp, wpCons, wpNil, keysD, dKey, wExtF, fStrI, wCallM, wCallMF, wmNil, wmD, wmS, wmF, avIx, avSls, avSl, avBack, avSet, wParM, List.nodup_nil, List.nodup_cons, List.mem_cons, List.not_mem_nil, or_false, not_false_eq_true, List.drop_succ_cons, List.drop_zero,  wAug, wRepL, wCatO, wCatF, wKeys, wItemsK, bName, bNames, retD, ctD, vd, itemsD, isDict, List.getElem?_cons_zero, List.getElem?_cons_succ, List.set_cons_zero, List.set_cons_succ, List.cons_append, List.nil_append, List.append_nil, List.replicate_succ, List.replicate_zero, List.map_cons, List.map_nil, List.length_cons, List.length_nil, List.zip_cons_cons, List.zip_nil_right, List.zip_nil_left, List.foldl_cons, List.foldl_nil, wipeE, backE, List.getD_cons_zero, List.getD_cons_succ, outsOf, keepPin, List.range_succ, List.range_zero, exS, at0, at1, at2, at3, at4, ix0, ix1, ix2, if_true, if_false, true_and, and_true, Bool.false_eq_true, reduceCtorEq, eqvI, eqvS, eqvB, scalI, scalS, scalB, true_or, decide_eq_true_eq, Bool.not_true, Bool.not_false, Bool.not_eq_true, isi_none_int, isi_none_bool, isi_none_str, isi_none_tuple, isi_none_list, isi_none_dict, isi_bool_int, isi_bool_bool, isi_bool_str, isi_bool_tuple, isi_bool_list, isi_bool_dict, isi_int_int, isi_int_bool, isi_int_str, isi_int_tuple, isi_int_list, isi_int_dict, isi_str_int, isi_str_bool, isi_str_str, isi_str_tuple, isi_str_list, isi_str_dict, isi_list_int, isi_list_bool, isi_list_str, isi_list_tuple, isi_list_list, isi_list_dict, isi_tuple_int, isi_tuple_bool, isi_tuple_str, isi_tuple_tuple, isi_tuple_list, isi_tuple_dict, isi_dict_int, isi_dict_bool, isi_dict_str, isi_dict_tuple, isi_dict_list, isi_dict_dict]
      obtain ⟨j, hj4, hj⟩ : ∃ j : Nat, j < 4 ∧ ((v : Int) + 1) % 4 = (j : Int) := ⟨(((v : Int) + 1) % 4).toNat, by omega, by omega⟩
      rw [hj]
      refine ⟨by decide, j, ixN_lt hj4, ?_⟩
      rw [set_lst4 hs hj4]
      refine fin _ ds5 _ _ _ _ (fun i => ?_) ?_ (by have := tot_putG hs hj4 g; have := gsz_le 1 g g2; have e : gCost 1 = 7016 := rfl; omega) h5 (by omega)
      · unfold putG
        split
        · exact ⟨g1, g2.mono (by omega)⟩
        · exact p1 i
      · unfold putG
        rw [if_neg (by show ¬ v = j; omega)]
        exact pv
    · rw [if_neg hu]
      exact fin hs ds4 _ _ _ _ p1 pv (by omega) h4 (by omega)
theorem gCost_mono {n m : Nat} (h : n ≤ m) : gCost n ≤ gCost m := by
  induction m with
  | zero => rw [show n = 0 by omega]; exact Nat.le_refl _
  | succ m ih =>
    by_cases e : n = m + 1
    · rw [e]; exact Nat.le_refl _
    · have := ih (by omega)
      simp only [gCost]; omega
theorem body__law_tree : Bd__law_tree := by
  intro as R h
  obtain ⟨ds, c, most, deep, rfl, hd, hc, h4, k⟩ := h
  unfold w__law_tree
  simp only [w__law_tree_0_e, wSeq, wNext, wIfS, wBool, wOp, wAt, wPeek, wName, wC, fIx, wChain, wAndT, wOrT, wNotT, wAndV, wOrV, wNotV, wIf, wNil, wCons, wTup, wLst, wDNew, wFz, fI, fI0, fEq, fNe, fIsN, fIsNot, fAdd, fIn, wC1, wC1F, fLen, fTup, fList, fInt, fAbs, wSlT, wSlL, wNoPart, wPart, wDrop, wRet, wRetF, wRetO, wSet, wSetF, wSetT, wPar, wPut, wBreak, wCont, wItems, wRng1, wRng2, wZip, wEnum, wEnumA, wRev, wFor, wWhile, wLc, wDc, wYes, wCall, wCallF, wCallK, wCallIo, wIsi, wNeg, wGetN, wGetE, wPop2, wAppend, wStar, seqD, fRepT, wDisp, wpCons, wpNil, keysD, dKey, wExtF, fStrI, wCallM, wCallMF, wmNil, wmD, wmS, wmF, avIx, avSls, avSl, avBack, avSet, wParM, List.nodup_nil, List.nodup_cons, List.mem_cons, List.not_mem_nil, or_false, not_false_eq_true, List.drop_succ_cons, List.drop_zero,  wAug, wRepL, wCatO, wCatF, wKeys, wItemsK, bName, bNames, retD, ctD, vd, itemsD, isDict, List.getElem?_cons_zero, List.getElem?_cons_succ, List.set_cons_zero, List.set_cons_succ, List.cons_append, List.nil_append, List.append_nil, List.replicate_succ, List.replicate_zero, List.map_cons, List.map_nil, List.length_cons, List.length_nil, List.zip_cons_cons, List.zip_nil_right, List.zip_nil_left, List.foldl_cons, List.foldl_nil, wipeE, backE, List.getD_cons_zero, List.getD_cons_succ, outsOf, keepPin, List.range_succ, List.range_zero, exS, at0, at1, at2, at3, at4, ix0, ix1, ix2, if_true, if_false, true_and, and_true, Bool.false_eq_true, reduceCtorEq, eqvI, eqvS, eqvB, scalI, scalS, scalB, true_or, decide_eq_true_eq, Bool.not_true, Bool.not_false, Bool.not_eq_true, isi_none_int, isi_none_bool, isi_none_str, isi_none_tuple, isi_none_list, isi_none_dict, isi_bool_int, isi_bool_bool, isi_bool_str, isi_bool_tuple, isi_bool_list, isi_bool_dict, isi_int_int, isi_int_bool, isi_int_str, isi_int_tuple, isi_int_list, isi_int_dict, isi_str_int, isi_str_bool, isi_str_str, isi_str_tuple, isi_str_list, isi_str_dict, isi_list_int, isi_list_bool, isi_list_str, isi_list_tuple, isi_list_list, isi_list_dict, isi_tuple_int, isi_tuple_bool, isi_tuple_str, isi_tuple_tuple, isi_tuple_list, isi_tuple_dict, isi_dict_int, isi_dict_bool, isi_dict_str, isi_dict_tuple, isi_dict_list, isi_dict_dict]
  have hb : 5 ^ deep ≤ 625 := by
    rcases (by omega : deep = 0 ∨ deep = 1 ∨ deep = 2 ∨ deep = 3 ∨ deep = 4) with rfl | rfl | rfl | rfl | rfl <;> decide
  refine ⟨by decide, ds, c, _, deep, rfl, hd, by omega, ⟨most, rfl⟩, Nat.le_trans (by omega : 2 * deep ≤ 8) (by decide), fun cd gs ds1 pot1 ok oks hle h1 _ => ?_⟩
  simp only [wSeq, wNext, wIfS, wBool, wOp, wAt, wPeek, wName, wC, fIx, wChain, wAndT, wOrT, wNotT, wAndV, wOrV, wNotV, wIf, wNil, wCons, wTup, wLst, wDNew, wFz, fI, fI0, fEq, fNe, fIsN, fIsNot, fAdd, fIn, wC1, wC1F, fLen, fTup, fList, fInt, fAbs, wSlT, wSlL, wNoPart, wPart, wDrop, wRet, wRetF, wRetO, wSet, wSetF, wSetT, wPar, wPut, wBreak, wCont, wItems, wRng1, wRng2, wZip, wEnum, wEnumA, wRev, wFor, wWhile, wLc, wDc, wYes, wCall, wCallF, wCallK, wCallIo, wIsi, wNeg, wGetN, wGetE, wPop2, wAppend, wStar, seqD, fRepT, wDisp, wpCons, wpNil, keysD, dKey, wExtF, fStrI, wCallM, wCallMF, wmNil, wmD, wmS, wmF, avIx, avSls, avSl, avBack, avSet, wParM, List.nodup_nil, List.nodup_cons, List.mem_cons, List.not_mem_nil, or_false, not_false_eq_true, List.drop_succ_cons, List.drop_zero,  wAug, wRepL, wCatO, wCatF, wKeys, wItemsK, bName, bNames, retD, ctD, vd, itemsD, isDict, List.getElem?_cons_zero, List.getElem?_cons_succ, List.set_cons_zero, List.set_cons_succ, List.cons_append, List.nil_append, List.append_nil, List.replicate_succ, List.replicate_zero, List.map_cons, List.map_nil, List.length_cons, List.length_nil, List.zip_cons_cons, List.zip_nil_right, List.zip_nil_left, List.foldl_cons, List.foldl_nil, wipeE, backE, List.getD_cons_zero, List.getD_cons_succ, outsOf, keepPin, List.range_succ, List.range_zero, exS, at0, at1, at2, at3, at4, ix0, ix1, ix2, if_true, if_false, true_and, and_true, Bool.false_eq_true, reduceCtorEq, eqvI, eqvS, eqvB, scalI, scalS, scalB, true_or, decide_eq_true_eq, Bool.not_true, Bool.not_false, Bool.not_eq_true, isi_none_int, isi_none_bool, isi_none_str, isi_none_tuple, isi_none_list, isi_none_dict, isi_bool_int, isi_bool_bool, isi_bool_str, isi_bool_tuple, isi_bool_list, isi_bool_dict, isi_int_int, isi_int_bool, isi_int_str, isi_int_tuple, isi_int_list, isi_int_dict, isi_str_int, isi_str_bool, isi_str_str, isi_str_tuple, isi_str_list, isi_str_dict, isi_list_int, isi_list_bool, isi_list_str, isi_list_tuple, isi_list_list, isi_list_dict, isi_tuple_int, isi_tuple_bool, isi_tuple_str, isi_tuple_tuple, isi_tuple_list, isi_tuple_dict, isi_dict_int, isi_dict_bool, isi_dict_str, isi_dict_tuple, isi_dict_list, isi_dict_dict]
  simp only [w__law_tree_1_e, wSeq, wNext, wIfS, wBool, wOp, wAt, wPeek, wName, wC, fIx, wChain, wAndT, wOrT, wNotT, wAndV, wOrV, wNotV, wIf, wNil, wCons, wTup, wLst, wDNew, wFz, fI, fI0, fEq, fNe, fIsN, fIsNot, fAdd, fIn, wC1, wC1F, fLen, fTup, fList, fInt, fAbs, wSlT, wSlL, wNoPart, wPart, wDrop, wRet, wRetF, wRetO, wSet, wSetF, wSetT, wPar, wPut, wBreak, wCont, wItems, wRng1, wRng2, wZip, wEnum, wEnumA, wRev, wFor, wWhile, wLc, wDc, wYes, wCall, wCallF, wCallK, wCallIo, wIsi, wNeg, wGetN, wGetE, wPop2, wAppend, wStar, seqD, fRepT, wDisp, wpCons, wpNil, keysD, dKey, wExtF, fStrI, wCallM, wCallMF, wmNil, wmD, wmS, wmF, avIx, avSls, avSl, avBack, avSet, wParM, List.nodup_nil, List.nodup_cons, List.mem_cons, List.not_mem_nil, or_false, not_false_eq_true, List.drop_succ_cons, List.drop_zero,  wAug, wRepL, wCatO, wCatF, wKeys, wItemsK, bName, bNames, retD, ctD, vd, itemsD, isDict, List.getElem?_cons_zero, List.getElem?_cons_succ, List.set_cons_zero, List.set_cons_succ, List.cons_append, List.nil_append, List.append_nil, List.replicate_succ, List.replicate_zero, List.map_cons, List.map_nil, List.length_cons, List.length_nil, List.zip_cons_cons, List.zip_nil_right, List.zip_nil_left, List.foldl_cons, List.foldl_nil, wipeE, backE, List.getD_cons_zero, List.getD_cons_succ, outsOf, keepPin, List.range_succ, List.range_zero, exS, at0, at1, at2, at3, at4, ix0, ix1, ix2, if_true, if_false, true_and, and_true, Bool.false_eq_true, reduceCtorEq, eqvI, eqvS, eqvB, scalI, scalS, scalB, true_or, decide_eq_true_eq, Bool.not_true, Bool.not_false, Bool.not_eq_true, isi_none_int, isi_none_bool, isi_none_str, isi_none_tuple, isi_none_list, isi_none_dict, isi_bool_int, isi_bool_bool, isi_bool_str, isi_bool_tuple, isi_bool_list, isi_bool_dict, isi_int_int, isi_int_bool, isi_int_str, isi_int_tuple, isi_int_list, isi_int_dict, isi_str_int, isi_str_bool, isi_str_str, isi_str_tuple, isi_str_list, isi_str_dict, isi_list_int, isi_list_bool, isi_list_str, isi_list_tuple, isi_list_list, isi_list_dict, isi_tuple_int, isi_tuple_bool, isi_tuple_str, isi_tuple_tuple, isi_tuple_list, isi_tuple_dict, isi_dict_int, isi_dict_bool, isi_dict_str, isi_dict_tuple, isi_dict_list, isi_dict_dict]
  refine ⟨by decide, ds1, _, _, rfl, h1, by omega, by simp, by simp, fun x ds2 hx h2 => ?_⟩
  obtain ⟨z, rfl, hz⟩ := of4 hx
  simp only [wSeq, wNext, wIfS, wBool, wOp, wAt, wPeek, wName, wC, fIx, wChain, wAndT, wOrT, wNotT, wAndV, wOrV, wNotV, wIf, wNil, wCons, wTup, wLst, wDNew, wFz, fI, fI0, fEq, fNe, fIsN, fIsNot, fAdd, fIn, wC1, wC1F, fLen, fTup, fList, fInt, fAbs, wSlT, wSlL, wNoPart, wPart, wDrop, wRet, wRetF, wRetO, wSet, wSetF, wSetT, wPar, wPut, wBreak, wCont, wItems, wRng1, wRng2, wZip, wEnum, wEnumA, wRev, wFor, wWhile, wLc, wDc, wYes, wCall, wCallF, wCallK, wCallIo, wIsi, wNeg, wGetN, wGetE, wPop2, wAppend, wStar, seqD, fRepT, wDisp, wpCons, wpNil, keysD, dKey, wExtF, fStrI, wCallM, wCallMF, wmNil, wmD, wmS, wmF, avIx, avSls, avSl, avBack, avSet, wParM, List.nodup_nil, List.nodup_cons, List.mem_cons, List.not_mem_nil, or_false, not_false_eq_true, List.drop_succ_cons, List.drop_zero,  wAug, wRepL, wCatO, wCatF, wKeys, wItemsK, bName, bNames, retD, ctD, vd, itemsD, isDict, List.getElem?_cons_zero, List.getElem?_cons_succ, List.set_cons_zero, List.set_cons_succ, List.cons_append, List.nil_append, List.append_nil, List.replicate_succ, List.replicate_zero, List.map_cons, List.map_nil, List.length_cons, List.length_nil, List.zip_cons_cons, List.zip_nil_right, List.zip_nil_left, List.foldl_cons, List.foldl_nil, wipeE, backE, List.getD_cons_zero, List.getD_cons_succ, outsOf, keepPin, List.range_succ, List.range_zero, exS, at0, at1, at2, at3, at4, ix0, ix1, ix2, if_true, if_false, true_and, and_true, Bool.false_eq_true, reduceCtorEq, eqvI, eqvS, eqvB, scalI, scalS, scalB, true_or, decide_eq_true_eq, Bool.not_true, Bool.not_false, Bool.not_eq_true, isi_none_int, isi_none_bool, isi_none_str, isi_none_tuple, isi_none_list, isi_none_dict, isi_bool_int, isi_bool_bool, isi_bool_str, isi_bool_tuple, isi_bool_list, isi_bool_dict, isi_int_int, isi_int_bool, isi_int_str, isi_int_tuple, isi_int_list, isi_int_dict, isi_str_int, isi_str_bool, isi_str_str, isi_str_tuple, isi_str_list, isi_str_dict, isi_list_int, isi_list_bool, isi_list_str, isi_list_tuple, isi_list_list, isi_list_dict, isi_tuple_int, isi_tuple_bool, isi_tuple_str, isi_tuple_tuple, isi_tuple_list, isi_tuple_dict, isi_dict_int, isi_dict_bool, isi_dict_str, isi_dict_tuple, isi_dict_list, isi_dict_dict]
  refine ⟨by omega, by omega, ?_⟩
  refine nest_loop (C := c + 3000 * 5 ^ deep + 1 + 16000) (by omega) _ cd gs ds2 _ deep _ _ _ _ _ _ h2 (by simp; omega) ok oks hle (by simp; omega) (by have := tot_le hle; have := gCost_mono h4; have e : gCost 4 = 596024 := rfl; simp; omega) fun cd gs ds3 s4 s5 s6 s7 s8 s9 h3 ok oks hle htt => ?_
  simp only [w__law_tree_2_e, wSeq, wNext, wIfS, wBool, wOp, wAt, wPeek, wName, wC, fIx, wChain, wAndT, wOrT, wNotT, wAndV, wOrV, wNotV, wIf, wNil, wCons, wTup, wLst, wDNew, wFz, fI, fI0, fEq, fNe, fIsN, fIsNot, fAdd, fIn, wC1, wC1F, fLen, fTup, fList, fInt, fAbs, wSlT, wSlL, wNoPart, wPart, wDrop, wRet, wRetF, wRetO, wSet, wSetF, wSetT, wPar, wPut, wBreak, wCont, wItems, wRng1, wRng2, wZip, wEnum, wEnumA, wRev, wFor, wWhile, wLc, wDc, wYes, wCall, wCallF, wCallK, wCallIo, wIsi, wNeg, wGetN, wGetE, wPop2, wAppend, wStar, seqD, fRepT, wDisp, wpCons, wpNil, keysD, dKey, wExtF, fStrI, wCallM, wCallMF, wmNil, wmD, wmS, wmF, avIx, avSls, avSl, avBack, avSet, wParM, List.nodup_nil, List.nodup_cons, List.mem_cons, List.not_mem_nil, or_false, not_false_eq_true, List.drop_succ_cons, List.drop_zero,  wAug, wRepL, wCatO, wCatF, wKeys, wItemsK, bName, bNames, retD, ctD, vd, itemsD, isDict, List.getElem?_cons_zero, List.getElem?_cons_succ, List.set_cons_zero, List.set_cons_succ, List.cons_append, List.nil_append, List.append_nil, List.replicate_succ, List.replicate_zero, List.map_cons, List.map_nil, List.length_cons, List.length_nil, List.zip_cons_cons, List.zip_nil_right, List.zip_nil_left, List.foldl_cons, List.foldl_nil, wipeE, backE, List.getD_cons_zero, List.getD_cons_succ, outsOf, keepPin, List.range_succ, List.range_zero, exS, at0, at1, at2, at3, at4, ix0, ix1, ix2, if_true, if_false, true_and, and_true, Bool.false_eq_true, reduceCtorEq, eqvI, eqvS, eqvB, scalI, scalS, scalB, true_or, decide_eq_true_eq, Bool.not_true, Bool.not_false, Bool.not_eq_true, isi_none_int, isi_none_bool, isi_none_str, isi_none_tuple, isi_none_list, isi_none_dict, isi_bool_int, isi_bool_bool, isi_bool_str, isi_bool_tuple, isi_bool_list, isi_bool_dict, isi_int_int, isi_int_bool, isi_int_str, isi_int_tuple, isi_int_list, isi_int_dict, isi_str_int, isi_str_bool, isi_str_str, isi_str_tuple, isi_str_list, isi_str_dict, isi_list_int, isi_list_bool, isi_list_str, isi_list_tuple, isi_list_list, isi_list_dict, isi_tuple_int, isi_tuple_bool, isi_tuple_str, isi_tuple_tuple, isi_tuple_list, isi_tuple_dict, isi_dict_int, isi_dict_bool, isi_dict_str, isi_dict_tuple, isi_dict_list, isi_dict_dict]
  refine ⟨by decide, ds3, _, _, rfl, h3, by omega, by simp, by simp, fun x ds4 hx h4 => ?_⟩
  obtain ⟨p, rfl, hp⟩ : ∃ p : Int, x = .int p ∧ (p = 1 ∨ p = 2 ∨ p = 5) := by
    simp only [List.mem_cons, List.not_mem_nil, or_false] at hx
    rcases hx with rfl | rfl | rfl
    · exact ⟨_, rfl, .inl rfl⟩
    · exact ⟨_, rfl, .inr (.inl rfl)⟩
    · exact ⟨_, rfl, .inr (.inr rfl)⟩
  simp only [wSeq, wNext, wIfS, wBool, wOp, wAt, wPeek, wName, wC, fIx, wChain, wAndT, wOrT, wNotT, wAndV, wOrV, wNotV, wIf, wNil, wCons, wTup, wLst, wDNew, wFz, fI, fI0, fEq, fNe, fIsN, fIsNot, fAdd, fIn, wC1, wC1F, fLen, fTup, fList, fInt, fAbs, wSlT, wSlL, wNoPart, wPart, wDrop, wRet, wRetF, wRetO, wSet, wSetF, wSetT, wPar, wPut, wBreak, wCont, wItems, wRng1, wRng2, wZip, wEnum, wEnumA, wRev, wFor, wWhile, wLc, wDc, wYes, wCall, wCallF, wCallK, wCallIo, wIsi, wNeg, wGetN, wGetE, wPop2, wAppend, wStar, seqD, fRepT, wDisp, wpCons, wpNil, keysD, dKey, wExtF, fStrI, wCallM, wCallMF, wmNil, wmD, wmS, wmF, avIx, avSls, avSl, avBack, avSet, wParM, List.nodup_nil, List.nodup_cons, List.mem_cons, List.not_mem_nil, or_false, not_false_eq_true, List.drop_succ_cons, List.drop_zero,  wAug, wRepL, wCatO, wCatF, wKeys, wItemsK, bName, bNames, retD, ctD, vd, itemsD, isDict, List.getElem?_cons_zero, List.getElem?_cons_succ, List.set_cons_zero, List.set_cons_succ, List.cons_append, List.nil_append, List.append_nil, List.replicate_succ, List.replicate_zero, List.map_cons, List.map_nil, List.length_cons, List.length_nil, List.zip_cons_cons, List.zip_nil_right, List.zip_nil_left, List.foldl_cons, List.foldl_nil, wipeE, backE, List.getD_cons_zero, List.getD_cons_succ, outsOf, keepPin, List.range_succ, List.range_zero, exS, at0, at1, at2, at3, at4, ix0, ix1, ix2, if_true, if_false, true_and, and_true, Bool.false_eq_true, reduceCtorEq, eqvI, eqvS, eqvB, scalI, scalS, scalB, true_or, decide_eq_true_eq, Bool.not_true, Bool.not_false, Bool.not_eq_true, isi_none_int, isi_none_bool, isi_none_str, isi_none_tuple, isi_none_list, isi_none_dict, isi_bool_int, isi_bool_bool, isi_bool_str, isi_bool_tuple, isi_bool_list, isi_bool_dict, isi_int_int, isi_int_bool, isi_int_str, isi_int_tuple, isi_int_list, isi_int_dict, isi_str_int, isi_str_bool, isi_str_str, isi_str_tuple, isi_str_list, isi_str_dict, isi_list_int, isi_list_bool, isi_list_str, isi_list_tuple, isi_list_list, isi_list_dict, isi_tuple_int, isi_tuple_bool, isi_tuple_str, isi_tuple_tuple, isi_tuple_list, isi_tuple_dict, isi_dict_int, isi_dict_bool, isi_dict_str, isi_dict_tuple, isi_dict_list, isi_dict_dict]
  refine ⟨.inl (.inl ⟨by decide, by decide⟩), by omega, by omega, noOwn_of rfl, small_len (by simp; omega), ?_⟩
  refine words_comp (acc := []) (C := c + 3000 * 5 ^ deep + 1 + 16000 + 1 + 150) rfl (by omega) _ ds4 _ h4 (by simp; omega) (by simp) fun words ds5 wl ww h5 => ?_
  simp only [wSeq, wNext, wIfS, wBool, wOp, wAt, wPeek, wName, wC, fIx, wChain, wAndT, wOrT, wNotT, wAndV, wOrV, wNotV, wIf, wNil, wCons, wTup, wLst, wDNew, wFz, fI, fI0, fEq, fNe, fIsN, fIsNot, fAdd, fIn, wC1, wC1F, fLen, fTup, fList, fInt, fAbs, wSlT, wSlL, wNoPart, wPart, wDrop, wRet, wRetF, wRetO, wSet, wSetF, wSetT, wPar, wPut, wBreak, wCont, wItems, wRng1, wRng2, wZip, wEnum, wEnumA, wRev, wFor, wWhile, wLc, wDc, wYes, wCall, wCallF, wCallK, wCallIo, wIsi, wNeg, wGetN, wGetE, wPop2, wAppend, wStar, seqD, fRepT, wDisp, wpCons, wpNil, keysD, dKey, wExtF, fStrI, wCallM, wCallMF, wmNil, wmD, wmS, wmF, avIx, avSls, avSl, avBack, avSet, wParM, List.nodup_nil, List.nodup_cons, List.mem_cons, List.not_mem_nil, or_false, not_false_eq_true, List.drop_succ_cons, List.drop_zero,  wAug, wRepL, wCatO, wCatF, wKeys, wItemsK, bName, bNames, retD, ctD, vd, itemsD, isDict, List.getElem?_cons_zero, List.getElem?_cons_succ, List.set_cons_zero, List.set_cons_succ, List.cons_append, List.nil_append, List.append_nil, List.replicate_succ, List.replicate_zero, List.map_cons, List.map_nil, List.length_cons, List.length_nil, List.zip_cons_cons, List.zip_nil_right, List.zip_nil_left, List.foldl_cons, List.foldl_nil, wipeE, backE, List.getD_cons_zero, List.getD_cons_succ, outsOf, keepPin, List.range_succ, List.range_zero, exS, at0, at1, at2, at3, at4, ix0, ix1, ix2, if_true, if_false, true_and, and_true, Bool.false_eq_true, reduceCtorEq, eqvI, eqvS, eqvB, scalI, scalS, scalB, true_or, decide_eq_true_eq, Bool.not_true, Bool.not_false, Bool.not_eq_true, isi_none_int, isi_none_bool, isi_none_str, isi_none_tuple, isi_none_list, isi_none_dict, isi_bool_int, isi_bool_bool, isi_bool_str, isi_bool_tuple, isi_bool_list, isi_bool_dict, isi_int_int, isi_int_bool, isi_int_str, isi_int_tuple, isi_int_list, isi_int_dict, isi_str_int, isi_str_bool, isi_str_str, isi_str_tuple, isi_str_list, isi_str_dict, isi_list_int, isi_list_bool, isi_list_str, isi_list_tuple, isi_list_list, isi_list_dict, isi_tuple_int, isi_tuple_bool, isi_tuple_str, isi_tuple_tuple, isi_tuple_list, isi_tuple_dict, isi_dict_int, isi_dict_bool, isi_dict_str, isi_dict_tuple, isi_dict_list, isi_dict_dict]
  simp only [w__law_tree_3_e, wSeq, wNext, wIfS, wBool, wOp, wAt, wPeek, wName, wC, fIx, wChain, wAndT, wOrT, wNotT, wAndV, wOrV, wNotV, wIf, wNil, wCons, wTup, wLst, wDNew, wFz, fI, fI0, fEq, fNe, fIsN, fIsNot, fAdd, fIn, wC1, wC1F, fLen, fTup, fList, fInt, fAbs, wSlT, wSlL, wNoPart, wPart, wDrop, wRet, wRetF, wRetO, wSet, wSetF, wSetT, wPar, wPut, wBreak, wCont, wItems, wRng1, wRng2, wZip, wEnum, wEnumA, wRev, wFor, wWhile, wLc, wDc, wYes, wCall, wCallF, wCallK, wCallIo, wIsi, wNeg, wGetN, wGetE, wPop2, wAppend, wStar, seqD, fRepT, wDisp, wpCons, wpNil, keysD, dKey, wExtF, fStrI, wCallM, wCallMF, wmNil, wmD, wmS, wmF, avIx, avSls, avSl, avBack, avSet, wParM, List.nodup_nil, List.nodup_cons, List.mem_cons, List.not_mem_nil, or_false, not_false_eq_true, List.drop_succ_cons, List.drop_zero,  wAug, wRepL, wCatO, wCatF, wKeys, wItemsK, bName, bNames, retD, ctD, vd, itemsD, isDict, List.getElem?_cons_zero, List.getElem?_cons_succ, List.set_cons_zero, List.set_cons_succ, List.cons_append, List.nil_append, List.append_nil, List.replicate_succ, List.replicate_zero, List.map_cons, List.map_nil, List.length_cons, List.length_nil, List.zip_cons_cons, List.zip_nil_right, List.zip_nil_left, List.foldl_cons, List.foldl_nil, wipeE, backE, List.getD_cons_zero, List.getD_cons_succ, outsOf, keepPin, List.range_succ, List.range_zero, exS, at0, at1, at2, at3, at4, ix0, ix1, ix2, if_true, if_false, true_and, and_true, Bool.false_eq_true, reduceCtorEq, eqvI, eqvS, eqvB, scalI, scalS, scalB, true_or, decide_eq_true_eq, Bool.not_true, Bool.not_false, Bool.not_eq_true, isi_none_int, isi_none_bool, isi_none_str, isi_none_tuple, isi_none_list, isi_none_dict, isi_bool_int, isi_bool_bool, isi_bool_str, isi_bool_tuple, isi_bool_list, isi_bool_dict, isi_int_int, isi_int_bool, isi_int_str, isi_int_tuple, isi_int_list, isi_int_dict, isi_str_int, isi_str_bool, isi_str_str, isi_str_tuple, isi_str_list, isi_str_dict, isi_list_int, isi_list_bool, isi_list_str, isi_list_tuple, isi_list_list, isi_list_dict, isi_tuple_int, isi_tuple_bool, isi_tuple_str, isi_tuple_tuple, isi_tuple_list, isi_tuple_dict, isi_dict_int, isi_dict_bool, isi_dict_str, isi_dict_tuple, isi_dict_list, isi_dict_dict]
  refine ⟨ds5, _, 3, rfl, h5, by omega, by decide, by decide, fun u ds6 u0 u1 h6 => ?_⟩
  simp only [wSeq, wNext, wIfS, wBool, wOp, wAt, wPeek, wName, wC, fIx, wChain, wAndT, wOrT, wNotT, wAndV, wOrV, wNotV, wIf, wNil, wCons, wTup, wLst, wDNew, wFz, fI, fI0, fEq, fNe, fIsN, fIsNot, fAdd, fIn, wC1, wC1F, fLen, fTup, fList, fInt, fAbs, wSlT, wSlL, wNoPart, wPart, wDrop, wRet, wRetF, wRetO, wSet, wSetF, wSetT, wPar, wPut, wBreak, wCont, wItems, wRng1, wRng2, wZip, wEnum, wEnumA, wRev, wFor, wWhile, wLc, wDc, wYes, wCall, wCallF, wCallK, wCallIo, wIsi, wNeg, wGetN, wGetE, wPop2, wAppend, wStar, seqD, fRepT, wDisp, wpCons, wpNil, keysD, dKey, wExtF, fStrI, wCallM, wCallMF, wmNil, wmD, wmS, wmF, avIx, avSls, avSl, avBack, avSet, wParM, List.nodup_nil, List.nodup_cons, List.mem_cons, List.not_mem_nil, or_false, not_false_eq_true, List.drop_succ_cons, List.drop_zero,  wAug, wRepL, wCatO, wCatF, wKeys, wItemsK, bName, bNames, retD, ctD, vd, itemsD, isDict, List.getElem?_cons_zero, List.getElem?_cons_succ, List.set_cons_zero, List.set_cons_succ, List.cons_append, List.nil_append, List.append_nil, List.replicate_succ, List.replicate_zero, List.map_cons, List.map_nil, List.length_cons, List.length_nil, List.zip_cons_cons, List.zip_nil_right, List.zip_nil_left, List.foldl_cons, List.foldl_nil, wipeE, backE, List.getD_cons_zero, List.getD_cons_succ, outsOf, keepPin, List.range_succ, List.range_zero, exS, at0, at1, at2, at3, at4, ix0, ix1, ix2, if_true, if_false, true_and, and_true, Bool.false_eq_true, reduceCtorEq, eqvI, eqvS, eqvB, scalI, scalS, scalB, true_or, decide_eq_true_eq, Bool.not_true, Bool.not_false, Bool.not_eq_true, isi_none_int, isi_none_bool, isi_none_str, isi_none_tuple, isi_none_list, isi_none_dict, isi_bool_int, isi_bool_bool, isi_bool_str, isi_bool_tuple, isi_bool_list, isi_bool_dict, isi_int_int, isi_int_bool, isi_int_str, isi_int_tuple, isi_int_list, isi_int_dict, isi_str_int, isi_str_bool, isi_str_str, isi_str_tuple, isi_str_list, isi_str_dict, isi_list_int, isi_list_bool, isi_list_str, isi_list_tuple, isi_list_list, isi_list_dict, isi_tuple_int, isi_tuple_bool, isi_tuple_str, isi_tuple_tuple, isi_tuple_list, isi_tuple_dict, isi_dict_int, isi_dict_bool, isi_dict_str, isi_dict_tuple, isi_dict_list, isi_dict_dict]
  refine ⟨by omega, by omega, noOwn_of rfl, small_len (by simp; omega), ?_⟩
  refine words_comp (acc := []) (C := c + 3000 * 5 ^ deep + 1 + 16000 + 1 + 150 + 1 + 6) rfl (by omega) _ ds6 _ h6 (by simp; omega) (by simp) fun letters ds7 ll lw h7 => ?_
  simp only [wSeq, wNext, wIfS, wBool, wOp, wAt, wPeek, wName, wC, fIx, wChain, wAndT, wOrT, wNotT, wAndV, wOrV, wNotV, wIf, wNil, wCons, wTup, wLst, wDNew, wFz, fI, fI0, fEq, fNe, fIsN, fIsNot, fAdd, fIn, wC1, wC1F, fLen, fTup, fList, fInt, fAbs, wSlT, wSlL, wNoPart, wPart, wDrop, wRet, wRetF, wRetO, wSet, wSetF, wSetT, wPar, wPut, wBreak, wCont, wItems, wRng1, wRng2, wZip, wEnum, wEnumA, wRev, wFor, wWhile, wLc, wDc, wYes, wCall, wCallF, wCallK, wCallIo, wIsi, wNeg, wGetN, wGetE, wPop2, wAppend, wStar, seqD, fRepT, wDisp, wpCons, wpNil, keysD, dKey, wExtF, fStrI, wCallM, wCallMF, wmNil, wmD, wmS, wmF, avIx, avSls, avSl, avBack, avSet, wParM, List.nodup_nil, List.nodup_cons, List.mem_cons, List.not_mem_nil, or_false, not_false_eq_true, List.drop_succ_cons, List.drop_zero,  wAug, wRepL, wCatO, wCatF, wKeys, wItemsK, bName, bNames, retD, ctD, vd, itemsD, isDict, List.getElem?_cons_zero, List.getElem?_cons_succ, List.set_cons_zero, List.set_cons_succ, List.cons_append, List.nil_append, List.append_nil, List.replicate_succ, List.replicate_zero, List.map_cons, List.map_nil, List.length_cons, List.length_nil, List.zip_cons_cons, List.zip_nil_right, List.zip_nil_left, List.foldl_cons, List.foldl_nil, wipeE, backE, List.getD_cons_zero, List.getD_cons_succ, outsOf, keepPin, List.range_succ, List.range_zero, exS, at0, at1, at2, at3, at4, ix0, ix1, ix2, if_true, if_false, true_and, and_true, Bool.false_eq_true, reduceCtorEq, eqvI, eqvS, eqvB, scalI, scalS, scalB, true_or, decide_eq_true_eq, Bool.not_true, Bool.not_false, Bool.not_eq_true, isi_none_int, isi_none_bool, isi_none_str, isi_none_tuple, isi_none_list, isi_none_dict, isi_bool_int, isi_bool_bool, isi_bool_str, isi_bool_tuple, isi_bool_list, isi_bool_dict, isi_int_int, isi_int_bool, isi_int_str, isi_int_tuple, isi_int_list, isi_int_dict, isi_str_int, isi_str_bool, isi_str_str, isi_str_tuple, isi_str_list, isi_str_dict, isi_list_int, isi_list_bool, isi_list_str, isi_list_tuple, isi_list_list, isi_list_dict, isi_tuple_int, isi_tuple_bool, isi_tuple_str, isi_tuple_tuple, isi_tuple_list, isi_tuple_dict, isi_dict_int, isi_dict_bool, isi_dict_str, isi_dict_tuple, isi_dict_list, isi_dict_dict]
  simp only [w__law_tree_4_e, wSeq, wNext, wIfS, wBool, wOp, wAt, wPeek, wName, wC, fIx, wChain, wAndT, wOrT, wNotT, wAndV, wOrV, wNotV, wIf, wNil, wCons, wTup, wLst, wDNew, wFz, fI, fI0, fEq, fNe, fIsN, fIsNot, fAdd, fIn, wC1, wC1F, fLen, fTup, fList, fInt, fAbs, wSlT, wSlL, wNoPart, wPart, wDrop, wRet, wRetF, wRetO, wSet, wSetF, wSetT, wPar, wPut, wBreak, wCont, wItems, wRng1, wRng2, wZip, wEnum, wEnumA, wRev, wFor, wWhile, wLc, wDc, wYes, wCall, wCallF, wCallK, wCallIo, wIsi, wNeg, wGetN, wGetE, wPop2, wAppend, wStar, seqD, fRepT, wDisp, wpCons, wpNil, keysD, dKey, wExtF, fStrI, wCallM, wCallMF, wmNil, wmD, wmS, wmF, avIx, avSls, avSl, avBack, avSet, wParM, List.nodup_nil, List.nodup_cons, List.mem_cons, List.not_mem_nil, or_false, not_false_eq_true, List.drop_succ_cons, List.drop_zero,  wAug, wRepL, wCatO, wCatF, wKeys, wItemsK, bName, bNames, retD, ctD, vd, itemsD, isDict, List.getElem?_cons_zero, List.getElem?_cons_succ, List.set_cons_zero, List.set_cons_succ, List.cons_append, List.nil_append, List.append_nil, List.replicate_succ, List.replicate_zero, List.map_cons, List.map_nil, List.length_cons, List.length_nil, List.zip_cons_cons, List.zip_nil_right, List.zip_nil_left, List.foldl_cons, List.foldl_nil, wipeE, backE, List.getD_cons_zero, List.getD_cons_succ, outsOf, keepPin, List.range_succ, List.range_zero, exS, at0, at1, at2, at3, at4, ix0, ix1, ix2, if_true, if_false, true_and, and_true, Bool.false_eq_true, reduceCtorEq, eqvI, eqvS, eqvB, scalI, scalS, scalB, true_or, decide_eq_true_eq, Bool.not_true, Bool.not_false, Bool.not_eq_true, isi_none_int, isi_none_bool, isi_none_str, isi_none_tuple, isi_none_list, isi_none_dict, isi_bool_int, isi_bool_bool, isi_bool_str, isi_bool_tuple, isi_bool_list, isi_bool_dict, isi_int_int, isi_int_bool, isi_int_str, isi_int_tuple, isi_int_list, isi_int_dict, isi_str_int, isi_str_bool, isi_str_str, isi_str_tuple, isi_str_list, isi_str_dict, isi_list_int, isi_list_bool, isi_list_str, isi_list_tuple, isi_list_list, isi_list_dict, isi_tuple_int, isi_tuple_bool, isi_tuple_str, isi_tuple_tuple, isi_tuple_list, isi_tuple_dict, isi_dict_int, isi_dict_bool, isi_dict_str, isi_dict_tuple, isi_dict_list, isi_dict_dict]
  refine ⟨ds7, _, 3, rfl, h7, by omega, by decide, by decide, fun t ds8 t0 t1 h8 => ?_⟩
  simp only [wSeq, wNext, wIfS, wBool, wOp, wAt, wPeek, wName, wC, fIx, wChain, wAndT, wOrT, wNotT, wAndV, wOrV, wNotV, wIf, wNil, wCons, wTup, wLst, wDNew, wFz, fI, fI0, fEq, fNe, fIsN, fIsNot, fAdd, fIn, wC1, wC1F, fLen, fTup, fList, fInt, fAbs, wSlT, wSlL, wNoPart, wPart, wDrop, wRet, wRetF, wRetO, wSet, wSetF, wSetT, wPar, wPut, wBreak, wCont, wItems, wRng1, wRng2, wZip, wEnum, wEnumA, wRev, wFor, wWhile, wLc, wDc, wYes, wCall, wCallF, wCallK, wCallIo, wIsi, wNeg, wGetN, wGetE, wPop2, wAppend, wStar, seqD, fRepT, wDisp, wpCons, wpNil, keysD, dKey, wExtF, fStrI, wCallM, wCallMF, wmNil, wmD, wmS, wmF, avIx, avSls, avSl, avBack, avSet, wParM, List.nodup_nil, List.nodup_cons, List.mem_cons, List.not_mem_nil, or_false, not_false_eq_true, List.drop_succ_cons, List.drop_zero,  wAug, wRepL, wCatO, wCatF, wKeys, wItemsK, bName, bNames, retD, ctD, vd, itemsD, isDict, List.getElem?_cons_zero, List.getElem?_cons_succ, List.set_cons_zero, List.set_cons_succ, List.cons_append, List.nil_append, List.append_nil, List.replicate_succ, List.replicate_zero, List.map_cons, List.map_nil, List.length_cons, List.length_nil, List.zip_cons_cons, List.zip_nil_right, List.zip_nil_left, List.foldl_cons, List.foldl_nil, wipeE, backE, List.getD_cons_zero, List.getD_cons_succ, outsOf, keepPin, List.range_succ, List.range_zero, exS, at0, at1, at2, at3, at4, ix0, ix1, ix2, if_true, if_false, true_and, and_true, Bool.false_eq_true, reduceCtorEq, eqvI, eqvS, eqvB, scalI, scalS, scalB, true_or, decide_eq_true_eq, Bool.not_true, Bool.not_false, Bool.not_eq_true, isi_none_int, isi_none_bool, isi_none_str, isi_none_tuple, isi_none_list, isi_none_dict, isi_bool_int, isi_bool_bool, isi_bool_str, isi_bool_tuple, isi_bool_list, isi_bool_dict, isi_int_int, isi_int_bool, isi_int_str, isi_int_tuple, isi_int_list, isi_int_dict, isi_str_int, isi_str_bool, isi_str_str, isi_str_tuple, isi_str_list, isi_str_dict, isi_list_int, isi_list_bool, isi_list_str, isi_list_tuple, isi_list_list, isi_list_dict, isi_tuple_int, isi_tuple_bool, isi_tuple_str, isi_tuple_tuple, isi_tuple_list, isi_tuple_dict, isi_dict_int, isi_dict_bool, isi_dict_str, isi_dict_tuple, isi_dict_list, isi_dict_dict]
  refine ⟨by omega, by omega, noOwn_of rfl, small_len (by simp; omega), ?_⟩
  refine words_comp (acc := []) (C := c + 3000 * 5 ^ deep + 1 + 16000 + 1 + 150 + 1 + 6 + 1 + 6) rfl (by omega) _ ds8 _ h8 (by simp; omega) (by simp) fun sent ds9 sl sw h9 => ?_
  simp only [wSeq, wNext, wIfS, wBool, wOp, wAt, wPeek, wName, wC, fIx, wChain, wAndT, wOrT, wNotT, wAndV, wOrV, wNotV, wIf, wNil, wCons, wTup, wLst, wDNew, wFz, fI, fI0, fEq, fNe, fIsN, fIsNot, fAdd, fIn, wC1, wC1F, fLen, fTup, fList, fInt, fAbs, wSlT, wSlL, wNoPart, wPart, wDrop, wRet, wRetF, wRetO, wSet, wSetF, wSetT, wPar, wPut, wBreak, wCont, wItems, wRng1, wRng2, wZip, wEnum, wEnumA, wRev, wFor, wWhile, wLc, wDc, wYes, wCall, wCallF, wCallK, wCallIo, wIsi, wNeg, wGetN, wGetE, wPop2, wAppend, wStar, seqD, fRepT, wDisp, wpCons, wpNil, keysD, dKey, wExtF, fStrI, wCallM, wCallMF, wmNil, wmD, wmS, wmF, avIx, avSls, avSl, avBack, avSet, wParM, List.nodup_nil, List.nodup_cons, List.mem_cons, List.not_mem_nil, or_false, not_false_eq_true, List.drop_succ_cons, List.drop_zero,  wAug, wRepL, wCatO, wCatF, wKeys, wItemsK, bName, bNames, retD, ctD, vd, itemsD, isDict, List.getElem?_cons_zero, List.getElem?_cons_succ, List.set_cons_zero, List.set_cons_succ, List.cons_append, List.nil_append, List.append_nil, List.replicate_succ, List.replicate_zero, List.map_cons, List.map_nil, List.length_cons, List.length_nil, List.zip_cons_cons, List.zip_nil_right, List.zip_nil_left, List.foldl_cons, List.foldl_nil, wipeE, backE, List.getD_cons_zero, List.getD_cons_succ, outsOf, keepPin, List.range_succ, List.range_zero, exS, at0, at1, at2, at3, at4, ix0, ix1, ix2, if_true, if_false, true_and, and_true, Bool.false_eq_true, reduceCtorEq, eqvI, eqvS, eqvB, scalI, scalS, scalB, true_or, decide_eq_true_eq, Bool.not_true, Bool.not_false, Bool.not_eq_true, isi_none_int, isi_none_bool, isi_none_str, isi_none_tuple, isi_none_list, isi_none_dict, isi_bool_int, isi_bool_bool, isi_bool_str, isi_bool_tuple, isi_bool_list, isi_bool_dict, isi_int_int, isi_int_bool, isi_int_str, isi_int_tuple, isi_int_list, isi_int_dict, isi_str_int, isi_str_bool, isi_str_str, isi_str_tuple, isi_str_list, isi_str_dict, isi_list_int, isi_list_bool, isi_list_str, isi_list_tuple, isi_list_list, isi_list_dict, isi_tuple_int, isi_tuple_bool, isi_tuple_str, isi_tuple_tuple, isi_tuple_list, isi_tuple_dict, isi_dict_int, isi_dict_bool, isi_dict_str, isi_dict_tuple, isi_dict_list, isi_dict_dict]
  refine ⟨by decide, ?_⟩
  refine k ⟨words, cd, gs, letters, sent⟩ ds9 ⟨⟨ok, oks, ww, lw, sw⟩, hle, htt, ?_, ?_, ?_⟩ (h9.mono (by omega))
  · simp at wl
    show words.length = 10 ∨ words.length = 20 ∨ words.length = 50
    omega
  · simp at ll
    show letters.length ≤ 2
    omega
  · simp at sl
    show sent.length ≤ 2
    omega

end K23

namespace K23
open PySem PySem.Spec PyProof.Rows L2 G
def isWhole : D → Bool
  | .int _ => true
  | _ => false

end K23

namespace K23
open PySem PySem.Spec PyProof.Rows L2 G
def sp_is_whole : Spc := fun as R => ∃ d : D, as = [.d d] ∧ R (.fz (.bool (isWhole d))) [.no]
theorem len_is_whole : ∀ as R, sp_is_whole as R → as.length = 1 := fun as R ⟨d, e, _⟩ => by rw [e]; rfl
def w_is_whole_0 : WS := (wRet (wAndV (wIsi "int" (wName 0)) (wNotV (wIsi "bool" (wName 0)))))
theorem w_is_whole_0_e (E : VD) (ρ : En) : w_is_whole_0 E ρ = (wRet (wAndV (wIsi "int" (wName 0)) (wNotV (wIsi "bool" (wName 0))))) E ρ := rfl
def w_is_whole : WS := w_is_whole_0
def Bd_is_whole : Prop := Body 1 0 w_is_whole sp_is_whole
theorem body_is_whole : Bd_is_whole := by
  intro as R h
  obtain ⟨d, rfl, k⟩ := h
  simp only [w_is_whole, w_is_whole_0, wSeq, wNext, wIfS, wBool, wOp, wAt, wPeek, wName, wC, fIx, wChain, wAndT, wOrT, wNotT, wAndV, wOrV, wNotV, wIf, wNil, wCons, wTup, wLst, wDNew, wFz, fI, fI0, fEq, fNe, fIsN, fIsNot, fAdd, fIn, wC1, wC1F, fLen, fTup, fList, fInt, fAbs, wSlT, wSlL, wNoPart, wPart, wDrop, wRet, wRetF, wRetO, wSet, wSetF, wSetT, wPar, wPut, wBreak, wCont, wItems, wRng1, wRng2, wZip, wEnum, wEnumA, wRev, wFor, wWhile, wLc, wDc, wYes, wCall, wCallF, wCallK, wCallIo, wIsi, wNeg, wGetN, wGetE, wPop2, wAppend, wStar, seqD, fRepT, wDisp, wpCons, wpNil, keysD, dKey, wExtF, fStrI, wCallM, wCallMF, wmNil, wmD, wmS, wmF, avIx, avSls, avSl, avBack, avSet, wParM, List.nodup_nil, List.nodup_cons, List.mem_cons, List.not_mem_nil, or_false, not_false_eq_true, List.drop_succ_cons, List.drop_zero,  wAug, wRepL, wCatO, wCatF, wKeys, wItemsK, bName, bNames, retD, ctD, vd, itemsD, isDict, List.getElem?_cons_zero, List.getElem?_cons_succ, List.set_cons_zero, List.set_cons_succ, List.cons_append, List.nil_append, List.append_nil, List.replicate_succ, List.replicate_zero, List.map_cons, List.map_nil, List.length_cons, List.length_nil, List.zip_cons_cons, List.zip_nil_right, List.zip_nil_left, List.foldl_cons, List.foldl_nil, wipeE, backE, List.getD_cons_zero, List.getD_cons_succ, outsOf, keepPin, List.range_succ, List.range_zero, exS, at0, at1, at2, at3, at4, ix0, ix1, ix2, if_true, if_false, true_and, and_true, Bool.false_eq_true, reduceCtorEq, eqvI, eqvS, eqvB, scalI, scalS, scalB, true_or, decide_eq_true_eq, Bool.not_true, Bool.not_false, Bool.not_eq_true, isi_none_int, isi_none_bool, isi_none_str, isi_none_tuple, isi_none_list, isi_none_dict, isi_bool_int, isi_bool_bool, isi_bool_str, isi_bool_tuple, isi_bool_list, isi_bool_dict, isi_int_int, isi_int_bool, isi_int_str, isi_int_tuple, isi_int_list, isi_int_dict, isi_str_int, isi_str_bool, isi_str_str, isi_str_tuple, isi_str_list, isi_str_dict, isi_list_int, isi_list_bool, isi_list_str, isi_list_tuple, isi_list_list, isi_list_dict, isi_tuple_int, isi_tuple_bool, isi_tuple_str, isi_tuple_tuple, isi_tuple_list, isi_tuple_dict, isi_dict_int, isi_dict_bool, isi_dict_str, isi_dict_tuple, isi_dict_list, isi_dict_dict]
  cases d <;> exact k

end K23

namespace K23
open PySem PySem.Spec PyProof.Rows L2 G
/-! ### paths -/
def isNum (d : D) : Bool := match d with
  | .int i => decide (0 ≤ i) && decide (i < 4)
  | _ => false
def isPath (d : D) : Bool := match d with
  | .tuple ds => ds.all isNum
  | _ => false
/-- how long tuples may be -/
def lenOk : D → Prop
  | .tuple ds => ds.length ≤ 100000
  | _ => True
def sp_is_number : Spc := fun as R => ∃ d : D, as = [.d d] ∧ R (.fz (.bool (isNum d))) [.no]
theorem len_is_number : ∀ as R, sp_is_number as R → as.length = 1 := fun as R ⟨d, e, _⟩ => by rw [e]; rfl
def w_is_number_0 : WS := (wRet (wAndV (wCall sp_is_whole (wCons (wName 0) wNil)) (wChain (fI0 fun i j => .bool (decide (i ≤ j))) (fI0 fun i j => .bool (decide (i < j))) (wC (.int 0)) (wName 0) (wC (.int 4)))))
theorem w_is_number_0_e (E : VD) (ρ : En) : w_is_number_0 E ρ = (wRet (wAndV (wCall sp_is_whole (wCons (wName 0) wNil)) (wChain (fI0 fun i j => .bool (decide (i ≤ j))) (fI0 fun i j => .bool (decide (i < j))) (wC (.int 0)) (wName 0) (wC (.int 4))))) E ρ := rfl
def w_is_number : WS := w_is_number_0
def Bd_is_number : Prop := Body 1 0 w_is_number sp_is_number
theorem body_is_number : Bd_is_number := by
  intro as R h
  obtain ⟨d, rfl, k⟩ := h
  simp only [w_is_number, w_is_number_0, wSeq, wNext, wIfS, wBool, wOp, wAt, wPeek, wName, wC, fIx, wChain, wAndT, wOrT, wNotT, wAndV, wOrV, wNotV, wIf, wNil, wCons, wTup, wLst, wDNew, wFz, fI, fI0, fEq, fNe, fIsN, fIsNot, fAdd, fIn, wC1, wC1F, fLen, fTup, fList, fInt, fAbs, wSlT, wSlL, wNoPart, wPart, wDrop, wRet, wRetF, wRetO, wSet, wSetF, wSetT, wPar, wPut, wBreak, wCont, wItems, wRng1, wRng2, wZip, wEnum, wEnumA, wRev, wFor, wWhile, wLc, wDc, wYes, wCall, wCallF, wCallK, wCallIo, wIsi, wNeg, wGetN, wGetE, wPop2, wAppend, wStar, seqD, fRepT, wDisp, wpCons, wpNil, keysD, dKey, wExtF, fStrI, wCallM, wCallMF, wmNil, wmD, wmS, wmF, avIx, avSls, avSl, avBack, avSet, wParM, List.nodup_nil, List.nodup_cons, List.mem_cons, List.not_mem_nil, or_false, not_false_eq_true, List.drop_succ_cons, List.drop_zero,  wAug, wRepL, wCatO, wCatF, wKeys, wItemsK, bName, bNames, retD, ctD, vd, itemsD, isDict, List.getElem?_cons_zero, List.getElem?_cons_succ, List.set_cons_zero, List.set_cons_succ, List.cons_append, List.nil_append, List.append_nil, List.replicate_succ, List.replicate_zero, List.map_cons, List.map_nil, List.length_cons, List.length_nil, List.zip_cons_cons, List.zip_nil_right, List.zip_nil_left, List.foldl_cons, List.foldl_nil, wipeE, backE, List.getD_cons_zero, List.getD_cons_succ, outsOf, keepPin, List.range_succ, List.range_zero, exS, at0, at1, at2, at3, at4, ix0, ix1, ix2, if_true, if_false, true_and, and_true, Bool.false_eq_true, reduceCtorEq, eqvI, eqvS, eqvB, scalI, scalS, scalB, true_or, decide_eq_true_eq, Bool.not_true, Bool.not_false, Bool.not_eq_true, isi_none_int, isi_none_bool, isi_none_str, isi_none_tuple, isi_none_list, isi_none_dict, isi_bool_int, isi_bool_bool, isi_bool_str, isi_bool_tuple, isi_bool_list, isi_bool_dict, isi_int_int, isi_int_bool, isi_int_str, isi_int_tuple, isi_int_list, isi_int_dict, isi_str_int, isi_str_bool, isi_str_str, isi_str_tuple, isi_str_list, isi_str_dict, isi_list_int, isi_list_bool, isi_list_str, isi_list_tuple, isi_list_list, isi_list_dict, isi_tuple_int, isi_tuple_bool, isi_tuple_str, isi_tuple_tuple, isi_tuple_list, isi_tuple_dict, isi_dict_int, isi_dict_bool, isi_dict_str, isi_dict_tuple, isi_dict_list, isi_dict_dict]
  refine ⟨d, rfl, ?_⟩
  simp only [wSeq, wNext, wIfS, wBool, wOp, wAt, wPeek, wName, wC, fIx, wChain, wAndT, wOrT, wNotT, wAndV, wOrV, wNotV, wIf, wNil, wCons, wTup, wLst, wDNew, wFz, fI, fI0, fEq, fNe, fIsN, fIsNot, fAdd, fIn, wC1, wC1F, fLen, fTup, fList, fInt, fAbs, wSlT, wSlL, wNoPart, wPart, wDrop, wRet, wRetF, wRetO, wSet, wSetF, wSetT, wPar, wPut, wBreak, wCont, wItems, wRng1, wRng2, wZip, wEnum, wEnumA, wRev, wFor, wWhile, wLc, wDc, wYes, wCall, wCallF, wCallK, wCallIo, wIsi, wNeg, wGetN, wGetE, wPop2, wAppend, wStar, seqD, fRepT, wDisp, wpCons, wpNil, keysD, dKey, wExtF, fStrI, wCallM, wCallMF, wmNil, wmD, wmS, wmF, avIx, avSls, avSl, avBack, avSet, wParM, List.nodup_nil, List.nodup_cons, List.mem_cons, List.not_mem_nil, or_false, not_false_eq_true, List.drop_succ_cons, List.drop_zero,  wAug, wRepL, wCatO, wCatF, wKeys, wItemsK, bName, bNames, retD, ctD, vd, itemsD, isDict, List.getElem?_cons_zero, List.getElem?_cons_succ, List.set_cons_zero, List.set_cons_succ, List.cons_append, List.nil_append, List.append_nil, List.replicate_succ, List.replicate_zero, List.map_cons, List.map_nil, List.length_cons, List.length_nil, List.zip_cons_cons, List.zip_nil_right, List.zip_nil_left, List.foldl_cons, List.foldl_nil, wipeE, backE, List.getD_cons_zero, List.getD_cons_succ, outsOf, keepPin, List.range_succ, List.range_zero, exS, at0, at1, at2, at3, at4, ix0, ix1, ix2, if_true, if_false, true_and, and_true, Bool.false_eq_true, reduceCtorEq, eqvI, eqvS, eqvB, scalI, scalS, scalB, true_or, decide_eq_true_eq, Bool.not_true, Bool.not_false, Bool.not_eq_true, isi_none_int, isi_none_bool, isi_none_str, isi_none_tuple, isi_none_list, isi_none_dict, isi_bool_int, isi_bool_bool, isi_bool_str, isi_bool_tuple, isi_bool_list, isi_bool_dict, isi_int_int, isi_int_bool, isi_int_str, isi_int_tuple, isi_int_list, isi_int_dict, isi_str_int, isi_str_bool, isi_str_str, isi_str_tuple, isi_str_list, isi_str_dict, isi_list_int, isi_list_bool, isi_list_str, isi_list_tuple, isi_list_list, isi_list_dict, isi_tuple_int, isi_tuple_bool, isi_tuple_str, isi_tuple_tuple, isi_tuple_list, isi_tuple_dict, isi_dict_int, isi_dict_bool, isi_dict_str, isi_dict_tuple, isi_dict_list, isi_dict_dict]
  cases d <;> first | exact k | skip
  rename_i i
  have k : R (.fz (.bool (decide (0 ≤ i) && decide (i < 4)))) [.no] := k
  show match PyData.bool (decide (0 ≤ i)) with
    | .bool true => R (.fz (.bool (decide (i < 4)))) [.no]
    | .bool false => R (.fz (.bool false)) [.no]
    | _ => False
  by_cases h : 0 ≤ i
  · rw [decide_eq_true h] at k ⊢
    exact k
  · rw [decide_eq_false h] at k ⊢
    exact k
def sp_is_path : Spc := fun as R => ∃ d : D, as = [.d d] ∧ lenOk d ∧ R (.fz (.bool (isPath d))) [.no]
theorem len_is_path : ∀ as R, sp_is_path as R → as.length = 1 := fun as R ⟨d, e, _⟩ => by rw [e]; rfl
def w_is_path_0 : WS := (wRet (wAndV (wIsi "tuple" (wName 0)) (wC1 fAll (wFz (wLc [1] (wItems (wName 0)) (bName 1) wYes (wCall sp_is_number (wCons (wName 1) wNil)))))))
theorem w_is_path_0_e (E : VD) (ρ : En) : w_is_path_0 E ρ = (wRet (wAndV (wIsi "tuple" (wName 0)) (wC1 fAll (wFz (wLc [1] (wItems (wName 0)) (bName 1) wYes (wCall sp_is_number (wCons (wName 1) wNil))))))) E ρ := rfl
def w_is_path : WS := w_is_path_0
def Bd_is_path : Prop := Body 1 1 w_is_path sp_is_path
theorem nums_comp {ρ0 : Sl} {k : List D → En → Prop} : ∀ (ds : List D) (acc : List Bool), k ((acc ++ ds.map isNum).map .bool) [ρ0, .no] →
    compL [1] (bName 1) wYes (wCall sp_is_number (wCons (wName 1) wNil)) ds (acc.map .bool) [ρ0, .no] k
  | [], acc, h => by simpa [compL] using h
  | d :: ds, acc, h => by
    unfold compL
    simp only [wSeq, wNext, wIfS, wBool, wOp, wAt, wPeek, wName, wC, fIx, wChain, wAndT, wOrT, wNotT, wAndV, wOrV, wNotV, wIf, wNil, wCons, wTup, wLst, wDNew, wFz, fI, fI0, fEq, fNe, fIsN, fIsNot, fAdd, fIn, wC1, wC1F, fLen, fTup, fList, fInt, fAbs, wSlT, wSlL, wNoPart, wPart, wDrop, wRet, wRetF, wRetO, wSet, wSetF, wSetT, wPar, wPut, wBreak, wCont, wItems, wRng1, wRng2, wZip, wEnum, wEnumA, wRev, wFor, wWhile, wLc, wDc, wYes, wCall, wCallF, wCallK, wCallIo, wIsi, wNeg, wGetN, wGetE, wPop2, wAppend, wStar, seqD, fRepT, wDisp, wpCons, wpNil, keysD, dKey, wExtF, fStrI, wCallM, wCallMF, wmNil, wmD, wmS, wmF, avIx, avSls, avSl, avBack, avSet, wParM, List.nodup_nil, List.nodup_cons, List.mem_cons, List.not_mem_nil, or_false, not_false_eq_true, List.drop_succ_cons, List.drop_zero,  wAug, wRepL, wCatO, wCatF, wKeys, wItemsK, bName, bNames, retD, ctD, vd, itemsD, isDict, List.getElem?_cons_zero, List.getElem?_cons_succ, List.set_cons_zero, List.set_cons_succ, List.cons_append, List.nil_append, List.append_nil, List.replicate_succ, List.replicate_zero, List.map_cons, List.map_nil, List.length_cons, List.length_nil, List.zip_cons_cons, List.zip_nil_right, List.zip_nil_left, List.foldl_cons, List.foldl_nil, wipeE, backE, List.getD_cons_zero, List.getD_cons_succ, outsOf, keepPin, List.range_succ, List.range_zero, exS, at0, at1, at2, at3, at4, ix0, ix1, ix2, if_true, if_false, true_and, and_true, Bool.false_eq_true, reduceCtorEq, eqvI, eqvS, eqvB, scalI, scalS, scalB, true_or, decide_eq_true_eq, Bool.not_true, Bool.not_false, Bool.not_eq_true, isi_none_int, isi_none_bool, isi_none_str, isi_none_tuple, isi_none_list, isi_none_dict, isi_bool_int, isi_bool_bool, isi_bool_str, isi_bool_tuple, isi_bool_list, isi_bool_dict, isi_int_int, isi_int_bool, isi_int_str, isi_int_tuple, isi_int_list, isi_int_dict, isi_str_int, isi_str_bool, isi_str_str, isi_str_tuple, isi_str_list, isi_str_dict, isi_list_int, isi_list_bool, isi_list_str, isi_list_tuple, isi_list_list, isi_list_dict, isi_tuple_int, isi_tuple_bool, isi_tuple_str, isi_tuple_tuple, isi_tuple_list, isi_tuple_dict, isi_dict_int, isi_dict_bool, isi_dict_str, isi_dict_tuple, isi_dict_list, isi_dict_dict]
    refine ⟨d, rfl, ?_⟩
    have ea : acc.map PyData.bool ++ [.bool (isNum d)] = (acc ++ [isNum d]).map .bool := by simp
    simp only [wSeq, wNext, wIfS, wBool, wOp, wAt, wPeek, wName, wC, fIx, wChain, wAndT, wOrT, wNotT, wAndV, wOrV, wNotV, wIf, wNil, wCons, wTup, wLst, wDNew, wFz, fI, fI0, fEq, fNe, fIsN, fIsNot, fAdd, fIn, wC1, wC1F, fLen, fTup, fList, fInt, fAbs, wSlT, wSlL, wNoPart, wPart, wDrop, wRet, wRetF, wRetO, wSet, wSetF, wSetT, wPar, wPut, wBreak, wCont, wItems, wRng1, wRng2, wZip, wEnum, wEnumA, wRev, wFor, wWhile, wLc, wDc, wYes, wCall, wCallF, wCallK, wCallIo, wIsi, wNeg, wGetN, wGetE, wPop2, wAppend, wStar, seqD, fRepT, wDisp, wpCons, wpNil, keysD, dKey, wExtF, fStrI, wCallM, wCallMF, wmNil, wmD, wmS, wmF, avIx, avSls, avSl, avBack, avSet, wParM, List.nodup_nil, List.nodup_cons, List.mem_cons, List.not_mem_nil, or_false, not_false_eq_true, List.drop_succ_cons, List.drop_zero,  wAug, wRepL, wCatO, wCatF, wKeys, wItemsK, bName, bNames, retD, ctD, vd, itemsD, isDict, List.getElem?_cons_zero, List.getElem?_cons_succ, List.set_cons_zero, List.set_cons_succ, List.cons_append, List.nil_append, List.append_nil, List.replicate_succ, List.replicate_zero, List.map_cons, List.map_nil, List.length_cons, List.length_nil, List.zip_cons_cons, List.zip_nil_right, List.zip_nil_left, List.foldl_cons, List.foldl_nil, wipeE, backE, List.getD_cons_zero, List.getD_cons_succ, outsOf, keepPin, List.range_succ, List.range_zero, exS, at0, at1, at2, at3, at4, ix0, ix1, ix2, if_true, if_false, true_and, and_true, Bool.false_eq_true, reduceCtorEq, eqvI, eqvS, eqvB, scalI, scalS, scalB, true_or, decide_eq_true_eq, Bool.not_true, Bool.not_false, Bool.not_eq_true, isi_none_int, isi_none_bool, isi_none_str, isi_none_tuple, isi_none_list, isi_none_dict, isi_bool_int, isi_bool_bool, isi_bool_str, isi_bool_tuple, isi_bool_list, isi_bool_dict, isi_int_int, isi_int_bool, isi_int_str, isi_int_tuple, isi_int_list, isi_int_dict, isi_str_int, isi_str_bool, isi_str_str, isi_str_tuple, isi_str_list, isi_str_dict, isi_list_int, isi_list_bool, isi_list_str, isi_list_tuple, isi_list_list, isi_list_dict, isi_tuple_int, isi_tuple_bool, isi_tuple_str, isi_tuple_tuple, isi_tuple_list, isi_tuple_dict, isi_dict_int, isi_dict_bool, isi_dict_str, isi_dict_tuple, isi_dict_list, isi_dict_dict]
    rw [ea]
    exact nums_comp ds (acc ++ [isNum d]) (by simpa using h)
theorem body_is_path : Bd_is_path := by
  intro as R h
  obtain ⟨d, rfl, hl, k⟩ := h
  simp only [w_is_path, w_is_path_0, wSeq, wNext, wIfS, wBool, wOp, wAt, wPeek, wName, wC, fIx, wChain, wAndT, wOrT, wNotT, wAndV, wOrV, wNotV, wIf, wNil, wCons, wTup, wLst, wDNew, wFz, fI, fI0, fEq, fNe, fIsN, fIsNot, fAdd, fIn, wC1, wC1F, fLen, fTup, fList, fInt, fAbs, wSlT, wSlL, wNoPart, wPart, wDrop, wRet, wRetF, wRetO, wSet, wSetF, wSetT, wPar, wPut, wBreak, wCont, wItems, wRng1, wRng2, wZip, wEnum, wEnumA, wRev, wFor, wWhile, wLc, wDc, wYes, wCall, wCallF, wCallK, wCallIo, wIsi, wNeg, wGetN, wGetE, wPop2, wAppend, wStar, seqD, fRepT, wDisp, wpCons, wpNil, keysD, dKey, wExtF, fStrI, wCallM, wCallMF, wmNil, wmD, wmS, wmF, avIx, avSls, avSl, avBack, avSet, wParM, List.nodup_nil, List.nodup_cons, List.mem_cons, List.not_mem_nil, or_false, not_false_eq_true, List.drop_succ_cons, List.drop_zero,  wAug, wRepL, wCatO, wCatF, wKeys, wItemsK, bName, bNames, retD, ctD, vd, itemsD, isDict, List.getElem?_cons_zero, List.getElem?_cons_succ, List.set_cons_zero, List.set_cons_succ, List.cons_append, List.nil_append, List.append_nil, List.replicate_succ, List.replicate_zero, List.map_cons, List.map_nil, List.length_cons, List.length_nil, List.zip_cons_cons, List.zip_nil_right, List.zip_nil_left, List.foldl_cons, List.foldl_nil, wipeE, backE, List.getD_cons_zero, List.getD_cons_succ, outsOf, keepPin, List.range_succ, List.range_zero, exS, at0, at1, at2, at3, at4, ix0, ix1, ix2, if_true, if_false, true_and, and_true, Bool.false_eq_true, reduceCtorEq, eqvI, eqvS, eqvB, scalI, scalS, scalB, true_or, decide_eq_true_eq, Bool.not_true, Bool.not_false, Bool.not_eq_true, isi_none_int, isi_none_bool, isi_none_str, isi_none_tuple, isi_none_list, isi_none_dict, isi_bool_int, isi_bool_bool, isi_bool_str, isi_bool_tuple, isi_bool_list, isi_bool_dict, isi_int_int, isi_int_bool, isi_int_str, isi_int_tuple, isi_int_list, isi_int_dict, isi_str_int, isi_str_bool, isi_str_str, isi_str_tuple, isi_str_list, isi_str_dict, isi_list_int, isi_list_bool, isi_list_str, isi_list_tuple, isi_list_list, isi_list_dict, isi_tuple_int, isi_tuple_bool, isi_tuple_str, isi_tuple_tuple, isi_tuple_list, isi_tuple_dict, isi_dict_int, isi_dict_bool, isi_dict_str, isi_dict_tuple, isi_dict_list, isi_dict_dict]
  cases d with
  | tuple ds =>
    have hl : ds.length ≤ 100000 := hl
    have k : R (.fz (.bool (ds.all isNum))) [.no] := k
    simp only [wSeq, wNext, wIfS, wBool, wOp, wAt, wPeek, wName, wC, fIx, wChain, wAndT, wOrT, wNotT, wAndV, wOrV, wNotV, wIf, wNil, wCons, wTup, wLst, wDNew, wFz, fI, fI0, fEq, fNe, fIsN, fIsNot, fAdd, fIn, wC1, wC1F, fLen, fTup, fList, fInt, fAbs, wSlT, wSlL, wNoPart, wPart, wDrop, wRet, wRetF, wRetO, wSet, wSetF, wSetT, wPar, wPut, wBreak, wCont, wItems, wRng1, wRng2, wZip, wEnum, wEnumA, wRev, wFor, wWhile, wLc, wDc, wYes, wCall, wCallF, wCallK, wCallIo, wIsi, wNeg, wGetN, wGetE, wPop2, wAppend, wStar, seqD, fRepT, wDisp, wpCons, wpNil, keysD, dKey, wExtF, fStrI, wCallM, wCallMF, wmNil, wmD, wmS, wmF, avIx, avSls, avSl, avBack, avSet, wParM, List.nodup_nil, List.nodup_cons, List.mem_cons, List.not_mem_nil, or_false, not_false_eq_true, List.drop_succ_cons, List.drop_zero,  wAug, wRepL, wCatO, wCatF, wKeys, wItemsK, bName, bNames, retD, ctD, vd, itemsD, isDict, List.getElem?_cons_zero, List.getElem?_cons_succ, List.set_cons_zero, List.set_cons_succ, List.cons_append, List.nil_append, List.append_nil, List.replicate_succ, List.replicate_zero, List.map_cons, List.map_nil, List.length_cons, List.length_nil, List.zip_cons_cons, List.zip_nil_right, List.zip_nil_left, List.foldl_cons, List.foldl_nil, wipeE, backE, List.getD_cons_zero, List.getD_cons_succ, outsOf, keepPin, List.range_succ, List.range_zero, exS, at0, at1, at2, at3, at4, ix0, ix1, ix2, if_true, if_false, true_and, and_true, Bool.false_eq_true, reduceCtorEq, eqvI, eqvS, eqvB, scalI, scalS, scalB, true_or, decide_eq_true_eq, Bool.not_true, Bool.not_false, Bool.not_eq_true, isi_none_int, isi_none_bool, isi_none_str, isi_none_tuple, isi_none_list, isi_none_dict, isi_bool_int, isi_bool_bool, isi_bool_str, isi_bool_tuple, isi_bool_list, isi_bool_dict, isi_int_int, isi_int_bool, isi_int_str, isi_int_tuple, isi_int_list, isi_int_dict, isi_str_int, isi_str_bool, isi_str_str, isi_str_tuple, isi_str_list, isi_str_dict, isi_list_int, isi_list_bool, isi_list_str, isi_list_tuple, isi_list_list, isi_list_dict, isi_tuple_int, isi_tuple_bool, isi_tuple_str, isi_tuple_tuple, isi_tuple_list, isi_tuple_dict, isi_dict_int, isi_dict_bool, isi_dict_str, isi_dict_tuple, isi_dict_list, isi_dict_dict]
    refine ⟨noOwn_of rfl, small_len hl, ?_⟩
    refine nums_comp ds [] ⟨ds.map isNum, rfl, ?_⟩
    have ea : ((ds.map isNum).all fun b => b) = ds.all isNum := by rw [List.all_map]; rfl
    rw [ea]
    exact k
  | _ => simp only [wSeq, wNext, wIfS, wBool, wOp, wAt, wPeek, wName, wC, fIx, wChain, wAndT, wOrT, wNotT, wAndV, wOrV, wNotV, wIf, wNil, wCons, wTup, wLst, wDNew, wFz, fI, fI0, fEq, fNe, fIsN, fIsNot, fAdd, fIn, wC1, wC1F, fLen, fTup, fList, fInt, fAbs, wSlT, wSlL, wNoPart, wPart, wDrop, wRet, wRetF, wRetO, wSet, wSetF, wSetT, wPar, wPut, wBreak, wCont, wItems, wRng1, wRng2, wZip, wEnum, wEnumA, wRev, wFor, wWhile, wLc, wDc, wYes, wCall, wCallF, wCallK, wCallIo, wIsi, wNeg, wGetN, wGetE, wPop2, wAppend, wStar, seqD, fRepT, wDisp, wpCons, wpNil, keysD, dKey, wExtF, fStrI, wCallM, wCallMF, wmNil, wmD, wmS, wmF, avIx, avSls, avSl, avBack, avSet, wParM, List.nodup_nil, List.nodup_cons, List.mem_cons, List.not_mem_nil, or_false, not_false_eq_true, List.drop_succ_cons, List.drop_zero,  wAug, wRepL, wCatO, wCatF, wKeys, wItemsK, bName, bNames, retD, ctD, vd, itemsD, isDict, List.getElem?_cons_zero, List.getElem?_cons_succ, List.set_cons_zero, List.set_cons_succ, List.cons_append, List.nil_append, List.append_nil, List.replicate_succ, List.replicate_zero, List.map_cons, List.map_nil, List.length_cons, List.length_nil, List.zip_cons_cons, List.zip_nil_right, List.zip_nil_left, List.foldl_cons, List.foldl_nil, wipeE, backE, List.getD_cons_zero, List.getD_cons_succ, outsOf, keepPin, List.range_succ, List.range_zero, exS, at0, at1, at2, at3, at4, ix0, ix1, ix2, if_true, if_false, true_and, and_true, Bool.false_eq_true, reduceCtorEq, eqvI, eqvS, eqvB, scalI, scalS, scalB, true_or, decide_eq_true_eq, Bool.not_true, Bool.not_false, Bool.not_eq_true, isi_none_int, isi_none_bool, isi_none_str, isi_none_tuple, isi_none_list, isi_none_dict, isi_bool_int, isi_bool_bool, isi_bool_str, isi_bool_tuple, isi_bool_list, isi_bool_dict, isi_int_int, isi_int_bool, isi_int_str, isi_int_tuple, isi_int_list, isi_int_dict, isi_str_int, isi_str_bool, isi_str_str, isi_str_tuple, isi_str_list, isi_str_dict, isi_list_int, isi_list_bool, isi_list_str, isi_list_tuple, isi_list_list, isi_list_dict, isi_tuple_int, isi_tuple_bool, isi_tuple_str, isi_tuple_tuple, isi_tuple_list, isi_tuple_dict, isi_dict_int, isi_dict_bool, isi_dict_str, isi_dict_tuple, isi_dict_list, isi_dict_dict]; exact k
/-! ### by their paths -/
def numD (i : Fin 4) : D := .int (i.val : Int)
def pathD (p : List (Fin 4)) : D := .tuple (p.map numD)
theorem path_is (p : List (Fin 4)) : isPath (pathD p) = true := by
  show (p.map numD).all isNum = true
  rw [List.all_eq_true]
  intro d hd
  obtain ⟨i, _, rfl⟩ := List.mem_map.mp hd
  have := i.isLt
  show (decide (0 ≤ (i.val : Int)) && decide ((i.val : Int) < 4)) = true
  simp; omega
def chainG (gs : Fin 4 → Gst) : List (Fin 4) → Option (List Gst)
  | [] => some []
  | k :: p => match gs k with
    | .no => none
    | .mk c' gs' t w f => (chainG gs' p).map fun l => .mk c' gs' t w f :: l
def corG (c : Cd) (gs : Fin 4 → Gst) : List (Fin 4) → Option (Cd × (Fin 4 → Gst))
  | [] => some (c, gs)
  | k :: p => match gs k with
    | .no => none
    | .mk c' gs' _ _ _ => corG c' gs' p
theorem chain_none {c : Cd} {gs : Fin 4 → Gst} : ∀ {p : List (Fin 4)}, chainG gs p = none ↔ corG c gs p = none
  | [] => by simp [chainG, corG]
  | k :: p => by
    unfold chainG corG
    cases q : gs k with
    | no => simp
    | mk c' gs' t w f => simp only [Option.map_eq_none_iff]; exact chain_none
/-- the last of a chain has the core there -/
theorem chain_last {c : Cd} {gs : Fin 4 → Gst} : ∀ {p : List (Fin 4)} {l : List Gst}, chainG gs p = some l → (p = [] ∧ l = []) ∨ ∃ l' c' gs' t w f, l = l' ++ [Gst.mk c' gs' t w f] ∧ corG c gs p = some (c', gs')
  | [], l, h => by cases h; exact .inl ⟨rfl, rfl⟩
  | k :: p, l, h => by
    unfold chainG at h
    cases q : gs k with
    | no => rw [q] at h; cases h
    | mk c' gs' t w f =>
      rw [q] at h
      simp only [Option.map_eq_some_iff] at h
      obtain ⟨l1, h1, rfl⟩ := h
      unfold corG
      rw [q]
      rcases chain_last (c := c') h1 with ⟨rfl, rfl⟩ | ⟨l', c2, gs2, t2, w2, f2, rfl, e⟩
      · exact .inr ⟨[], c', gs', t, w, f, rfl, rfl⟩
      · exact .inr ⟨_ :: l', c2, gs2, t2, w2, f2, rfl, e⟩
theorem chain_ok {gs : Fin 4 → Gst} : ∀ {p : List (Fin 4)} {l : List Gst}, (∀ k, (gs k).Ok) → chainG gs p = some l → ∀ g ∈ l, g.Ok
  | [], l, _, h => by cases h; simp
  | k :: p, l, ok, h => by
    unfold chainG at h
    have o := ok k
    cases q : gs k with
    | no => rw [q] at h; cases h
    | mk c' gs' t w f =>
      rw [q] at h o
      simp only [Option.map_eq_some_iff] at h
      obtain ⟨l1, h1, rfl⟩ := h
      intro g hg
      rcases List.mem_cons.mp hg with rfl | hg
      · exact o
      · exact chain_ok o.2.2.2 h1 g hg
theorem cor_ok {c : Cd} {gs : Fin 4 → Gst} {n : Nat} : ∀ {p : List (Fin 4)} {r : Cd × (Fin 4 → Gst)}, c.Ok gs → (∀ k, (gs k).Ok) → (∀ k, (gs k).Le n) → corG c gs p = some r → r.1.Ok r.2 ∧ (∀ k, (r.2 k).Ok) ∧ (∀ k, (r.2 k).Le n) ∧ tot r.2 ≤ tot gs
  | [], r, ok, oks, les, h => by cases h; exact ⟨ok, oks, les, Nat.le_refl _⟩
  | k :: p, r, ok, oks, les, h => by
    unfold corG at h
    have o := oks k
    have l := les k
    have z := sz_tot gs k
    cases q : gs k with
    | no => rw [q] at h; cases h
    | mk c' gs' t w f =>
      rw [q] at h o l z
      rw [gsz_mk] at z
      cases n with
      | zero => exact l.elim
      | succ n =>
        obtain ⟨a, b, d, e⟩ := cor_ok (n := n + 1) o.1 o.2.2.2 (fun j => (l j).mono (by omega)) h
        exact ⟨a, b, d, by omega⟩

end K23

namespace K23
open PySem PySem.Spec PyProof.Rows L2 G
theorem small_lt2 {n : Nat} (h : n < 100000) : n < sizeLine := Nat.lt_of_lt_of_le h (by decide)

end K23

namespace K23
open PySem PySem.Spec PyProof.Rows L2 G
/-! ### shapes -/
theorem lay_ints (l : List Int) : PyData.canLayAll0 (l.map .int) = true ∧ PyData.depthAll (l.map .int) = 0 := by
  induction l with
  | nil => exact ⟨rfl, rfl⟩
  | cons x l ih => simp only [List.map_cons, PyData.canLayAll0, PyData.canLay0, PyData.depthAll, PyData.depth, ih.1, ih.2, Bool.and_self]; exact ⟨trivial, rfl⟩
theorem lay_ents (es : List E3) : PyData.canLayAll0 (es.map ent) = true := by
  induction es with
  | nil => rfl
  | cons x l ih => simp only [List.map_cons, ent_eq, PyData.canLayAll0, PyData.canLay0, ih, Bool.and_self]
theorem lay_gst : ∀ g : Gst, (gD g).canLay0 = true
  | .no => rfl
  | .mk c gs t w f => by
    have h0 := lay_gst (gs 0)
    have h1 := lay_gst (gs 1)
    have h2 := lay_gst (gs 2)
    have h3 := lay_gst (gs 3)
    have hi : (insD c.ins).canLay0 = true := by cases c.ins <;> rfl
    have hf : (fuelD f).canLay0 = true := by cases f <;> rfl
    have hw : (wayD w).canLay0 = true := by cases w <;> decide +kernel
    unfold gD tbl
    simp only [PyData.canLay0, PyData.canLayAll0, (lay_ints c.regs).1, lay_ents, h0, h1, h2, h3, hi, hf, hw, Bool.and_self]
theorem lay_gsts (l : List Gst) : PyData.canLayAll0 (l.map gD) = true := by
  induction l with
  | nil => rfl
  | cons x l ih => simp only [List.map_cons, PyData.canLayAll0, lay_gst, ih, Bool.and_self]
theorem depth_gsts {n : Nat} (l : List Gst) (h : ∀ g ∈ l, g.Ok ∧ g.Le n) : PyData.depthAll (l.map gD) ≤ 3 * n + 3 := by
  induction l with
  | nil => simp [PyData.depthAll]
  | cons x l ih =>
    have := ih fun g hg => h g (by simp [hg])
    obtain ⟨a, b⟩ := h x (by simp)
    have := (gst_size n x a b).2.2
    simp only [List.map_cons, PyData.depthAll]
    omega
theorem shaped_gsts {n : Nat} (hn : n ≤ 16) (l : List Gst) (h : ∀ g ∈ l, g.Ok ∧ g.Le n) : SeqAt.shaped (.list (l.map gD)) = true := by
  have := depth_gsts l h
  unfold SeqAt.shaped
  simp only [PyData.canLay0, PyData.depth, lay_gsts, Bool.true_and]
  exact decide_eq_true (by omega)
theorem chain_le {gs : Fin 4 → Gst} {n : Nat} : ∀ {p : List (Fin 4)} {l : List Gst}, (∀ k, (gs k).Le n) → chainG gs p = some l → (∀ g ∈ l, g.Le n) ∧ l.length = p.length ∧ l.length ≤ n
  | [], l, _, h => by cases h; simp
  | k :: p, l, les, h => by
    unfold chainG at h
    have o := les k
    cases q : gs k with
    | no => rw [q] at h; cases h
    | mk c' gs' t w f =>
      rw [q] at h o
      simp only [Option.map_eq_some_iff] at h
      obtain ⟨l1, h1, rfl⟩ := h
      cases n with
      | zero => exact o.elim
      | succ n =>
        obtain ⟨a, b, d⟩ := chain_le o h1
        refine ⟨fun g hg => ?_, by simp [b], by simp; omega⟩
        rcases List.mem_cons.mp hg with rfl | hg
        · exact o
        · exact (a g hg).mono (by omega)
/-! ### chain_to, core_at, guest_at -/
def sp_chain_to : Spc := fun as R => ∃ (m : Mch) (p : List (Fin 4)) (l : List Gst), as = [.d (mD m), .d (pathD p)] ∧ p.length ≤ 1000 ∧ chainG m.gs p = some l ∧ R (.fz (.list (l.map gD))) [.no, .no]
theorem len_chain_to : ∀ as R, sp_chain_to as R → as.length = 2 := fun as R ⟨m, p, l, e, _⟩ => by rw [e]; rfl
def w_chain_to_L1_3 : WS := (wSet 5 (wAt 8 fIx (wC (.int 0))))
theorem w_chain_to_L1_3_e (E : VD) (ρ : En) : w_chain_to_L1_3 E ρ = (wSet 5 (wAt 8 fIx (wC (.int 0)))) E ρ := rfl
def w_chain_to_L1_2 : WS := (wSeq (wDrop (wAppend 2 (wName 8)))
    w_chain_to_L1_3)
theorem w_chain_to_L1_2_e (E : VD) (ρ : En) : w_chain_to_L1_2 E ρ = (wSeq (wDrop (wAppend 2 (wName 8)))
    w_chain_to_L1_3) E ρ := rfl
def w_chain_to_L1_1 : WS := (wSeq (wIfS (wBool (wOp fIsN (wName 8) (wC .none))) wNever wNext)
    w_chain_to_L1_2)
theorem w_chain_to_L1_1_e (E : VD) (ρ : En) : w_chain_to_L1_1 E ρ = (wSeq (wIfS (wBool (wOp fIsN (wName 8) (wC .none))) wNever wNext)
    w_chain_to_L1_2) E ρ := rfl
def w_chain_to_L1_0 : WS := (wSeq (wSet 8 (wOp fIx (wAt 5 fIx (wC (.int 3))) (wName 3)))
    w_chain_to_L1_1)
theorem w_chain_to_L1_0_e (E : VD) (ρ : En) : w_chain_to_L1_0 E ρ = (wSeq (wSet 8 (wOp fIx (wAt 5 fIx (wC (.int 3))) (wName 3)))
    w_chain_to_L1_1) E ρ := rfl
def w_chain_to_4 : WS := (wRet (wName 2))
theorem w_chain_to_4_e (E : VD) (ρ : En) : w_chain_to_4 E ρ = (wRet (wName 2)) E ρ := rfl
def w_chain_to_3 : WS := (wSeq (wFor (wItems (wName 1)) (bName 3) w_chain_to_L1_0)
    w_chain_to_4)
theorem w_chain_to_3_e (E : VD) (ρ : En) : w_chain_to_3 E ρ = (wSeq (wFor (wItems (wName 1)) (bName 3) w_chain_to_L1_0)
    w_chain_to_4) E ρ := rfl
def w_chain_to_2 : WS := (wSeq (wSetF 2 (wLst wNil))
    w_chain_to_3)
theorem w_chain_to_2_e (E : VD) (ρ : En) : w_chain_to_2 E ρ = (wSeq (wSetF 2 (wLst wNil))
    w_chain_to_3) E ρ := rfl
def w_chain_to_1 : WS := (wSeq (wSetT [4, 5, 6, 7] (wName 0))
    w_chain_to_2)
theorem w_chain_to_1_e (E : VD) (ρ : En) : w_chain_to_1 E ρ = (wSeq (wSetT [4, 5, 6, 7] (wName 0))
    w_chain_to_2) E ρ := rfl
def w_chain_to_0 : WS := (wSeq (wIfS (wNotT (wBool (wCall sp_is_path (wCons (wName 1) wNil)))) wNever wNext)
    w_chain_to_1)
theorem w_chain_to_0_e (E : VD) (ρ : En) : w_chain_to_0 E ρ = (wSeq (wIfS (wNotT (wBool (wCall sp_is_path (wCons (wName 1) wNil)))) wNever wNext)
    w_chain_to_1) E ρ := rfl
def w_chain_to : WS := w_chain_to_0
def Bd_chain_to : Prop := Body 2 7 w_chain_to sp_chain_to
theorem chain_loop {E : VD} {L : List Gst} {xm xp : D} : ∀ (p : List (Fin 4)) (c : Cd) (gs : Fin 4 → Gst) (acc l : List Gst) (s3 s4 s6 s7 s8 : Sl), chainG gs p = some l → acc.length + p.length ≤ 1000 → acc ++ l = L → (∀ (c : Cd) (gs : Fin 4 → Gst) (s3 s4 s6 s7 s8 : Sl), E.nx [.d xm, .d xp, .o false (.l (L.map gD)), s3, s4, .d (coreD c gs), s6, s7, s8]) →
    wForL (bName 3) w_chain_to_L1_0 E (p.map numD) [.d xm, .d xp, .o false (.l (acc.map gD)), s3, s4, .d (coreD c gs), s6, s7, s8]
  | [], c, gs, acc, l, s3, s4, s6, s7, s8, h, hl, e, k => by
    cases h
    rw [List.append_nil] at e
    subst e
    exact k c gs _ _ _ _ _
  | j :: p, c, gs, acc, l, s3, s4, s6, s7, s8, h, hl, e, k => by
    rw [List.length_cons] at hl
    rw [List.map_cons]
    unfold wForL
    unfold chainG at h
    simp only [w_chain_to_L1_0_e, coreD, numD, wSeq, wNext, wIfS, wBool, wOp, wAt, wPeek, wName, wC, fIx, wChain, wAndT, wOrT, wNotT, wAndV, wOrV, wNotV, wIf, wNil, wCons, wTup, wLst, wDNew, wFz, fI, fI0, fEq, fNe, fIsN, fIsNot, fAdd, fIn, wC1, wC1F, fLen, fTup, fList, fInt, fAbs, wSlT, wSlL, wNoPart, wPart, wDrop, wRet, wRetF, wRetO, wSet, wSetF, wSetT, wPar, wPut, wBreak, wCont, wItems, wRng1, wRng2, wZip, wEnum, wEnumA, wRev, wFor, wWhile, wLc, wDc, wYes, wCall, wCallF, wCallK, wCallIo, wIsi, wNeg, wGetN, wGetE, wPop2, wAppend, wStar, seqD, fRepT, wDisp, wpCons, wpNil, keysD, dKey, wExtF, fStrI, wCallM, wCallMF, wmNil, wmD, wmS, wmF, avIx, avSls, avSl, avBack, avSet, wParM, List.nodup_nil, List.nodup_cons, List.mem_cons, List.not_mem_nil, or_false, not_false_eq_true, List.drop_succ_cons, List.drop_zero,  wAug, wRepL, wCatO, wCatF, wKeys, wItemsK, bName, bNames, retD, ctD, vd, itemsD, isDict, List.getElem?_cons_zero, List.getElem?_cons_succ, List.set_cons_zero, List.set_cons_succ, List.cons_append, List.nil_append, List.append_nil, List.replicate_succ, List.replicate_zero, List.map_cons, List.map_nil, List.length_cons, List.length_nil, List.zip_cons_cons, List.zip_nil_right, List.zip_nil_left, List.foldl_cons, List.foldl_nil, wipeE, backE, List.getD_cons_zero, List.getD_cons_succ, outsOf, keepPin, List.range_succ, List.range_zero, exS, at0, at1, at2, at3, at4, ix0, ix1, ix2, if_true, if_false, true_and, and_true, Bool.false_eq_true, reduceCtorEq, eqvI, eqvS, eqvB, scalI, scalS, scalB, true_or, decide_eq_true_eq, Bool.not_true, Bool.not_false, Bool.not_eq_true, isi_none_int, isi_none_bool, isi_none_str, isi_none_tuple, isi_none_list, isi_none_dict, isi_bool_int, isi_bool_bool, isi_bool_str, isi_bool_tuple, isi_bool_list, isi_bool_dict, isi_int_int, isi_int_bool, isi_int_str, isi_int_tuple, isi_int_list, isi_int_dict, isi_str_int, isi_str_bool, isi_str_str, isi_str_tuple, isi_str_list, isi_str_dict, isi_list_int, isi_list_bool, isi_list_str, isi_list_tuple, isi_list_list, isi_list_dict, isi_tuple_int, isi_tuple_bool, isi_tuple_str, isi_tuple_tuple, isi_tuple_list, isi_tuple_dict, isi_dict_int, isi_dict_bool, isi_dict_str, isi_dict_tuple, isi_dict_list, isi_dict_dict]
    refine ⟨_, at_gs gs j.isLt, ?_⟩
    have ej : (⟨j.val, j.isLt⟩ : Fin 4) = j := rfl
    rw [ej]
    cases q : gs j with
    | no => rw [q] at h; cases h
    | mk c' gs' t w f =>
      rw [q] at h
      simp only [Option.map_eq_some_iff] at h
      obtain ⟨l1, h1, rfl⟩ := h
      simp only [w_chain_to_L1_1_e, gD_mk, wSeq, wNext, wIfS, wBool, wOp, wAt, wPeek, wName, wC, fIx, wChain, wAndT, wOrT, wNotT, wAndV, wOrV, wNotV, wIf, wNil, wCons, wTup, wLst, wDNew, wFz, fI, fI0, fEq, fNe, fIsN, fIsNot, fAdd, fIn, wC1, wC1F, fLen, fTup, fList, fInt, fAbs, wSlT, wSlL, wNoPart, wPart, wDrop, wRet, wRetF, wRetO, wSet, wSetF, wSetT, wPar, wPut, wBreak, wCont, wItems, wRng1, wRng2, wZip, wEnum, wEnumA, wRev, wFor, wWhile, wLc, wDc, wYes, wCall, wCallF, wCallK, wCallIo, wIsi, wNeg, wGetN, wGetE, wPop2, wAppend, wStar, seqD, fRepT, wDisp, wpCons, wpNil, keysD, dKey, wExtF, fStrI, wCallM, wCallMF, wmNil, wmD, wmS, wmF, avIx, avSls, avSl, avBack, avSet, wParM, List.nodup_nil, List.nodup_cons, List.mem_cons, List.not_mem_nil, or_false, not_false_eq_true, List.drop_succ_cons, List.drop_zero,  wAug, wRepL, wCatO, wCatF, wKeys, wItemsK, bName, bNames, retD, ctD, vd, itemsD, isDict, List.getElem?_cons_zero, List.getElem?_cons_succ, List.set_cons_zero, List.set_cons_succ, List.cons_append, List.nil_append, List.append_nil, List.replicate_succ, List.replicate_zero, List.map_cons, List.map_nil, List.length_cons, List.length_nil, List.zip_cons_cons, List.zip_nil_right, List.zip_nil_left, List.foldl_cons, List.foldl_nil, wipeE, backE, List.getD_cons_zero, List.getD_cons_succ, outsOf, keepPin, List.range_succ, List.range_zero, exS, at0, at1, at2, at3, at4, ix0, ix1, ix2, if_true, if_false, true_and, and_true, Bool.false_eq_true, reduceCtorEq, eqvI, eqvS, eqvB, scalI, scalS, scalB, true_or, decide_eq_true_eq, Bool.not_true, Bool.not_false, Bool.not_eq_true, isi_none_int, isi_none_bool, isi_none_str, isi_none_tuple, isi_none_list, isi_none_dict, isi_bool_int, isi_bool_bool, isi_bool_str, isi_bool_tuple, isi_bool_list, isi_bool_dict, isi_int_int, isi_int_bool, isi_int_str, isi_int_tuple, isi_int_list, isi_int_dict, isi_str_int, isi_str_bool, isi_str_str, isi_str_tuple, isi_str_list, isi_str_dict, isi_list_int, isi_list_bool, isi_list_str, isi_list_tuple, isi_list_list, isi_list_dict, isi_tuple_int, isi_tuple_bool, isi_tuple_str, isi_tuple_tuple, isi_tuple_list, isi_tuple_dict, isi_dict_int, isi_dict_bool, isi_dict_str, isi_dict_tuple, isi_dict_list, isi_dict_dict]
      rw [if_neg (by simp [isNone])]
      simp only [w_chain_to_L1_2_e, wSeq, wNext, wIfS, wBool, wOp, wAt, wPeek, wName, wC, fIx, wChain, wAndT, wOrT, wNotT, wAndV, wOrV, wNotV, wIf, wNil, wCons, wTup, wLst, wDNew, wFz, fI, fI0, fEq, fNe, fIsN, fIsNot, fAdd, fIn, wC1, wC1F, fLen, fTup, fList, fInt, fAbs, wSlT, wSlL, wNoPart, wPart, wDrop, wRet, wRetF, wRetO, wSet, wSetF, wSetT, wPar, wPut, wBreak, wCont, wItems, wRng1, wRng2, wZip, wEnum, wEnumA, wRev, wFor, wWhile, wLc, wDc, wYes, wCall, wCallF, wCallK, wCallIo, wIsi, wNeg, wGetN, wGetE, wPop2, wAppend, wStar, seqD, fRepT, wDisp, wpCons, wpNil, keysD, dKey, wExtF, fStrI, wCallM, wCallMF, wmNil, wmD, wmS, wmF, avIx, avSls, avSl, avBack, avSet, wParM, List.nodup_nil, List.nodup_cons, List.mem_cons, List.not_mem_nil, or_false, not_false_eq_true, List.drop_succ_cons, List.drop_zero,  wAug, wRepL, wCatO, wCatF, wKeys, wItemsK, bName, bNames, retD, ctD, vd, itemsD, isDict, List.getElem?_cons_zero, List.getElem?_cons_succ, List.set_cons_zero, List.set_cons_succ, List.cons_append, List.nil_append, List.append_nil, List.replicate_succ, List.replicate_zero, List.map_cons, List.map_nil, List.length_cons, List.length_nil, List.zip_cons_cons, List.zip_nil_right, List.zip_nil_left, List.foldl_cons, List.foldl_nil, wipeE, backE, List.getD_cons_zero, List.getD_cons_succ, outsOf, keepPin, List.range_succ, List.range_zero, exS, at0, at1, at2, at3, at4, ix0, ix1, ix2, if_true, if_false, true_and, and_true, Bool.false_eq_true, reduceCtorEq, eqvI, eqvS, eqvB, scalI, scalS, scalB, true_or, decide_eq_true_eq, Bool.not_true, Bool.not_false, Bool.not_eq_true, isi_none_int, isi_none_bool, isi_none_str, isi_none_tuple, isi_none_list, isi_none_dict, isi_bool_int, isi_bool_bool, isi_bool_str, isi_bool_tuple, isi_bool_list, isi_bool_dict, isi_int_int, isi_int_bool, isi_int_str, isi_int_tuple, isi_int_list, isi_int_dict, isi_str_int, isi_str_bool, isi_str_str, isi_str_tuple, isi_str_list, isi_str_dict, isi_list_int, isi_list_bool, isi_list_str, isi_list_tuple, isi_list_list, isi_list_dict, isi_tuple_int, isi_tuple_bool, isi_tuple_str, isi_tuple_tuple, isi_tuple_list, isi_tuple_dict, isi_dict_int, isi_dict_bool, isi_dict_str, isi_dict_tuple, isi_dict_list, isi_dict_dict]
      refine ⟨small_lt2 (by simp; omega), ?_⟩
      simp only [w_chain_to_L1_3_e, wSeq, wNext, wIfS, wBool, wOp, wAt, wPeek, wName, wC, fIx, wChain, wAndT, wOrT, wNotT, wAndV, wOrV, wNotV, wIf, wNil, wCons, wTup, wLst, wDNew, wFz, fI, fI0, fEq, fNe, fIsN, fIsNot, fAdd, fIn, wC1, wC1F, fLen, fTup, fList, fInt, fAbs, wSlT, wSlL, wNoPart, wPart, wDrop, wRet, wRetF, wRetO, wSet, wSetF, wSetT, wPar, wPut, wBreak, wCont, wItems, wRng1, wRng2, wZip, wEnum, wEnumA, wRev, wFor, wWhile, wLc, wDc, wYes, wCall, wCallF, wCallK, wCallIo, wIsi, wNeg, wGetN, wGetE, wPop2, wAppend, wStar, seqD, fRepT, wDisp, wpCons, wpNil, keysD, dKey, wExtF, fStrI, wCallM, wCallMF, wmNil, wmD, wmS, wmF, avIx, avSls, avSl, avBack, avSet, wParM, List.nodup_nil, List.nodup_cons, List.mem_cons, List.not_mem_nil, or_false, not_false_eq_true, List.drop_succ_cons, List.drop_zero,  wAug, wRepL, wCatO, wCatF, wKeys, wItemsK, bName, bNames, retD, ctD, vd, itemsD, isDict, List.getElem?_cons_zero, List.getElem?_cons_succ, List.set_cons_zero, List.set_cons_succ, List.cons_append, List.nil_append, List.append_nil, List.replicate_succ, List.replicate_zero, List.map_cons, List.map_nil, List.length_cons, List.length_nil, List.zip_cons_cons, List.zip_nil_right, List.zip_nil_left, List.foldl_cons, List.foldl_nil, wipeE, backE, List.getD_cons_zero, List.getD_cons_succ, outsOf, keepPin, List.range_succ, List.range_zero, exS, at0, at1, at2, at3, at4, ix0, ix1, ix2, if_true, if_false, true_and, and_true, Bool.false_eq_true, reduceCtorEq, eqvI, eqvS, eqvB, scalI, scalS, scalB, true_or, decide_eq_true_eq, Bool.not_true, Bool.not_false, Bool.not_eq_true, isi_none_int, isi_none_bool, isi_none_str, isi_none_tuple, isi_none_list, isi_none_dict, isi_bool_int, isi_bool_bool, isi_bool_str, isi_bool_tuple, isi_bool_list, isi_bool_dict, isi_int_int, isi_int_bool, isi_int_str, isi_int_tuple, isi_int_list, isi_int_dict, isi_str_int, isi_str_bool, isi_str_str, isi_str_tuple, isi_str_list, isi_str_dict, isi_list_int, isi_list_bool, isi_list_str, isi_list_tuple, isi_list_list, isi_list_dict, isi_tuple_int, isi_tuple_bool, isi_tuple_str, isi_tuple_tuple, isi_tuple_list, isi_tuple_dict, isi_dict_int, isi_dict_bool, isi_dict_str, isi_dict_tuple, isi_dict_list, isi_dict_dict]
      have ea : acc.map gD ++ [.tuple [coreD c' gs', tbl t, wayD w, fuelD f]] = (acc ++ [Gst.mk c' gs' t w f]).map gD := by rw [List.map_append]; rfl
      rw [ea]
      exact chain_loop p c' gs' _ l1 _ _ _ _ _ h1 (by simp; omega) (by rw [← e]; simp) k
theorem body_chain_to : Bd_chain_to := by
  intro as R h
  obtain ⟨m, p, l, rfl, hl, hc, k⟩ := h
  unfold w_chain_to
  simp only [w_chain_to_0_e, wSeq, wNext, wIfS, wBool, wOp, wAt, wPeek, wName, wC, fIx, wChain, wAndT, wOrT, wNotT, wAndV, wOrV, wNotV, wIf, wNil, wCons, wTup, wLst, wDNew, wFz, fI, fI0, fEq, fNe, fIsN, fIsNot, fAdd, fIn, wC1, wC1F, fLen, fTup, fList, fInt, fAbs, wSlT, wSlL, wNoPart, wPart, wDrop, wRet, wRetF, wRetO, wSet, wSetF, wSetT, wPar, wPut, wBreak, wCont, wItems, wRng1, wRng2, wZip, wEnum, wEnumA, wRev, wFor, wWhile, wLc, wDc, wYes, wCall, wCallF, wCallK, wCallIo, wIsi, wNeg, wGetN, wGetE, wPop2, wAppend, wStar, seqD, fRepT, wDisp, wpCons, wpNil, keysD, dKey, wExtF, fStrI, wCallM, wCallMF, wmNil, wmD, wmS, wmF, avIx, avSls, avSl, avBack, avSet, wParM, List.nodup_nil, List.nodup_cons, List.mem_cons, List.not_mem_nil, or_false, not_false_eq_true, List.drop_succ_cons, List.drop_zero,  wAug, wRepL, wCatO, wCatF, wKeys, wItemsK, bName, bNames, retD, ctD, vd, itemsD, isDict, List.getElem?_cons_zero, List.getElem?_cons_succ, List.set_cons_zero, List.set_cons_succ, List.cons_append, List.nil_append, List.append_nil, List.replicate_succ, List.replicate_zero, List.map_cons, List.map_nil, List.length_cons, List.length_nil, List.zip_cons_cons, List.zip_nil_right, List.zip_nil_left, List.foldl_cons, List.foldl_nil, wipeE, backE, List.getD_cons_zero, List.getD_cons_succ, outsOf, keepPin, List.range_succ, List.range_zero, exS, at0, at1, at2, at3, at4, ix0, ix1, ix2, if_true, if_false, true_and, and_true, Bool.false_eq_true, reduceCtorEq, eqvI, eqvS, eqvB, scalI, scalS, scalB, true_or, decide_eq_true_eq, Bool.not_true, Bool.not_false, Bool.not_eq_true, isi_none_int, isi_none_bool, isi_none_str, isi_none_tuple, isi_none_list, isi_none_dict, isi_bool_int, isi_bool_bool, isi_bool_str, isi_bool_tuple, isi_bool_list, isi_bool_dict, isi_int_int, isi_int_bool, isi_int_str, isi_int_tuple, isi_int_list, isi_int_dict, isi_str_int, isi_str_bool, isi_str_str, isi_str_tuple, isi_str_list, isi_str_dict, isi_list_int, isi_list_bool, isi_list_str, isi_list_tuple, isi_list_list, isi_list_dict, isi_tuple_int, isi_tuple_bool, isi_tuple_str, isi_tuple_tuple, isi_tuple_list, isi_tuple_dict, isi_dict_int, isi_dict_bool, isi_dict_str, isi_dict_tuple, isi_dict_list, isi_dict_dict]
  refine ⟨_, rfl, by show (p.map numD).length ≤ 100000; rw [List.length_map]; omega, ?_⟩
  rw [path_is]
  simp only [wSeq, wNext, wIfS, wBool, wOp, wAt, wPeek, wName, wC, fIx, wChain, wAndT, wOrT, wNotT, wAndV, wOrV, wNotV, wIf, wNil, wCons, wTup, wLst, wDNew, wFz, fI, fI0, fEq, fNe, fIsN, fIsNot, fAdd, fIn, wC1, wC1F, fLen, fTup, fList, fInt, fAbs, wSlT, wSlL, wNoPart, wPart, wDrop, wRet, wRetF, wRetO, wSet, wSetF, wSetT, wPar, wPut, wBreak, wCont, wItems, wRng1, wRng2, wZip, wEnum, wEnumA, wRev, wFor, wWhile, wLc, wDc, wYes, wCall, wCallF, wCallK, wCallIo, wIsi, wNeg, wGetN, wGetE, wPop2, wAppend, wStar, seqD, fRepT, wDisp, wpCons, wpNil, keysD, dKey, wExtF, fStrI, wCallM, wCallMF, wmNil, wmD, wmS, wmF, avIx, avSls, avSl, avBack, avSet, wParM, List.nodup_nil, List.nodup_cons, List.mem_cons, List.not_mem_nil, or_false, not_false_eq_true, List.drop_succ_cons, List.drop_zero,  wAug, wRepL, wCatO, wCatF, wKeys, wItemsK, bName, bNames, retD, ctD, vd, itemsD, isDict, List.getElem?_cons_zero, List.getElem?_cons_succ, List.set_cons_zero, List.set_cons_succ, List.cons_append, List.nil_append, List.append_nil, List.replicate_succ, List.replicate_zero, List.map_cons, List.map_nil, List.length_cons, List.length_nil, List.zip_cons_cons, List.zip_nil_right, List.zip_nil_left, List.foldl_cons, List.foldl_nil, wipeE, backE, List.getD_cons_zero, List.getD_cons_succ, outsOf, keepPin, List.range_succ, List.range_zero, exS, at0, at1, at2, at3, at4, ix0, ix1, ix2, if_true, if_false, true_and, and_true, Bool.false_eq_true, reduceCtorEq, eqvI, eqvS, eqvB, scalI, scalS, scalB, true_or, decide_eq_true_eq, Bool.not_true, Bool.not_false, Bool.not_eq_true, isi_none_int, isi_none_bool, isi_none_str, isi_none_tuple, isi_none_list, isi_none_dict, isi_bool_int, isi_bool_bool, isi_bool_str, isi_bool_tuple, isi_bool_list, isi_bool_dict, isi_int_int, isi_int_bool, isi_int_str, isi_int_tuple, isi_int_list, isi_int_dict, isi_str_int, isi_str_bool, isi_str_str, isi_str_tuple, isi_str_list, isi_str_dict, isi_list_int, isi_list_bool, isi_list_str, isi_list_tuple, isi_list_list, isi_list_dict, isi_tuple_int, isi_tuple_bool, isi_tuple_str, isi_tuple_tuple, isi_tuple_list, isi_tuple_dict, isi_dict_int, isi_dict_bool, isi_dict_str, isi_dict_tuple, isi_dict_list, isi_dict_dict]
  simp only [w_chain_to_1_e, mD, wSeq, wNext, wIfS, wBool, wOp, wAt, wPeek, wName, wC, fIx, wChain, wAndT, wOrT, wNotT, wAndV, wOrV, wNotV, wIf, wNil, wCons, wTup, wLst, wDNew, wFz, fI, fI0, fEq, fNe, fIsN, fIsNot, fAdd, fIn, wC1, wC1F, fLen, fTup, fList, fInt, fAbs, wSlT, wSlL, wNoPart, wPart, wDrop, wRet, wRetF, wRetO, wSet, wSetF, wSetT, wPar, wPut, wBreak, wCont, wItems, wRng1, wRng2, wZip, wEnum, wEnumA, wRev, wFor, wWhile, wLc, wDc, wYes, wCall, wCallF, wCallK, wCallIo, wIsi, wNeg, wGetN, wGetE, wPop2, wAppend, wStar, seqD, fRepT, wDisp, wpCons, wpNil, keysD, dKey, wExtF, fStrI, wCallM, wCallMF, wmNil, wmD, wmS, wmF, avIx, avSls, avSl, avBack, avSet, wParM, List.nodup_nil, List.nodup_cons, List.mem_cons, List.not_mem_nil, or_false, not_false_eq_true, List.drop_succ_cons, List.drop_zero,  wAug, wRepL, wCatO, wCatF, wKeys, wItemsK, bName, bNames, retD, ctD, vd, itemsD, isDict, List.getElem?_cons_zero, List.getElem?_cons_succ, List.set_cons_zero, List.set_cons_succ, List.cons_append, List.nil_append, List.append_nil, List.replicate_succ, List.replicate_zero, List.map_cons, List.map_nil, List.length_cons, List.length_nil, List.zip_cons_cons, List.zip_nil_right, List.zip_nil_left, List.foldl_cons, List.foldl_nil, wipeE, backE, List.getD_cons_zero, List.getD_cons_succ, outsOf, keepPin, List.range_succ, List.range_zero, exS, at0, at1, at2, at3, at4, ix0, ix1, ix2, if_true, if_false, true_and, and_true, Bool.false_eq_true, reduceCtorEq, eqvI, eqvS, eqvB, scalI, scalS, scalB, true_or, decide_eq_true_eq, Bool.not_true, Bool.not_false, Bool.not_eq_true, isi_none_int, isi_none_bool, isi_none_str, isi_none_tuple, isi_none_list, isi_none_dict, isi_bool_int, isi_bool_bool, isi_bool_str, isi_bool_tuple, isi_bool_list, isi_bool_dict, isi_int_int, isi_int_bool, isi_int_str, isi_int_tuple, isi_int_list, isi_int_dict, isi_str_int, isi_str_bool, isi_str_str, isi_str_tuple, isi_str_list, isi_str_dict, isi_list_int, isi_list_bool, isi_list_str, isi_list_tuple, isi_list_list, isi_list_dict, isi_tuple_int, isi_tuple_bool, isi_tuple_str, isi_tuple_tuple, isi_tuple_list, isi_tuple_dict, isi_dict_int, isi_dict_bool, isi_dict_str, isi_dict_tuple, isi_dict_list, isi_dict_dict]
  simp only [w_chain_to_2_e, wSeq, wNext, wIfS, wBool, wOp, wAt, wPeek, wName, wC, fIx, wChain, wAndT, wOrT, wNotT, wAndV, wOrV, wNotV, wIf, wNil, wCons, wTup, wLst, wDNew, wFz, fI, fI0, fEq, fNe, fIsN, fIsNot, fAdd, fIn, wC1, wC1F, fLen, fTup, fList, fInt, fAbs, wSlT, wSlL, wNoPart, wPart, wDrop, wRet, wRetF, wRetO, wSet, wSetF, wSetT, wPar, wPut, wBreak, wCont, wItems, wRng1, wRng2, wZip, wEnum, wEnumA, wRev, wFor, wWhile, wLc, wDc, wYes, wCall, wCallF, wCallK, wCallIo, wIsi, wNeg, wGetN, wGetE, wPop2, wAppend, wStar, seqD, fRepT, wDisp, wpCons, wpNil, keysD, dKey, wExtF, fStrI, wCallM, wCallMF, wmNil, wmD, wmS, wmF, avIx, avSls, avSl, avBack, avSet, wParM, List.nodup_nil, List.nodup_cons, List.mem_cons, List.not_mem_nil, or_false, not_false_eq_true, List.drop_succ_cons, List.drop_zero,  wAug, wRepL, wCatO, wCatF, wKeys, wItemsK, bName, bNames, retD, ctD, vd, itemsD, isDict, List.getElem?_cons_zero, List.getElem?_cons_succ, List.set_cons_zero, List.set_cons_succ, List.cons_append, List.nil_append, List.append_nil, List.replicate_succ, List.replicate_zero, List.map_cons, List.map_nil, List.length_cons, List.length_nil, List.zip_cons_cons, List.zip_nil_right, List.zip_nil_left, List.foldl_cons, List.foldl_nil, wipeE, backE, List.getD_cons_zero, List.getD_cons_succ, outsOf, keepPin, List.range_succ, List.range_zero, exS, at0, at1, at2, at3, at4, ix0, ix1, ix2, if_true, if_false, true_and, and_true, Bool.false_eq_true, reduceCtorEq, eqvI, eqvS, eqvB, scalI, scalS, scalB, true_or, decide_eq_true_eq, Bool.not_true, Bool.not_false, Bool.not_eq_true, isi_none_int, isi_none_bool, isi_none_str, isi_none_tuple, isi_none_list, isi_none_dict, isi_bool_int, isi_bool_bool, isi_bool_str, isi_bool_tuple, isi_bool_list, isi_bool_dict, isi_int_int, isi_int_bool, isi_int_str, isi_int_tuple, isi_int_list, isi_int_dict, isi_str_int, isi_str_bool, isi_str_str, isi_str_tuple, isi_str_list, isi_str_dict, isi_list_int, isi_list_bool, isi_list_str, isi_list_tuple, isi_list_list, isi_list_dict, isi_tuple_int, isi_tuple_bool, isi_tuple_str, isi_tuple_tuple, isi_tuple_list, isi_tuple_dict, isi_dict_int, isi_dict_bool, isi_dict_str, isi_dict_tuple, isi_dict_list, isi_dict_dict]
  refine ⟨Nat.zero_le _, ?_⟩
  simp only [w_chain_to_3_e, pathD, wSeq, wNext, wIfS, wBool, wOp, wAt, wPeek, wName, wC, fIx, wChain, wAndT, wOrT, wNotT, wAndV, wOrV, wNotV, wIf, wNil, wCons, wTup, wLst, wDNew, wFz, fI, fI0, fEq, fNe, fIsN, fIsNot, fAdd, fIn, wC1, wC1F, fLen, fTup, fList, fInt, fAbs, wSlT, wSlL, wNoPart, wPart, wDrop, wRet, wRetF, wRetO, wSet, wSetF, wSetT, wPar, wPut, wBreak, wCont, wItems, wRng1, wRng2, wZip, wEnum, wEnumA, wRev, wFor, wWhile, wLc, wDc, wYes, wCall, wCallF, wCallK, wCallIo, wIsi, wNeg, wGetN, wGetE, wPop2, wAppend, wStar, seqD, fRepT, wDisp, wpCons, wpNil, keysD, dKey, wExtF, fStrI, wCallM, wCallMF, wmNil, wmD, wmS, wmF, avIx, avSls, avSl, avBack, avSet, wParM, List.nodup_nil, List.nodup_cons, List.mem_cons, List.not_mem_nil, or_false, not_false_eq_true, List.drop_succ_cons, List.drop_zero,  wAug, wRepL, wCatO, wCatF, wKeys, wItemsK, bName, bNames, retD, ctD, vd, itemsD, isDict, List.getElem?_cons_zero, List.getElem?_cons_succ, List.set_cons_zero, List.set_cons_succ, List.cons_append, List.nil_append, List.append_nil, List.replicate_succ, List.replicate_zero, List.map_cons, List.map_nil, List.length_cons, List.length_nil, List.zip_cons_cons, List.zip_nil_right, List.zip_nil_left, List.foldl_cons, List.foldl_nil, wipeE, backE, List.getD_cons_zero, List.getD_cons_succ, outsOf, keepPin, List.range_succ, List.range_zero, exS, at0, at1, at2, at3, at4, ix0, ix1, ix2, if_true, if_false, true_and, and_true, Bool.false_eq_true, reduceCtorEq, eqvI, eqvS, eqvB, scalI, scalS, scalB, true_or, decide_eq_true_eq, Bool.not_true, Bool.not_false, Bool.not_eq_true, isi_none_int, isi_none_bool, isi_none_str, isi_none_tuple, isi_none_list, isi_none_dict, isi_bool_int, isi_bool_bool, isi_bool_str, isi_bool_tuple, isi_bool_list, isi_bool_dict, isi_int_int, isi_int_bool, isi_int_str, isi_int_tuple, isi_int_list, isi_int_dict, isi_str_int, isi_str_bool, isi_str_str, isi_str_tuple, isi_str_list, isi_str_dict, isi_list_int, isi_list_bool, isi_list_str, isi_list_tuple, isi_list_list, isi_list_dict, isi_tuple_int, isi_tuple_bool, isi_tuple_str, isi_tuple_tuple, isi_tuple_list, isi_tuple_dict, isi_dict_int, isi_dict_bool, isi_dict_str, isi_dict_tuple, isi_dict_list, isi_dict_dict]
  refine chain_loop p m.c m.gs [] l _ _ _ _ _ hc (by simpa using hl) rfl fun c gs s3 s4 s6 s7 s8 => ?_
  simp only [w_chain_to_4_e, wSeq, wNext, wIfS, wBool, wOp, wAt, wPeek, wName, wC, fIx, wChain, wAndT, wOrT, wNotT, wAndV, wOrV, wNotV, wIf, wNil, wCons, wTup, wLst, wDNew, wFz, fI, fI0, fEq, fNe, fIsN, fIsNot, fAdd, fIn, wC1, wC1F, fLen, fTup, fList, fInt, fAbs, wSlT, wSlL, wNoPart, wPart, wDrop, wRet, wRetF, wRetO, wSet, wSetF, wSetT, wPar, wPut, wBreak, wCont, wItems, wRng1, wRng2, wZip, wEnum, wEnumA, wRev, wFor, wWhile, wLc, wDc, wYes, wCall, wCallF, wCallK, wCallIo, wIsi, wNeg, wGetN, wGetE, wPop2, wAppend, wStar, seqD, fRepT, wDisp, wpCons, wpNil, keysD, dKey, wExtF, fStrI, wCallM, wCallMF, wmNil, wmD, wmS, wmF, avIx, avSls, avSl, avBack, avSet, wParM, List.nodup_nil, List.nodup_cons, List.mem_cons, List.not_mem_nil, or_false, not_false_eq_true, List.drop_succ_cons, List.drop_zero,  wAug, wRepL, wCatO, wCatF, wKeys, wItemsK, bName, bNames, retD, ctD, vd, itemsD, isDict, List.getElem?_cons_zero, List.getElem?_cons_succ, List.set_cons_zero, List.set_cons_succ, List.cons_append, List.nil_append, List.append_nil, List.replicate_succ, List.replicate_zero, List.map_cons, List.map_nil, List.length_cons, List.length_nil, List.zip_cons_cons, List.zip_nil_right, List.zip_nil_left, List.foldl_cons, List.foldl_nil, wipeE, backE, List.getD_cons_zero, List.getD_cons_succ, outsOf, keepPin, List.range_succ, List.range_zero, exS, at0, at1, at2, at3, at4, ix0, ix1, ix2, if_true, if_false, true_and, and_true, Bool.false_eq_true, reduceCtorEq, eqvI, eqvS, eqvB, scalI, scalS, scalB, true_or, decide_eq_true_eq, Bool.not_true, Bool.not_false, Bool.not_eq_true, isi_none_int, isi_none_bool, isi_none_str, isi_none_tuple, isi_none_list, isi_none_dict, isi_bool_int, isi_bool_bool, isi_bool_str, isi_bool_tuple, isi_bool_list, isi_bool_dict, isi_int_int, isi_int_bool, isi_int_str, isi_int_tuple, isi_int_list, isi_int_dict, isi_str_int, isi_str_bool, isi_str_str, isi_str_tuple, isi_str_list, isi_str_dict, isi_list_int, isi_list_bool, isi_list_str, isi_list_tuple, isi_list_list, isi_list_dict, isi_tuple_int, isi_tuple_bool, isi_tuple_str, isi_tuple_tuple, isi_tuple_list, isi_tuple_dict, isi_dict_int, isi_dict_bool, isi_dict_str, isi_dict_tuple, isi_dict_list, isi_dict_dict]
  exact k
def sp_core_at : Spc := fun as R => ∃ (m : Mch) (p : List (Fin 4)) (c : Cd) (gs : Fin 4 → Gst), as = [.d (mD m), .d (pathD p)] ∧ (∀ k, (m.gs k).Ok) ∧ (∀ k, (m.gs k).Le 16) ∧ corG m.c m.gs p = some (c, gs) ∧ R (.fz (coreD c gs)) [.no, .no]
theorem len_core_at : ∀ as R, sp_core_at as R → as.length = 2 := fun as R ⟨m, p, c, gs, e, _⟩ => by rw [e]; rfl
def w_core_at_1 : WS := (wRet (wIf (wBool (wOp fNe (wName 2) (wFz (wLst wNil)))) (wOp fIx (wAt 2 fIx (wNeg (wC (.int 1)))) (wC (.int 0))) (wAt 0 fIx (wC (.int 1)))))
theorem w_core_at_1_e (E : VD) (ρ : En) : w_core_at_1 E ρ = (wRet (wIf (wBool (wOp fNe (wName 2) (wFz (wLst wNil)))) (wOp fIx (wAt 2 fIx (wNeg (wC (.int 1)))) (wC (.int 0))) (wAt 0 fIx (wC (.int 1))))) E ρ := rfl
def w_core_at_0 : WS := (wSeq (wSet 2 (wCall sp_chain_to (wCons (wName 0) (wCons (wName 1) wNil))))
    w_core_at_1)
theorem w_core_at_0_e (E : VD) (ρ : En) : w_core_at_0 E ρ = (wSeq (wSet 2 (wCall sp_chain_to (wCons (wName 0) (wCons (wName 1) wNil))))
    w_core_at_1) E ρ := rfl
def w_core_at : WS := w_core_at_0
def Bd_core_at : Prop := Body 2 1 w_core_at sp_core_at
theorem chain_of {c : Cd} {gs : Fin 4 → Gst} {p : List (Fin 4)} {r : Cd × (Fin 4 → Gst)} (h : corG c gs p = some r) : ∃ l, chainG gs p = some l := by
  cases q : chainG gs p with
  | none => rw [chain_none (c := c)] at q; rw [q] at h; cases h
  | some l => exact ⟨l, rfl⟩
theorem nil_shaped : SeqAt.shaped (.list []) = true := by decide +kernel
theorem body_core_at : Bd_core_at := by
  intro as R h
  obtain ⟨m, p, c, gs, rfl, oks, les, hc, k⟩ := h
  unfold w_core_at
  simp only [w_core_at_0_e, wSeq, wNext, wIfS, wBool, wOp, wAt, wPeek, wName, wC, fIx, wChain, wAndT, wOrT, wNotT, wAndV, wOrV, wNotV, wIf, wNil, wCons, wTup, wLst, wDNew, wFz, fI, fI0, fEq, fNe, fIsN, fIsNot, fAdd, fIn, wC1, wC1F, fLen, fTup, fList, fInt, fAbs, wSlT, wSlL, wNoPart, wPart, wDrop, wRet, wRetF, wRetO, wSet, wSetF, wSetT, wPar, wPut, wBreak, wCont, wItems, wRng1, wRng2, wZip, wEnum, wEnumA, wRev, wFor, wWhile, wLc, wDc, wYes, wCall, wCallF, wCallK, wCallIo, wIsi, wNeg, wGetN, wGetE, wPop2, wAppend, wStar, seqD, fRepT, wDisp, wpCons, wpNil, keysD, dKey, wExtF, fStrI, wCallM, wCallMF, wmNil, wmD, wmS, wmF, avIx, avSls, avSl, avBack, avSet, wParM, List.nodup_nil, List.nodup_cons, List.mem_cons, List.not_mem_nil, or_false, not_false_eq_true, List.drop_succ_cons, List.drop_zero,  wAug, wRepL, wCatO, wCatF, wKeys, wItemsK, bName, bNames, retD, ctD, vd, itemsD, isDict, List.getElem?_cons_zero, List.getElem?_cons_succ, List.set_cons_zero, List.set_cons_succ, List.cons_append, List.nil_append, List.append_nil, List.replicate_succ, List.replicate_zero, List.map_cons, List.map_nil, List.length_cons, List.length_nil, List.zip_cons_cons, List.zip_nil_right, List.zip_nil_left, List.foldl_cons, List.foldl_nil, wipeE, backE, List.getD_cons_zero, List.getD_cons_succ, outsOf, keepPin, List.range_succ, List.range_zero, exS, at0, at1, at2, at3, at4, ix0, ix1, ix2, if_true, if_false, true_and, and_true, Bool.false_eq_true, reduceCtorEq, eqvI, eqvS, eqvB, scalI, scalS, scalB, true_or, decide_eq_true_eq, Bool.not_true, Bool.not_false, Bool.not_eq_true, isi_none_int, isi_none_bool, isi_none_str, isi_none_tuple, isi_none_list, isi_none_dict, isi_bool_int, isi_bool_bool, isi_bool_str, isi_bool_tuple, isi_bool_list, isi_bool_dict, isi_int_int, isi_int_bool, isi_int_str, isi_int_tuple, isi_int_list, isi_int_dict, isi_str_int, isi_str_bool, isi_str_str, isi_str_tuple, isi_str_list, isi_str_dict, isi_list_int, isi_list_bool, isi_list_str, isi_list_tuple, isi_list_list, isi_list_dict, isi_tuple_int, isi_tuple_bool, isi_tuple_str, isi_tuple_tuple, isi_tuple_list, isi_tuple_dict, isi_dict_int, isi_dict_bool, isi_dict_str, isi_dict_tuple, isi_dict_list, isi_dict_dict]
  obtain ⟨l, hl⟩ := chain_of hc
  obtain ⟨ll, lp, lq⟩ := chain_le les hl
  refine ⟨m, p, l, rfl, by omega, hl, ?_⟩
  simp only [w_core_at_1_e, wSeq, wNext, wIfS, wBool, wOp, wAt, wPeek, wName, wC, fIx, wChain, wAndT, wOrT, wNotT, wAndV, wOrV, wNotV, wIf, wNil, wCons, wTup, wLst, wDNew, wFz, fI, fI0, fEq, fNe, fIsN, fIsNot, fAdd, fIn, wC1, wC1F, fLen, fTup, fList, fInt, fAbs, wSlT, wSlL, wNoPart, wPart, wDrop, wRet, wRetF, wRetO, wSet, wSetF, wSetT, wPar, wPut, wBreak, wCont, wItems, wRng1, wRng2, wZip, wEnum, wEnumA, wRev, wFor, wWhile, wLc, wDc, wYes, wCall, wCallF, wCallK, wCallIo, wIsi, wNeg, wGetN, wGetE, wPop2, wAppend, wStar, seqD, fRepT, wDisp, wpCons, wpNil, keysD, dKey, wExtF, fStrI, wCallM, wCallMF, wmNil, wmD, wmS, wmF, avIx, avSls, avSl, avBack, avSet, wParM, List.nodup_nil, List.nodup_cons, List.mem_cons, List.not_mem_nil, or_false, not_false_eq_true, List.drop_succ_cons, List.drop_zero,  wAug, wRepL, wCatO, wCatF, wKeys, wItemsK, bName, bNames, retD, ctD, vd, itemsD, isDict, List.getElem?_cons_zero, List.getElem?_cons_succ, List.set_cons_zero, List.set_cons_succ, List.cons_append, List.nil_append, List.append_nil, List.replicate_succ, List.replicate_zero, List.map_cons, List.map_nil, List.length_cons, List.length_nil, List.zip_cons_cons, List.zip_nil_right, List.zip_nil_left, List.foldl_cons, List.foldl_nil, wipeE, backE, List.getD_cons_zero, List.getD_cons_succ, outsOf, keepPin, List.range_succ, List.range_zero, exS, at0, at1, at2, at3, at4, ix0, ix1, ix2, if_true, if_false, true_and, and_true, Bool.false_eq_true, reduceCtorEq, eqvI, eqvS, eqvB, scalI, scalS, scalB, true_or, decide_eq_true_eq, Bool.not_true, Bool.not_false, Bool.not_eq_true, isi_none_int, isi_none_bool, isi_none_str, isi_none_tuple, isi_none_list, isi_none_dict, isi_bool_int, isi_bool_bool, isi_bool_str, isi_bool_tuple, isi_bool_list, isi_bool_dict, isi_int_int, isi_int_bool, isi_int_str, isi_int_tuple, isi_int_list, isi_int_dict, isi_str_int, isi_str_bool, isi_str_str, isi_str_tuple, isi_str_list, isi_str_dict, isi_list_int, isi_list_bool, isi_list_str, isi_list_tuple, isi_list_list, isi_list_dict, isi_tuple_int, isi_tuple_bool, isi_tuple_str, isi_tuple_tuple, isi_tuple_list, isi_tuple_dict, isi_dict_int, isi_dict_bool, isi_dict_str, isi_dict_tuple, isi_dict_list, isi_dict_dict]
  refine ⟨by decide, .inr ⟨shaped_gsts (n := 16) (by omega) l fun g hg => ⟨chain_ok oks hl g hg, ll g hg⟩, nil_shaped⟩, ?_⟩
  rcases chain_last (c := m.c) hl with ⟨rfl, rfl⟩ | ⟨l', c', gs', t, w, f, rfl, e⟩
  · cases hc
    refine iteN (by simp [PyData.eqv, PyData.eqvAll]) ?_
    simp only [mD, wSeq, wNext, wIfS, wBool, wOp, wAt, wPeek, wName, wC, fIx, wChain, wAndT, wOrT, wNotT, wAndV, wOrV, wNotV, wIf, wNil, wCons, wTup, wLst, wDNew, wFz, fI, fI0, fEq, fNe, fIsN, fIsNot, fAdd, fIn, wC1, wC1F, fLen, fTup, fList, fInt, fAbs, wSlT, wSlL, wNoPart, wPart, wDrop, wRet, wRetF, wRetO, wSet, wSetF, wSetT, wPar, wPut, wBreak, wCont, wItems, wRng1, wRng2, wZip, wEnum, wEnumA, wRev, wFor, wWhile, wLc, wDc, wYes, wCall, wCallF, wCallK, wCallIo, wIsi, wNeg, wGetN, wGetE, wPop2, wAppend, wStar, seqD, fRepT, wDisp, wpCons, wpNil, keysD, dKey, wExtF, fStrI, wCallM, wCallMF, wmNil, wmD, wmS, wmF, avIx, avSls, avSl, avBack, avSet, wParM, List.nodup_nil, List.nodup_cons, List.mem_cons, List.not_mem_nil, or_false, not_false_eq_true, List.drop_succ_cons, List.drop_zero,  wAug, wRepL, wCatO, wCatF, wKeys, wItemsK, bName, bNames, retD, ctD, vd, itemsD, isDict, List.getElem?_cons_zero, List.getElem?_cons_succ, List.set_cons_zero, List.set_cons_succ, List.cons_append, List.nil_append, List.append_nil, List.replicate_succ, List.replicate_zero, List.map_cons, List.map_nil, List.length_cons, List.length_nil, List.zip_cons_cons, List.zip_nil_right, List.zip_nil_left, List.foldl_cons, List.foldl_nil, wipeE, backE, List.getD_cons_zero, List.getD_cons_succ, outsOf, keepPin, List.range_succ, List.range_zero, exS, at0, at1, at2, at3, at4, ix0, ix1, ix2, if_true, if_false, true_and, and_true, Bool.false_eq_true, reduceCtorEq, eqvI, eqvS, eqvB, scalI, scalS, scalB, true_or, decide_eq_true_eq, Bool.not_true, Bool.not_false, Bool.not_eq_true, isi_none_int, isi_none_bool, isi_none_str, isi_none_tuple, isi_none_list, isi_none_dict, isi_bool_int, isi_bool_bool, isi_bool_str, isi_bool_tuple, isi_bool_list, isi_bool_dict, isi_int_int, isi_int_bool, isi_int_str, isi_int_tuple, isi_int_list, isi_int_dict, isi_str_int, isi_str_bool, isi_str_str, isi_str_tuple, isi_str_list, isi_str_dict, isi_list_int, isi_list_bool, isi_list_str, isi_list_tuple, isi_list_list, isi_list_dict, isi_tuple_int, isi_tuple_bool, isi_tuple_str, isi_tuple_tuple, isi_tuple_list, isi_tuple_dict, isi_dict_int, isi_dict_bool, isi_dict_str, isi_dict_tuple, isi_dict_list, isi_dict_dict]
    exact k
  · rw [hc] at e; cases e
    refine iteY (by cases l' <;> simp [PyData.eqv, PyData.eqvAll]) ?_
    refine ⟨gD (.mk c gs t w f), by rw [List.map_append]; exact atI_last _ _, ?_⟩
    simp only [gD_mk, wSeq, wNext, wIfS, wBool, wOp, wAt, wPeek, wName, wC, fIx, wChain, wAndT, wOrT, wNotT, wAndV, wOrV, wNotV, wIf, wNil, wCons, wTup, wLst, wDNew, wFz, fI, fI0, fEq, fNe, fIsN, fIsNot, fAdd, fIn, wC1, wC1F, fLen, fTup, fList, fInt, fAbs, wSlT, wSlL, wNoPart, wPart, wDrop, wRet, wRetF, wRetO, wSet, wSetF, wSetT, wPar, wPut, wBreak, wCont, wItems, wRng1, wRng2, wZip, wEnum, wEnumA, wRev, wFor, wWhile, wLc, wDc, wYes, wCall, wCallF, wCallK, wCallIo, wIsi, wNeg, wGetN, wGetE, wPop2, wAppend, wStar, seqD, fRepT, wDisp, wpCons, wpNil, keysD, dKey, wExtF, fStrI, wCallM, wCallMF, wmNil, wmD, wmS, wmF, avIx, avSls, avSl, avBack, avSet, wParM, List.nodup_nil, List.nodup_cons, List.mem_cons, List.not_mem_nil, or_false, not_false_eq_true, List.drop_succ_cons, List.drop_zero,  wAug, wRepL, wCatO, wCatF, wKeys, wItemsK, bName, bNames, retD, ctD, vd, itemsD, isDict, List.getElem?_cons_zero, List.getElem?_cons_succ, List.set_cons_zero, List.set_cons_succ, List.cons_append, List.nil_append, List.append_nil, List.replicate_succ, List.replicate_zero, List.map_cons, List.map_nil, List.length_cons, List.length_nil, List.zip_cons_cons, List.zip_nil_right, List.zip_nil_left, List.foldl_cons, List.foldl_nil, wipeE, backE, List.getD_cons_zero, List.getD_cons_succ, outsOf, keepPin, List.range_succ, List.range_zero, exS, at0, at1, at2, at3, at4, ix0, ix1, ix2, if_true, if_false, true_and, and_true, Bool.false_eq_true, reduceCtorEq, eqvI, eqvS, eqvB, scalI, scalS, scalB, true_or, decide_eq_true_eq, Bool.not_true, Bool.not_false, Bool.not_eq_true, isi_none_int, isi_none_bool, isi_none_str, isi_none_tuple, isi_none_list, isi_none_dict, isi_bool_int, isi_bool_bool, isi_bool_str, isi_bool_tuple, isi_bool_list, isi_bool_dict, isi_int_int, isi_int_bool, isi_int_str, isi_int_tuple, isi_int_list, isi_int_dict, isi_str_int, isi_str_bool, isi_str_str, isi_str_tuple, isi_str_list, isi_str_dict, isi_list_int, isi_list_bool, isi_list_str, isi_list_tuple, isi_list_list, isi_list_dict, isi_tuple_int, isi_tuple_bool, isi_tuple_str, isi_tuple_tuple, isi_tuple_list, isi_tuple_dict, isi_dict_int, isi_dict_bool, isi_dict_str, isi_dict_tuple, isi_dict_list, isi_dict_dict]
    exact k
def sp_guest_at : Spc := fun as R => ∃ (m : Mch) (p : List (Fin 4)) (c : Cd) (gs : Fin 4 → Gst), as = [.d (mD m), .d (pathD p)] ∧ (∀ k, (m.gs k).Ok) ∧ (∀ k, (m.gs k).Le 16) ∧ p ≠ [] ∧ corG m.c m.gs p = some (c, gs) ∧ ∀ t w f, R (.fz (gD (.mk c gs t w f))) [.no, .no]
theorem len_guest_at : ∀ as R, sp_guest_at as R → as.length = 2 := fun as R ⟨m, p, c, gs, e, _⟩ => by rw [e]; rfl
def w_guest_at_2 : WS := (wRet (wAt 2 fIx (wNeg (wC (.int 1)))))
theorem w_guest_at_2_e (E : VD) (ρ : En) : w_guest_at_2 E ρ = (wRet (wAt 2 fIx (wNeg (wC (.int 1))))) E ρ := rfl
def w_guest_at_1 : WS := (wSeq (wIfS (wBool (wOp fEq (wName 2) (wFz (wLst wNil)))) wNever wNext)
    w_guest_at_2)
theorem w_guest_at_1_e (E : VD) (ρ : En) : w_guest_at_1 E ρ = (wSeq (wIfS (wBool (wOp fEq (wName 2) (wFz (wLst wNil)))) wNever wNext)
    w_guest_at_2) E ρ := rfl
def w_guest_at_0 : WS := (wSeq (wSet 2 (wCall sp_chain_to (wCons (wName 0) (wCons (wName 1) wNil))))
    w_guest_at_1)
theorem w_guest_at_0_e (E : VD) (ρ : En) : w_guest_at_0 E ρ = (wSeq (wSet 2 (wCall sp_chain_to (wCons (wName 0) (wCons (wName 1) wNil))))
    w_guest_at_1) E ρ := rfl
def w_guest_at : WS := w_guest_at_0
def Bd_guest_at : Prop := Body 2 1 w_guest_at sp_guest_at
theorem body_guest_at : Bd_guest_at := by
  intro as R h
  obtain ⟨m, p, c, gs, rfl, oks, les, hp, hc, k⟩ := h
  unfold w_guest_at
  simp only [w_guest_at_0_e, wSeq, wNext, wIfS, wBool, wOp, wAt, wPeek, wName, wC, fIx, wChain, wAndT, wOrT, wNotT, wAndV, wOrV, wNotV, wIf, wNil, wCons, wTup, wLst, wDNew, wFz, fI, fI0, fEq, fNe, fIsN, fIsNot, fAdd, fIn, wC1, wC1F, fLen, fTup, fList, fInt, fAbs, wSlT, wSlL, wNoPart, wPart, wDrop, wRet, wRetF, wRetO, wSet, wSetF, wSetT, wPar, wPut, wBreak, wCont, wItems, wRng1, wRng2, wZip, wEnum, wEnumA, wRev, wFor, wWhile, wLc, wDc, wYes, wCall, wCallF, wCallK, wCallIo, wIsi, wNeg, wGetN, wGetE, wPop2, wAppend, wStar, seqD, fRepT, wDisp, wpCons, wpNil, keysD, dKey, wExtF, fStrI, wCallM, wCallMF, wmNil, wmD, wmS, wmF, avIx, avSls, avSl, avBack, avSet, wParM, List.nodup_nil, List.nodup_cons, List.mem_cons, List.not_mem_nil, or_false, not_false_eq_true, List.drop_succ_cons, List.drop_zero,  wAug, wRepL, wCatO, wCatF, wKeys, wItemsK, bName, bNames, retD, ctD, vd, itemsD, isDict, List.getElem?_cons_zero, List.getElem?_cons_succ, List.set_cons_zero, List.set_cons_succ, List.cons_append, List.nil_append, List.append_nil, List.replicate_succ, List.replicate_zero, List.map_cons, List.map_nil, List.length_cons, List.length_nil, List.zip_cons_cons, List.zip_nil_right, List.zip_nil_left, List.foldl_cons, List.foldl_nil, wipeE, backE, List.getD_cons_zero, List.getD_cons_succ, outsOf, keepPin, List.range_succ, List.range_zero, exS, at0, at1, at2, at3, at4, ix0, ix1, ix2, if_true, if_false, true_and, and_true, Bool.false_eq_true, reduceCtorEq, eqvI, eqvS, eqvB, scalI, scalS, scalB, true_or, decide_eq_true_eq, Bool.not_true, Bool.not_false, Bool.not_eq_true, isi_none_int, isi_none_bool, isi_none_str, isi_none_tuple, isi_none_list, isi_none_dict, isi_bool_int, isi_bool_bool, isi_bool_str, isi_bool_tuple, isi_bool_list, isi_bool_dict, isi_int_int, isi_int_bool, isi_int_str, isi_int_tuple, isi_int_list, isi_int_dict, isi_str_int, isi_str_bool, isi_str_str, isi_str_tuple, isi_str_list, isi_str_dict, isi_list_int, isi_list_bool, isi_list_str, isi_list_tuple, isi_list_list, isi_list_dict, isi_tuple_int, isi_tuple_bool, isi_tuple_str, isi_tuple_tuple, isi_tuple_list, isi_tuple_dict, isi_dict_int, isi_dict_bool, isi_dict_str, isi_dict_tuple, isi_dict_list, isi_dict_dict]
  obtain ⟨l, hl⟩ := chain_of hc
  obtain ⟨ll, lp, lq⟩ := chain_le les hl
  refine ⟨m, p, l, rfl, by omega, hl, ?_⟩
  simp only [w_guest_at_1_e, wSeq, wNext, wIfS, wBool, wOp, wAt, wPeek, wName, wC, fIx, wChain, wAndT, wOrT, wNotT, wAndV, wOrV, wNotV, wIf, wNil, wCons, wTup, wLst, wDNew, wFz, fI, fI0, fEq, fNe, fIsN, fIsNot, fAdd, fIn, wC1, wC1F, fLen, fTup, fList, fInt, fAbs, wSlT, wSlL, wNoPart, wPart, wDrop, wRet, wRetF, wRetO, wSet, wSetF, wSetT, wPar, wPut, wBreak, wCont, wItems, wRng1, wRng2, wZip, wEnum, wEnumA, wRev, wFor, wWhile, wLc, wDc, wYes, wCall, wCallF, wCallK, wCallIo, wIsi, wNeg, wGetN, wGetE, wPop2, wAppend, wStar, seqD, fRepT, wDisp, wpCons, wpNil, keysD, dKey, wExtF, fStrI, wCallM, wCallMF, wmNil, wmD, wmS, wmF, avIx, avSls, avSl, avBack, avSet, wParM, List.nodup_nil, List.nodup_cons, List.mem_cons, List.not_mem_nil, or_false, not_false_eq_true, List.drop_succ_cons, List.drop_zero,  wAug, wRepL, wCatO, wCatF, wKeys, wItemsK, bName, bNames, retD, ctD, vd, itemsD, isDict, List.getElem?_cons_zero, List.getElem?_cons_succ, List.set_cons_zero, List.set_cons_succ, List.cons_append, List.nil_append, List.append_nil, List.replicate_succ, List.replicate_zero, List.map_cons, List.map_nil, List.length_cons, List.length_nil, List.zip_cons_cons, List.zip_nil_right, List.zip_nil_left, List.foldl_cons, List.foldl_nil, wipeE, backE, List.getD_cons_zero, List.getD_cons_succ, outsOf, keepPin, List.range_succ, List.range_zero, exS, at0, at1, at2, at3, at4, ix0, ix1, ix2, if_true, if_false, true_and, and_true, Bool.false_eq_true, reduceCtorEq, eqvI, eqvS, eqvB, scalI, scalS, scalB, true_or, decide_eq_true_eq, Bool.not_true, Bool.not_false, Bool.not_eq_true, isi_none_int, isi_none_bool, isi_none_str, isi_none_tuple, isi_none_list, isi_none_dict, isi_bool_int, isi_bool_bool, isi_bool_str, isi_bool_tuple, isi_bool_list, isi_bool_dict, isi_int_int, isi_int_bool, isi_int_str, isi_int_tuple, isi_int_list, isi_int_dict, isi_str_int, isi_str_bool, isi_str_str, isi_str_tuple, isi_str_list, isi_str_dict, isi_list_int, isi_list_bool, isi_list_str, isi_list_tuple, isi_list_list, isi_list_dict, isi_tuple_int, isi_tuple_bool, isi_tuple_str, isi_tuple_tuple, isi_tuple_list, isi_tuple_dict, isi_dict_int, isi_dict_bool, isi_dict_str, isi_dict_tuple, isi_dict_list, isi_dict_dict]
  refine ⟨by decide, .inr ⟨shaped_gsts (n := 16) (by omega) l fun g hg => ⟨chain_ok oks hl g hg, ll g hg⟩, nil_shaped⟩, ?_⟩
  rcases chain_last (c := m.c) hl with ⟨rfl, rfl⟩ | ⟨l', c', gs', t, w, f, rfl, e⟩
  · exact absurd rfl hp
  · rw [hc] at e; cases e
    refine iteN (by cases l' <;> simp [PyData.eqv, PyData.eqvAll]) ?_
    simp only [w_guest_at_2_e, wSeq, wNext, wIfS, wBool, wOp, wAt, wPeek, wName, wC, fIx, wChain, wAndT, wOrT, wNotT, wAndV, wOrV, wNotV, wIf, wNil, wCons, wTup, wLst, wDNew, wFz, fI, fI0, fEq, fNe, fIsN, fIsNot, fAdd, fIn, wC1, wC1F, fLen, fTup, fList, fInt, fAbs, wSlT, wSlL, wNoPart, wPart, wDrop, wRet, wRetF, wRetO, wSet, wSetF, wSetT, wPar, wPut, wBreak, wCont, wItems, wRng1, wRng2, wZip, wEnum, wEnumA, wRev, wFor, wWhile, wLc, wDc, wYes, wCall, wCallF, wCallK, wCallIo, wIsi, wNeg, wGetN, wGetE, wPop2, wAppend, wStar, seqD, fRepT, wDisp, wpCons, wpNil, keysD, dKey, wExtF, fStrI, wCallM, wCallMF, wmNil, wmD, wmS, wmF, avIx, avSls, avSl, avBack, avSet, wParM, List.nodup_nil, List.nodup_cons, List.mem_cons, List.not_mem_nil, or_false, not_false_eq_true, List.drop_succ_cons, List.drop_zero,  wAug, wRepL, wCatO, wCatF, wKeys, wItemsK, bName, bNames, retD, ctD, vd, itemsD, isDict, List.getElem?_cons_zero, List.getElem?_cons_succ, List.set_cons_zero, List.set_cons_succ, List.cons_append, List.nil_append, List.append_nil, List.replicate_succ, List.replicate_zero, List.map_cons, List.map_nil, List.length_cons, List.length_nil, List.zip_cons_cons, List.zip_nil_right, List.zip_nil_left, List.foldl_cons, List.foldl_nil, wipeE, backE, List.getD_cons_zero, List.getD_cons_succ, outsOf, keepPin, List.range_succ, List.range_zero, exS, at0, at1, at2, at3, at4, ix0, ix1, ix2, if_true, if_false, true_and, and_true, Bool.false_eq_true, reduceCtorEq, eqvI, eqvS, eqvB, scalI, scalS, scalB, true_or, decide_eq_true_eq, Bool.not_true, Bool.not_false, Bool.not_eq_true, isi_none_int, isi_none_bool, isi_none_str, isi_none_tuple, isi_none_list, isi_none_dict, isi_bool_int, isi_bool_bool, isi_bool_str, isi_bool_tuple, isi_bool_list, isi_bool_dict, isi_int_int, isi_int_bool, isi_int_str, isi_int_tuple, isi_int_list, isi_int_dict, isi_str_int, isi_str_bool, isi_str_str, isi_str_tuple, isi_str_list, isi_str_dict, isi_list_int, isi_list_bool, isi_list_str, isi_list_tuple, isi_list_list, isi_list_dict, isi_tuple_int, isi_tuple_bool, isi_tuple_str, isi_tuple_tuple, isi_tuple_list, isi_tuple_dict, isi_dict_int, isi_dict_bool, isi_dict_str, isi_dict_tuple, isi_dict_list, isi_dict_dict]
    exact ⟨gD (.mk c gs t w f), by rw [List.map_append]; exact atI_last _ _, k t w f⟩

end K23

namespace K23
open PySem PySem.Spec PyProof.Rows L2 G
theorem cut_take {ds : List D} {n : Nat} : G.cutD ds none (some (n : Int)) = ds.take n := by
  unfold G.cutD
  rw [show HT.sIx ds.length ds.length (some (n : Int)) = min n ds.length from HT.sIx_nat ds.length ds.length n, HT.sIx_none]
  rw [List.drop_zero, Nat.sub_zero]
  by_cases h : n ≤ ds.length
  · rw [Nat.min_eq_left h]
  · rw [Nat.min_eq_right (by omega), List.take_of_length_le (by omega), List.take_of_length_le (by omega)]
theorem cut_drop {ds : List D} {n : Nat} : G.cutD ds (some (n : Int)) none = ds.drop n := by
  unfold G.cutD
  rw [show HT.sIx ds.length 0 (some (n : Int)) = min n ds.length from HT.sIx_nat ds.length 0 n, HT.sIx_none]
  by_cases h : n ≤ ds.length
  · rw [Nat.min_eq_left h, List.take_of_length_le (by simp)]
  · rw [Nat.min_eq_right (by omega), List.drop_of_length_le (by omega), List.drop_of_length_le (by omega)]
    simp

end K23

namespace K23
open PySem PySem.Spec PyProof.Rows L2 G
/-! ### the path of the core that runs -/
def inG : Gst → List (Fin 4)
  | .no => []
  | .mk c gs _ _ _ => match c.ins with
    | none => []
    | some k => if h : k < 4 then ⟨k, h⟩ :: inG (gs ⟨k, h⟩) else []
def inC (c : Cd) (gs : Fin 4 → Gst) : List (Fin 4) := match c.ins with
  | none => []
  | some k => if h : k < 4 then ⟨k, h⟩ :: inG (gs ⟨k, h⟩) else []
theorem inG_mk (c : Cd) (gs : Fin 4 → Gst) (t : List E3) (w : Bool) (f : Option Int) : inG (.mk c gs t w f) = inC c gs := by unfold inG inC; rfl
/-- going inside: nothing, or a guest that is there -/
theorem in_cases {c : Cd} {gs : Fin 4 → Gst} (ok : c.Ok gs) : (c.ins = none ∧ inC c gs = []) ∨ ∃ (k : Fin 4) (c' : Cd) (gs' : Fin 4 → Gst) (t : List E3) (w : Bool) (f : Option Int), c.ins = some k.val ∧ gs k = .mk c' gs' t w f ∧ inC c gs = k :: inC c' gs' := by
  cases q : c.ins with
  | none => exact .inl ⟨rfl, by unfold inC; rw [q]⟩
  | some k =>
    obtain ⟨h, hn⟩ := ok.ins k q
    cases q2 : gs ⟨k, h⟩ with
    | no => exact absurd q2 hn
    | mk c' gs' t w f => exact .inr ⟨⟨k, h⟩, c', gs', t, w, f, rfl, q2, by unfold inC; rw [q]; simp only [h, dif_pos, q2]; rw [inG_mk]; rfl⟩
theorem in_len {c : Cd} {gs : Fin 4 → Gst} : ∀ {n : Nat} {c : Cd} {gs : Fin 4 → Gst}, c.Ok gs → (∀ k, (gs k).Ok) → (∀ k, (gs k).Le n) → (inC c gs).length ≤ n := by
  intro n
  induction n with
  | zero =>
    intro c gs ok oks les
    rcases in_cases ok with ⟨_, e⟩ | ⟨k, c', gs', t, w, f, _, e, _⟩
    · rw [e]; simp
    · have := les k; rw [e] at this; exact this.elim
  | succ n ih =>
    intro c gs ok oks les
    rcases in_cases ok with ⟨_, e⟩ | ⟨k, c', gs', t, w, f, _, e, e2⟩
    · rw [e]; simp
    · have l := les k
      have o := oks k
      rw [e] at l o
      have := ih o.1 o.2.2.2 l
      rw [e2]; simp; omega
theorem in_cor : ∀ {n : Nat} {c : Cd} {gs : Fin 4 → Gst}, c.Ok gs → (∀ k, (gs k).Ok) → (∀ k, (gs k).Le n) → ∃ c' gs', corG c gs (inC c gs) = some (c', gs') ∧ c'.ins = none := by
  intro n
  induction n with
  | zero =>
    intro c gs ok oks les
    rcases in_cases ok with ⟨h, e⟩ | ⟨k, c', gs', t, w, f, _, e, _⟩
    · rw [e]; exact ⟨c, gs, rfl, h⟩
    · have := les k; rw [e] at this; exact this.elim
  | succ n ih =>
    intro c gs ok oks les
    rcases in_cases ok with ⟨h, e⟩ | ⟨k, c', gs', t, w, f, _, e, e2⟩
    · rw [e]; exact ⟨c, gs, rfl, h⟩
    · have l := les k
      have o := oks k
      rw [e] at l o
      obtain ⟨c2, gs2, h1, h2⟩ := ih o.1 o.2.2.2 l
      refine ⟨c2, gs2, ?_, h2⟩
      rw [e2]
      unfold corG
      rw [e]
      exact h1
theorem none_ins (o : Option Nat) : isNone (insD o) = true ↔ o = none := by cases o <;> simp [insD, isNone]
theorem num_ins (k : Fin 4) : insD (some k.val) = numD k := rfl
def sp_path_of : Spc := fun as R => ∃ (m : Mch) (n : Nat), as = [.d (mD m)] ∧ m.c.Ok m.gs ∧ (∀ k, (m.gs k).Ok) ∧ (∀ k, (m.gs k).Le n) ∧ n ≤ 1000 ∧ R (.fz (pathD (inC m.c m.gs))) [.no]
theorem len_path_of : ∀ as R, sp_path_of as R → as.length = 1 := fun as R ⟨m, n, e, _⟩ => by rw [e]; rfl
def w_path_of_L1_2 : WS := (wSetT [6, 7, 8, 9, 10] (wName 11))
theorem w_path_of_L1_2_e (E : VD) (ρ : En) : w_path_of_L1_2 E ρ = (wSetT [6, 7, 8, 9, 10] (wName 11)) E ρ := rfl
def w_path_of_L1_1 : WS := (wSeq (wSetT [11, 12, 13, 14] (wAt 9 fIx (wName 10)))
    w_path_of_L1_2)
theorem w_path_of_L1_1_e (E : VD) (ρ : En) : w_path_of_L1_1 E ρ = (wSeq (wSetT [11, 12, 13, 14] (wAt 9 fIx (wName 10)))
    w_path_of_L1_2) E ρ := rfl
def w_path_of_L1_0 : WS := (wSeq (wSet 1 (wOp fAdd (wName 1) (wTup (wCons (wName 10) wNil))))
    w_path_of_L1_1)
theorem w_path_of_L1_0_e (E : VD) (ρ : En) : w_path_of_L1_0 E ρ = (wSeq (wSet 1 (wOp fAdd (wName 1) (wTup (wCons (wName 10) wNil))))
    w_path_of_L1_1) E ρ := rfl
def w_path_of_4 : WS := (wRet (wName 1))
theorem w_path_of_4_e (E : VD) (ρ : En) : w_path_of_4 E ρ = (wRet (wName 1)) E ρ := rfl
def w_path_of_3 : WS := (wSeq (wWhile (wBool (wOp fIsNot (wName 10) (wC .none))) w_path_of_L1_0)
    w_path_of_4)
theorem w_path_of_3_e (E : VD) (ρ : En) : w_path_of_3 E ρ = (wSeq (wWhile (wBool (wOp fIsNot (wName 10) (wC .none))) w_path_of_L1_0)
    w_path_of_4) E ρ := rfl
def w_path_of_2 : WS := (wSeq (wSetT [6, 7, 8, 9, 10] (wName 3))
    w_path_of_3)
theorem w_path_of_2_e (E : VD) (ρ : En) : w_path_of_2 E ρ = (wSeq (wSetT [6, 7, 8, 9, 10] (wName 3))
    w_path_of_3) E ρ := rfl
def w_path_of_1 : WS := (wSeq (wSet 1 (wTup wNil))
    w_path_of_2)
theorem w_path_of_1_e (E : VD) (ρ : En) : w_path_of_1 E ρ = (wSeq (wSet 1 (wTup wNil))
    w_path_of_2) E ρ := rfl
def w_path_of_0 : WS := (wSeq (wSetT [2, 3, 4, 5] (wName 0))
    w_path_of_1)
theorem w_path_of_0_e (E : VD) (ρ : En) : w_path_of_0 E ρ = (wSeq (wSetT [2, 3, 4, 5] (wName 0))
    w_path_of_1) E ρ := rfl
def w_path_of : WS := w_path_of_0
def Bd_path_of : Prop := Body 1 14 w_path_of sp_path_of
theorem path_loop {E : VD} {xm : D} {L : List (Fin 4)} : ∀ (n : Nat) (c : Cd) (gs : Fin 4 → Gst) (acc : List (Fin 4)) (s2 s3 s4 s5 s11 s12 s13 s14 : Sl), c.Ok gs → (∀ k, (gs k).Ok) → (∀ k, (gs k).Le n) → acc.length + n ≤ 1000 → acc ++ inC c gs = L →
    (∀ (c : Cd) (gs : Fin 4 → Gst) (s2 s3 s4 s5 s11 s12 s13 s14 : Sl), E.nx [.d xm, .d (pathD L), s2, s3, s4, s5, .d (intsD c.regs), .d (.int c.pc), .d (.int c.clock), .d (.tuple [gD (gs 0), gD (gs 1), gD (gs 2), gD (gs 3)]), .d (insD c.ins), s11, s12, s13, s14]) →
    wWhN (wBool (wOp fIsNot (wName 10) (wC .none))) w_path_of_L1_0 E n [.d xm, .d (pathD acc), s2, s3, s4, s5, .d (intsD c.regs), .d (.int c.pc), .d (.int c.clock), .d (.tuple [gD (gs 0), gD (gs 1), gD (gs 2), gD (gs 3)]), .d (insD c.ins), s11, s12, s13, s14]
  | 0, c, gs, acc, s2, s3, s4, s5, s11, s12, s13, s14, ok, oks, les, hl, e, k => by
    rcases in_cases ok with ⟨h, e2⟩ | ⟨j, c', gs', t, w, f, _, e2, _⟩
    · unfold wWhN
      simp only [wSeq, wNext, wIfS, wBool, wOp, wAt, wPeek, wName, wC, fIx, wChain, wAndT, wOrT, wNotT, wAndV, wOrV, wNotV, wIf, wNil, wCons, wTup, wLst, wDNew, wFz, fI, fI0, fEq, fNe, fIsN, fIsNot, fAdd, fIn, wC1, wC1F, fLen, fTup, fList, fInt, fAbs, wSlT, wSlL, wNoPart, wPart, wDrop, wRet, wRetF, wRetO, wSet, wSetF, wSetT, wPar, wPut, wBreak, wCont, wItems, wRng1, wRng2, wZip, wEnum, wEnumA, wRev, wFor, wWhile, wLc, wDc, wYes, wCall, wCallF, wCallK, wCallIo, wIsi, wNeg, wGetN, wGetE, wPop2, wAppend, wStar, seqD, fRepT, wDisp, wpCons, wpNil, keysD, dKey, wExtF, fStrI, wCallM, wCallMF, wmNil, wmD, wmS, wmF, avIx, avSls, avSl, avBack, avSet, wParM, List.nodup_nil, List.nodup_cons, List.mem_cons, List.not_mem_nil, or_false, not_false_eq_true, List.drop_succ_cons, List.drop_zero,  wAug, wRepL, wCatO, wCatF, wKeys, wItemsK, bName, bNames, retD, ctD, vd, itemsD, isDict, List.getElem?_cons_zero, List.getElem?_cons_succ, List.set_cons_zero, List.set_cons_succ, List.cons_append, List.nil_append, List.append_nil, List.replicate_succ, List.replicate_zero, List.map_cons, List.map_nil, List.length_cons, List.length_nil, List.zip_cons_cons, List.zip_nil_right, List.zip_nil_left, List.foldl_cons, List.foldl_nil, wipeE, backE, List.getD_cons_zero, List.getD_cons_succ, outsOf, keepPin, List.range_succ, List.range_zero, exS, at0, at1, at2, at3, at4, ix0, ix1, ix2, if_true, if_false, true_and, and_true, Bool.false_eq_true, reduceCtorEq, eqvI, eqvS, eqvB, scalI, scalS, scalB, true_or, decide_eq_true_eq, Bool.not_true, Bool.not_false, Bool.not_eq_true, isi_none_int, isi_none_bool, isi_none_str, isi_none_tuple, isi_none_list, isi_none_dict, isi_bool_int, isi_bool_bool, isi_bool_str, isi_bool_tuple, isi_bool_list, isi_bool_dict, isi_int_int, isi_int_bool, isi_int_str, isi_int_tuple, isi_int_list, isi_int_dict, isi_str_int, isi_str_bool, isi_str_str, isi_str_tuple, isi_str_list, isi_str_dict, isi_list_int, isi_list_bool, isi_list_str, isi_list_tuple, isi_list_list, isi_list_dict, isi_tuple_int, isi_tuple_bool, isi_tuple_str, isi_tuple_tuple, isi_tuple_list, isi_tuple_dict, isi_dict_int, isi_dict_bool, isi_dict_str, isi_dict_tuple, isi_dict_list, isi_dict_dict]
      rw [if_neg (by simp [h, insD, isNone])]
      rw [e2, List.append_nil] at e
      subst e
      exact k c gs _ _ _ _ _ _ _ _
    · have := les j; rw [e2] at this; exact this.elim
  | n + 1, c, gs, acc, s2, s3, s4, s5, s11, s12, s13, s14, ok, oks, les, hl, e, k => by
    unfold wWhN
    simp only [wSeq, wNext, wIfS, wBool, wOp, wAt, wPeek, wName, wC, fIx, wChain, wAndT, wOrT, wNotT, wAndV, wOrV, wNotV, wIf, wNil, wCons, wTup, wLst, wDNew, wFz, fI, fI0, fEq, fNe, fIsN, fIsNot, fAdd, fIn, wC1, wC1F, fLen, fTup, fList, fInt, fAbs, wSlT, wSlL, wNoPart, wPart, wDrop, wRet, wRetF, wRetO, wSet, wSetF, wSetT, wPar, wPut, wBreak, wCont, wItems, wRng1, wRng2, wZip, wEnum, wEnumA, wRev, wFor, wWhile, wLc, wDc, wYes, wCall, wCallF, wCallK, wCallIo, wIsi, wNeg, wGetN, wGetE, wPop2, wAppend, wStar, seqD, fRepT, wDisp, wpCons, wpNil, keysD, dKey, wExtF, fStrI, wCallM, wCallMF, wmNil, wmD, wmS, wmF, avIx, avSls, avSl, avBack, avSet, wParM, List.nodup_nil, List.nodup_cons, List.mem_cons, List.not_mem_nil, or_false, not_false_eq_true, List.drop_succ_cons, List.drop_zero,  wAug, wRepL, wCatO, wCatF, wKeys, wItemsK, bName, bNames, retD, ctD, vd, itemsD, isDict, List.getElem?_cons_zero, List.getElem?_cons_succ, List.set_cons_zero, List.set_cons_succ, List.cons_append, List.nil_append, List.append_nil, List.replicate_succ, List.replicate_zero, List.map_cons, List.map_nil, List.length_cons, List.length_nil, List.zip_cons_cons, List.zip_nil_right, List.zip_nil_left, List.foldl_cons, List.foldl_nil, wipeE, backE, List.getD_cons_zero, List.getD_cons_succ, outsOf, keepPin, List.range_succ, List.range_zero, exS, at0, at1, at2, at3, at4, ix0, ix1, ix2, if_true, if_false, true_and, and_true, Bool.false_eq_true, reduceCtorEq, eqvI, eqvS, eqvB, scalI, scalS, scalB, true_or, decide_eq_true_eq, Bool.not_true, Bool.not_false, Bool.not_eq_true, isi_none_int, isi_none_bool, isi_none_str, isi_none_tuple, isi_none_list, isi_none_dict, isi_bool_int, isi_bool_bool, isi_bool_str, isi_bool_tuple, isi_bool_list, isi_bool_dict, isi_int_int, isi_int_bool, isi_int_str, isi_int_tuple, isi_int_list, isi_int_dict, isi_str_int, isi_str_bool, isi_str_str, isi_str_tuple, isi_str_list, isi_str_dict, isi_list_int, isi_list_bool, isi_list_str, isi_list_tuple, isi_list_list, isi_list_dict, isi_tuple_int, isi_tuple_bool, isi_tuple_str, isi_tuple_tuple, isi_tuple_list, isi_tuple_dict, isi_dict_int, isi_dict_bool, isi_dict_str, isi_dict_tuple, isi_dict_list, isi_dict_dict]
    rcases in_cases ok with ⟨h, e2⟩ | ⟨j, c', gs', t, w, f, h, e2, e3⟩
    · rw [if_neg (by simp [h, insD, isNone])]
      rw [e2, List.append_nil] at e
      subst e
      exact k c gs _ _ _ _ _ _ _ _
    · rw [if_pos (by simp [h, insD, isNone])]
      have l := les j
      have o := oks j
      rw [e2] at l o
      simp only [w_path_of_L1_0_e, pathD, wSeq, wNext, wIfS, wBool, wOp, wAt, wPeek, wName, wC, fIx, wChain, wAndT, wOrT, wNotT, wAndV, wOrV, wNotV, wIf, wNil, wCons, wTup, wLst, wDNew, wFz, fI, fI0, fEq, fNe, fIsN, fIsNot, fAdd, fIn, wC1, wC1F, fLen, fTup, fList, fInt, fAbs, wSlT, wSlL, wNoPart, wPart, wDrop, wRet, wRetF, wRetO, wSet, wSetF, wSetT, wPar, wPut, wBreak, wCont, wItems, wRng1, wRng2, wZip, wEnum, wEnumA, wRev, wFor, wWhile, wLc, wDc, wYes, wCall, wCallF, wCallK, wCallIo, wIsi, wNeg, wGetN, wGetE, wPop2, wAppend, wStar, seqD, fRepT, wDisp, wpCons, wpNil, keysD, dKey, wExtF, fStrI, wCallM, wCallMF, wmNil, wmD, wmS, wmF, avIx, avSls, avSl, avBack, avSet, wParM, List.nodup_nil, List.nodup_cons, List.mem_cons, List.not_mem_nil, or_false, not_false_eq_true, List.drop_succ_cons, List.drop_zero,  wAug, wRepL, wCatO, wCatF, wKeys, wItemsK, bName, bNames, retD, ctD, vd, itemsD, isDict, List.getElem?_cons_zero, List.getElem?_cons_succ, List.set_cons_zero, List.set_cons_succ, List.cons_append, List.nil_append, List.append_nil, List.replicate_succ, List.replicate_zero, List.map_cons, List.map_nil, List.length_cons, List.length_nil, List.zip_cons_cons, List.zip_nil_right, List.zip_nil_left, List.foldl_cons, List.foldl_nil, wipeE, backE, List.getD_cons_zero, List.getD_cons_succ, outsOf, keepPin, List.range_succ, List.range_zero, exS, at0, at1, at2, at3, at4, ix0, ix1, ix2, if_true, if_false, true_and, and_true, Bool.false_eq_true, reduceCtorEq, eqvI, eqvS, eqvB, scalI, scalS, scalB, true_or, decide_eq_true_eq, Bool.not_true, Bool.not_false, Bool.not_eq_true, isi_none_int, isi_none_bool, isi_none_str, isi_none_tuple, isi_none_list, isi_none_dict, isi_bool_int, isi_bool_bool, isi_bool_str, isi_bool_tuple, isi_bool_list, isi_bool_dict, isi_int_int, isi_int_bool, isi_int_str, isi_int_tuple, isi_int_list, isi_int_dict, isi_str_int, isi_str_bool, isi_str_str, isi_str_tuple, isi_str_list, isi_str_dict, isi_list_int, isi_list_bool, isi_list_str, isi_list_tuple, isi_list_list, isi_list_dict, isi_tuple_int, isi_tuple_bool, isi_tuple_str, isi_tuple_tuple, isi_tuple_list, isi_tuple_dict, isi_dict_int, isi_dict_bool, isi_dict_str, isi_dict_tuple, isi_dict_list, isi_dict_dict]
      refine ⟨by decide, small_len (by simp; omega), ?_⟩
      simp only [w_path_of_L1_1_e, h, num_ins, numD, wSeq, wNext, wIfS, wBool, wOp, wAt, wPeek, wName, wC, fIx, wChain, wAndT, wOrT, wNotT, wAndV, wOrV, wNotV, wIf, wNil, wCons, wTup, wLst, wDNew, wFz, fI, fI0, fEq, fNe, fIsN, fIsNot, fAdd, fIn, wC1, wC1F, fLen, fTup, fList, fInt, fAbs, wSlT, wSlL, wNoPart, wPart, wDrop, wRet, wRetF, wRetO, wSet, wSetF, wSetT, wPar, wPut, wBreak, wCont, wItems, wRng1, wRng2, wZip, wEnum, wEnumA, wRev, wFor, wWhile, wLc, wDc, wYes, wCall, wCallF, wCallK, wCallIo, wIsi, wNeg, wGetN, wGetE, wPop2, wAppend, wStar, seqD, fRepT, wDisp, wpCons, wpNil, keysD, dKey, wExtF, fStrI, wCallM, wCallMF, wmNil, wmD, wmS, wmF, avIx, avSls, avSl, avBack, avSet, wParM, List.nodup_nil, List.nodup_cons, List.mem_cons, List.not_mem_nil, or_false, not_false_eq_true, List.drop_succ_cons, List.drop_zero,  wAug, wRepL, wCatO, wCatF, wKeys, wItemsK, bName, bNames, retD, ctD, vd, itemsD, isDict, List.getElem?_cons_zero, List.getElem?_cons_succ, List.set_cons_zero, List.set_cons_succ, List.cons_append, List.nil_append, List.append_nil, List.replicate_succ, List.replicate_zero, List.map_cons, List.map_nil, List.length_cons, List.length_nil, List.zip_cons_cons, List.zip_nil_right, List.zip_nil_left, List.foldl_cons, List.foldl_nil, wipeE, backE, List.getD_cons_zero, List.getD_cons_succ, outsOf, keepPin, List.range_succ, List.range_zero, exS, at0, at1, at2, at3, at4, ix0, ix1, ix2, if_true, if_false, true_and, and_true, Bool.false_eq_true, reduceCtorEq, eqvI, eqvS, eqvB, scalI, scalS, scalB, true_or, decide_eq_true_eq, Bool.not_true, Bool.not_false, Bool.not_eq_true, isi_none_int, isi_none_bool, isi_none_str, isi_none_tuple, isi_none_list, isi_none_dict, isi_bool_int, isi_bool_bool, isi_bool_str, isi_bool_tuple, isi_bool_list, isi_bool_dict, isi_int_int, isi_int_bool, isi_int_str, isi_int_tuple, isi_int_list, isi_int_dict, isi_str_int, isi_str_bool, isi_str_str, isi_str_tuple, isi_str_list, isi_str_dict, isi_list_int, isi_list_bool, isi_list_str, isi_list_tuple, isi_list_list, isi_list_dict, isi_tuple_int, isi_tuple_bool, isi_tuple_str, isi_tuple_tuple, isi_tuple_list, isi_tuple_dict, isi_dict_int, isi_dict_bool, isi_dict_str, isi_dict_tuple, isi_dict_list, isi_dict_dict]
      refine ⟨_, at_gs gs j.isLt, ?_⟩
      have ej : (⟨j.val, j.isLt⟩ : Fin 4) = j := rfl
      rw [ej, e2]
      simp only [gD_mk, wSeq, wNext, wIfS, wBool, wOp, wAt, wPeek, wName, wC, fIx, wChain, wAndT, wOrT, wNotT, wAndV, wOrV, wNotV, wIf, wNil, wCons, wTup, wLst, wDNew, wFz, fI, fI0, fEq, fNe, fIsN, fIsNot, fAdd, fIn, wC1, wC1F, fLen, fTup, fList, fInt, fAbs, wSlT, wSlL, wNoPart, wPart, wDrop, wRet, wRetF, wRetO, wSet, wSetF, wSetT, wPar, wPut, wBreak, wCont, wItems, wRng1, wRng2, wZip, wEnum, wEnumA, wRev, wFor, wWhile, wLc, wDc, wYes, wCall, wCallF, wCallK, wCallIo, wIsi, wNeg, wGetN, wGetE, wPop2, wAppend, wStar, seqD, fRepT, wDisp, wpCons, wpNil, keysD, dKey, wExtF, fStrI, wCallM, wCallMF, wmNil, wmD, wmS, wmF, avIx, avSls, avSl, avBack, avSet, wParM, List.nodup_nil, List.nodup_cons, List.mem_cons, List.not_mem_nil, or_false, not_false_eq_true, List.drop_succ_cons, List.drop_zero,  wAug, wRepL, wCatO, wCatF, wKeys, wItemsK, bName, bNames, retD, ctD, vd, itemsD, isDict, List.getElem?_cons_zero, List.getElem?_cons_succ, List.set_cons_zero, List.set_cons_succ, List.cons_append, List.nil_append, List.append_nil, List.replicate_succ, List.replicate_zero, List.map_cons, List.map_nil, List.length_cons, List.length_nil, List.zip_cons_cons, List.zip_nil_right, List.zip_nil_left, List.foldl_cons, List.foldl_nil, wipeE, backE, List.getD_cons_zero, List.getD_cons_succ, outsOf, keepPin, List.range_succ, List.range_zero, exS, at0, at1, at2, at3, at4, ix0, ix1, ix2, if_true, if_false, true_and, and_true, Bool.false_eq_true, reduceCtorEq, eqvI, eqvS, eqvB, scalI, scalS, scalB, true_or, decide_eq_true_eq, Bool.not_true, Bool.not_false, Bool.not_eq_true, isi_none_int, isi_none_bool, isi_none_str, isi_none_tuple, isi_none_list, isi_none_dict, isi_bool_int, isi_bool_bool, isi_bool_str, isi_bool_tuple, isi_bool_list, isi_bool_dict, isi_int_int, isi_int_bool, isi_int_str, isi_int_tuple, isi_int_list, isi_int_dict, isi_str_int, isi_str_bool, isi_str_str, isi_str_tuple, isi_str_list, isi_str_dict, isi_list_int, isi_list_bool, isi_list_str, isi_list_tuple, isi_list_list, isi_list_dict, isi_tuple_int, isi_tuple_bool, isi_tuple_str, isi_tuple_tuple, isi_tuple_list, isi_tuple_dict, isi_dict_int, isi_dict_bool, isi_dict_str, isi_dict_tuple, isi_dict_list, isi_dict_dict]
      simp only [w_path_of_L1_2_e, coreD, wSeq, wNext, wIfS, wBool, wOp, wAt, wPeek, wName, wC, fIx, wChain, wAndT, wOrT, wNotT, wAndV, wOrV, wNotV, wIf, wNil, wCons, wTup, wLst, wDNew, wFz, fI, fI0, fEq, fNe, fIsN, fIsNot, fAdd, fIn, wC1, wC1F, fLen, fTup, fList, fInt, fAbs, wSlT, wSlL, wNoPart, wPart, wDrop, wRet, wRetF, wRetO, wSet, wSetF, wSetT, wPar, wPut, wBreak, wCont, wItems, wRng1, wRng2, wZip, wEnum, wEnumA, wRev, wFor, wWhile, wLc, wDc, wYes, wCall, wCallF, wCallK, wCallIo, wIsi, wNeg, wGetN, wGetE, wPop2, wAppend, wStar, seqD, fRepT, wDisp, wpCons, wpNil, keysD, dKey, wExtF, fStrI, wCallM, wCallMF, wmNil, wmD, wmS, wmF, avIx, avSls, avSl, avBack, avSet, wParM, List.nodup_nil, List.nodup_cons, List.mem_cons, List.not_mem_nil, or_false, not_false_eq_true, List.drop_succ_cons, List.drop_zero,  wAug, wRepL, wCatO, wCatF, wKeys, wItemsK, bName, bNames, retD, ctD, vd, itemsD, isDict, List.getElem?_cons_zero, List.getElem?_cons_succ, List.set_cons_zero, List.set_cons_succ, List.cons_append, List.nil_append, List.append_nil, List.replicate_succ, List.replicate_zero, List.map_cons, List.map_nil, List.length_cons, List.length_nil, List.zip_cons_cons, List.zip_nil_right, List.zip_nil_left, List.foldl_cons, List.foldl_nil, wipeE, backE, List.getD_cons_zero, List.getD_cons_succ, outsOf, keepPin, List.range_succ, List.range_zero, exS, at0, at1, at2, at3, at4, ix0, ix1, ix2, if_true, if_false, true_and, and_true, Bool.false_eq_true, reduceCtorEq, eqvI, eqvS, eqvB, scalI, scalS, scalB, true_or, decide_eq_true_eq, Bool.not_true, Bool.not_false, Bool.not_eq_true, isi_none_int, isi_none_bool, isi_none_str, isi_none_tuple, isi_none_list, isi_none_dict, isi_bool_int, isi_bool_bool, isi_bool_str, isi_bool_tuple, isi_bool_list, isi_bool_dict, isi_int_int, isi_int_bool, isi_int_str, isi_int_tuple, isi_int_list, isi_int_dict, isi_str_int, isi_str_bool, isi_str_str, isi_str_tuple, isi_str_list, isi_str_dict, isi_list_int, isi_list_bool, isi_list_str, isi_list_tuple, isi_list_list, isi_list_dict, isi_tuple_int, isi_tuple_bool, isi_tuple_str, isi_tuple_tuple, isi_tuple_list, isi_tuple_dict, isi_dict_int, isi_dict_bool, isi_dict_str, isi_dict_tuple, isi_dict_list, isi_dict_dict]
      have ea : List.map numD acc ++ [.int (j.val : Int)] = (acc ++ [j]).map numD := by rw [List.map_append]; rfl
      rw [ea]
      exact path_loop n c' gs' (acc ++ [j]) _ _ _ _ _ _ _ _ o.1 o.2.2.2 l (by simp; omega) (by rw [← e, e3]; simp) k
theorem body_path_of : Bd_path_of := by
  intro as R h
  obtain ⟨m, n, rfl, ok, oks, les, hn, k⟩ := h
  unfold w_path_of
  simp only [w_path_of_0_e, mD, wSeq, wNext, wIfS, wBool, wOp, wAt, wPeek, wName, wC, fIx, wChain, wAndT, wOrT, wNotT, wAndV, wOrV, wNotV, wIf, wNil, wCons, wTup, wLst, wDNew, wFz, fI, fI0, fEq, fNe, fIsN, fIsNot, fAdd, fIn, wC1, wC1F, fLen, fTup, fList, fInt, fAbs, wSlT, wSlL, wNoPart, wPart, wDrop, wRet, wRetF, wRetO, wSet, wSetF, wSetT, wPar, wPut, wBreak, wCont, wItems, wRng1, wRng2, wZip, wEnum, wEnumA, wRev, wFor, wWhile, wLc, wDc, wYes, wCall, wCallF, wCallK, wCallIo, wIsi, wNeg, wGetN, wGetE, wPop2, wAppend, wStar, seqD, fRepT, wDisp, wpCons, wpNil, keysD, dKey, wExtF, fStrI, wCallM, wCallMF, wmNil, wmD, wmS, wmF, avIx, avSls, avSl, avBack, avSet, wParM, List.nodup_nil, List.nodup_cons, List.mem_cons, List.not_mem_nil, or_false, not_false_eq_true, List.drop_succ_cons, List.drop_zero,  wAug, wRepL, wCatO, wCatF, wKeys, wItemsK, bName, bNames, retD, ctD, vd, itemsD, isDict, List.getElem?_cons_zero, List.getElem?_cons_succ, List.set_cons_zero, List.set_cons_succ, List.cons_append, List.nil_append, List.append_nil, List.replicate_succ, List.replicate_zero, List.map_cons, List.map_nil, List.length_cons, List.length_nil, List.zip_cons_cons, List.zip_nil_right, List.zip_nil_left, List.foldl_cons, List.foldl_nil, wipeE, backE, List.getD_cons_zero, List.getD_cons_succ, outsOf, keepPin, List.range_succ, List.range_zero, exS, at0, at1, at2, at3, at4, ix0, ix1, ix2, if_true, if_false, true_and, and_true, Bool.false_eq_true, reduceCtorEq, eqvI, eqvS, eqvB, scalI, scalS, scalB, true_or, decide_eq_true_eq, Bool.not_true, Bool.not_false, Bool.not_eq_true, isi_none_int, isi_none_bool, isi_none_str, isi_none_tuple, isi_none_list, isi_none_dict, isi_bool_int, isi_bool_bool, isi_bool_str, isi_bool_tuple, isi_bool_list, isi_bool_dict, isi_int_int, isi_int_bool, isi_int_str, isi_int_tuple, isi_int_list, isi_int_dict, isi_str_int, isi_str_bool, isi_str_str, isi_str_tuple, isi_str_list, isi_str_dict, isi_list_int, isi_list_bool, isi_list_str, isi_list_tuple, isi_list_list, isi_list_dict, isi_tuple_int, isi_tuple_bool, isi_tuple_str, isi_tuple_tuple, isi_tuple_list, isi_tuple_dict, isi_dict_int, isi_dict_bool, isi_dict_str, isi_dict_tuple, isi_dict_list, isi_dict_dict]
  simp only [w_path_of_1_e, wSeq, wNext, wIfS, wBool, wOp, wAt, wPeek, wName, wC, fIx, wChain, wAndT, wOrT, wNotT, wAndV, wOrV, wNotV, wIf, wNil, wCons, wTup, wLst, wDNew, wFz, fI, fI0, fEq, fNe, fIsN, fIsNot, fAdd, fIn, wC1, wC1F, fLen, fTup, fList, fInt, fAbs, wSlT, wSlL, wNoPart, wPart, wDrop, wRet, wRetF, wRetO, wSet, wSetF, wSetT, wPar, wPut, wBreak, wCont, wItems, wRng1, wRng2, wZip, wEnum, wEnumA, wRev, wFor, wWhile, wLc, wDc, wYes, wCall, wCallF, wCallK, wCallIo, wIsi, wNeg, wGetN, wGetE, wPop2, wAppend, wStar, seqD, fRepT, wDisp, wpCons, wpNil, keysD, dKey, wExtF, fStrI, wCallM, wCallMF, wmNil, wmD, wmS, wmF, avIx, avSls, avSl, avBack, avSet, wParM, List.nodup_nil, List.nodup_cons, List.mem_cons, List.not_mem_nil, or_false, not_false_eq_true, List.drop_succ_cons, List.drop_zero,  wAug, wRepL, wCatO, wCatF, wKeys, wItemsK, bName, bNames, retD, ctD, vd, itemsD, isDict, List.getElem?_cons_zero, List.getElem?_cons_succ, List.set_cons_zero, List.set_cons_succ, List.cons_append, List.nil_append, List.append_nil, List.replicate_succ, List.replicate_zero, List.map_cons, List.map_nil, List.length_cons, List.length_nil, List.zip_cons_cons, List.zip_nil_right, List.zip_nil_left, List.foldl_cons, List.foldl_nil, wipeE, backE, List.getD_cons_zero, List.getD_cons_succ, outsOf, keepPin, List.range_succ, List.range_zero, exS, at0, at1, at2, at3, at4, ix0, ix1, ix2, if_true, if_false, true_and, and_true, Bool.false_eq_true, reduceCtorEq, eqvI, eqvS, eqvB, scalI, scalS, scalB, true_or, decide_eq_true_eq, Bool.not_true, Bool.not_false, Bool.not_eq_true, isi_none_int, isi_none_bool, isi_none_str, isi_none_tuple, isi_none_list, isi_none_dict, isi_bool_int, isi_bool_bool, isi_bool_str, isi_bool_tuple, isi_bool_list, isi_bool_dict, isi_int_int, isi_int_bool, isi_int_str, isi_int_tuple, isi_int_list, isi_int_dict, isi_str_int, isi_str_bool, isi_str_str, isi_str_tuple, isi_str_list, isi_str_dict, isi_list_int, isi_list_bool, isi_list_str, isi_list_tuple, isi_list_list, isi_list_dict, isi_tuple_int, isi_tuple_bool, isi_tuple_str, isi_tuple_tuple, isi_tuple_list, isi_tuple_dict, isi_dict_int, isi_dict_bool, isi_dict_str, isi_dict_tuple, isi_dict_list, isi_dict_dict]
  refine ⟨by decide, ?_⟩
  simp only [w_path_of_2_e, coreD, wSeq, wNext, wIfS, wBool, wOp, wAt, wPeek, wName, wC, fIx, wChain, wAndT, wOrT, wNotT, wAndV, wOrV, wNotV, wIf, wNil, wCons, wTup, wLst, wDNew, wFz, fI, fI0, fEq, fNe, fIsN, fIsNot, fAdd, fIn, wC1, wC1F, fLen, fTup, fList, fInt, fAbs, wSlT, wSlL, wNoPart, wPart, wDrop, wRet, wRetF, wRetO, wSet, wSetF, wSetT, wPar, wPut, wBreak, wCont, wItems, wRng1, wRng2, wZip, wEnum, wEnumA, wRev, wFor, wWhile, wLc, wDc, wYes, wCall, wCallF, wCallK, wCallIo, wIsi, wNeg, wGetN, wGetE, wPop2, wAppend, wStar, seqD, fRepT, wDisp, wpCons, wpNil, keysD, dKey, wExtF, fStrI, wCallM, wCallMF, wmNil, wmD, wmS, wmF, avIx, avSls, avSl, avBack, avSet, wParM, List.nodup_nil, List.nodup_cons, List.mem_cons, List.not_mem_nil, or_false, not_false_eq_true, List.drop_succ_cons, List.drop_zero,  wAug, wRepL, wCatO, wCatF, wKeys, wItemsK, bName, bNames, retD, ctD, vd, itemsD, isDict, List.getElem?_cons_zero, List.getElem?_cons_succ, List.set_cons_zero, List.set_cons_succ, List.cons_append, List.nil_append, List.append_nil, List.replicate_succ, List.replicate_zero, List.map_cons, List.map_nil, List.length_cons, List.length_nil, List.zip_cons_cons, List.zip_nil_right, List.zip_nil_left, List.foldl_cons, List.foldl_nil, wipeE, backE, List.getD_cons_zero, List.getD_cons_succ, outsOf, keepPin, List.range_succ, List.range_zero, exS, at0, at1, at2, at3, at4, ix0, ix1, ix2, if_true, if_false, true_and, and_true, Bool.false_eq_true, reduceCtorEq, eqvI, eqvS, eqvB, scalI, scalS, scalB, true_or, decide_eq_true_eq, Bool.not_true, Bool.not_false, Bool.not_eq_true, isi_none_int, isi_none_bool, isi_none_str, isi_none_tuple, isi_none_list, isi_none_dict, isi_bool_int, isi_bool_bool, isi_bool_str, isi_bool_tuple, isi_bool_list, isi_bool_dict, isi_int_int, isi_int_bool, isi_int_str, isi_int_tuple, isi_int_list, isi_int_dict, isi_str_int, isi_str_bool, isi_str_str, isi_str_tuple, isi_str_list, isi_str_dict, isi_list_int, isi_list_bool, isi_list_str, isi_list_tuple, isi_list_list, isi_list_dict, isi_tuple_int, isi_tuple_bool, isi_tuple_str, isi_tuple_tuple, isi_tuple_list, isi_tuple_dict, isi_dict_int, isi_dict_bool, isi_dict_str, isi_dict_tuple, isi_dict_list, isi_dict_dict]
  simp only [w_path_of_3_e, wSeq, wNext, wIfS, wBool, wOp, wAt, wPeek, wName, wC, fIx, wChain, wAndT, wOrT, wNotT, wAndV, wOrV, wNotV, wIf, wNil, wCons, wTup, wLst, wDNew, wFz, fI, fI0, fEq, fNe, fIsN, fIsNot, fAdd, fIn, wC1, wC1F, fLen, fTup, fList, fInt, fAbs, wSlT, wSlL, wNoPart, wPart, wDrop, wRet, wRetF, wRetO, wSet, wSetF, wSetT, wPar, wPut, wBreak, wCont, wItems, wRng1, wRng2, wZip, wEnum, wEnumA, wRev, wFor, wWhile, wLc, wDc, wYes, wCall, wCallF, wCallK, wCallIo, wIsi, wNeg, wGetN, wGetE, wPop2, wAppend, wStar, seqD, fRepT, wDisp, wpCons, wpNil, keysD, dKey, wExtF, fStrI, wCallM, wCallMF, wmNil, wmD, wmS, wmF, avIx, avSls, avSl, avBack, avSet, wParM, List.nodup_nil, List.nodup_cons, List.mem_cons, List.not_mem_nil, or_false, not_false_eq_true, List.drop_succ_cons, List.drop_zero,  wAug, wRepL, wCatO, wCatF, wKeys, wItemsK, bName, bNames, retD, ctD, vd, itemsD, isDict, List.getElem?_cons_zero, List.getElem?_cons_succ, List.set_cons_zero, List.set_cons_succ, List.cons_append, List.nil_append, List.append_nil, List.replicate_succ, List.replicate_zero, List.map_cons, List.map_nil, List.length_cons, List.length_nil, List.zip_cons_cons, List.zip_nil_right, List.zip_nil_left, List.foldl_cons, List.foldl_nil, wipeE, backE, List.getD_cons_zero, List.getD_cons_succ, outsOf, keepPin, List.range_succ, List.range_zero, exS, at0, at1, at2, at3, at4, ix0, ix1, ix2, if_true, if_false, true_and, and_true, Bool.false_eq_true, reduceCtorEq, eqvI, eqvS, eqvB, scalI, scalS, scalB, true_or, decide_eq_true_eq, Bool.not_true, Bool.not_false, Bool.not_eq_true, isi_none_int, isi_none_bool, isi_none_str, isi_none_tuple, isi_none_list, isi_none_dict, isi_bool_int, isi_bool_bool, isi_bool_str, isi_bool_tuple, isi_bool_list, isi_bool_dict, isi_int_int, isi_int_bool, isi_int_str, isi_int_tuple, isi_int_list, isi_int_dict, isi_str_int, isi_str_bool, isi_str_str, isi_str_tuple, isi_str_list, isi_str_dict, isi_list_int, isi_list_bool, isi_list_str, isi_list_tuple, isi_list_list, isi_list_dict, isi_tuple_int, isi_tuple_bool, isi_tuple_str, isi_tuple_tuple, isi_tuple_list, isi_tuple_dict, isi_dict_int, isi_dict_bool, isi_dict_str, isi_dict_tuple, isi_dict_list, isi_dict_dict]
  refine ⟨n, path_loop (acc := []) n m.c m.gs _ _ _ _ _ _ _ _ ok oks les (by simpa using hn) rfl fun c gs s2 s3 s4 s5 s11 s12 s13 s14 => ?_⟩
  simp only [w_path_of_4_e, wSeq, wNext, wIfS, wBool, wOp, wAt, wPeek, wName, wC, fIx, wChain, wAndT, wOrT, wNotT, wAndV, wOrV, wNotV, wIf, wNil, wCons, wTup, wLst, wDNew, wFz, fI, fI0, fEq, fNe, fIsN, fIsNot, fAdd, fIn, wC1, wC1F, fLen, fTup, fList, fInt, fAbs, wSlT, wSlL, wNoPart, wPart, wDrop, wRet, wRetF, wRetO, wSet, wSetF, wSetT, wPar, wPut, wBreak, wCont, wItems, wRng1, wRng2, wZip, wEnum, wEnumA, wRev, wFor, wWhile, wLc, wDc, wYes, wCall, wCallF, wCallK, wCallIo, wIsi, wNeg, wGetN, wGetE, wPop2, wAppend, wStar, seqD, fRepT, wDisp, wpCons, wpNil, keysD, dKey, wExtF, fStrI, wCallM, wCallMF, wmNil, wmD, wmS, wmF, avIx, avSls, avSl, avBack, avSet, wParM, List.nodup_nil, List.nodup_cons, List.mem_cons, List.not_mem_nil, or_false, not_false_eq_true, List.drop_succ_cons, List.drop_zero,  wAug, wRepL, wCatO, wCatF, wKeys, wItemsK, bName, bNames, retD, ctD, vd, itemsD, isDict, List.getElem?_cons_zero, List.getElem?_cons_succ, List.set_cons_zero, List.set_cons_succ, List.cons_append, List.nil_append, List.append_nil, List.replicate_succ, List.replicate_zero, List.map_cons, List.map_nil, List.length_cons, List.length_nil, List.zip_cons_cons, List.zip_nil_right, List.zip_nil_left, List.foldl_cons, List.foldl_nil, wipeE, backE, List.getD_cons_zero, List.getD_cons_succ, outsOf, keepPin, List.range_succ, List.range_zero, exS, at0, at1, at2, at3, at4, ix0, ix1, ix2, if_true, if_false, true_and, and_true, Bool.false_eq_true, reduceCtorEq, eqvI, eqvS, eqvB, scalI, scalS, scalB, true_or, decide_eq_true_eq, Bool.not_true, Bool.not_false, Bool.not_eq_true, isi_none_int, isi_none_bool, isi_none_str, isi_none_tuple, isi_none_list, isi_none_dict, isi_bool_int, isi_bool_bool, isi_bool_str, isi_bool_tuple, isi_bool_list, isi_bool_dict, isi_int_int, isi_int_bool, isi_int_str, isi_int_tuple, isi_int_list, isi_int_dict, isi_str_int, isi_str_bool, isi_str_str, isi_str_tuple, isi_str_list, isi_str_dict, isi_list_int, isi_list_bool, isi_list_str, isi_list_tuple, isi_list_list, isi_list_dict, isi_tuple_int, isi_tuple_bool, isi_tuple_str, isi_tuple_tuple, isi_tuple_list, isi_tuple_dict, isi_dict_int, isi_dict_bool, isi_dict_str, isi_dict_tuple, isi_dict_list, isi_dict_dict]
  exact k
/-! ### guests put and taken -/
def withG (c : Cd) (gs : Fin 4 → Gst) : List (Fin 4) → Gst → Option (Cd × (Fin 4 → Gst))
  | [], _ => none
  | [k], g => some ({ c with ins := if isNone (gD g) = true ∧ c.ins = some k.val then none else c.ins }, putG gs k.val g)
  | k :: k2 :: p, g => match gs k with
    | .no => none
    | .mk c' gs' t w f => (withG c' gs' (k2 :: p) g).map fun r => (c, putG gs k.val (.mk r.1 r.2 t w f))
def resD (o : Option (Cd × (Fin 4 → Gst))) : D := match o with
  | none => .none
  | some r => coreD r.1 r.2
def sp_core_with : Nat → Spc
  | 0 => fun _ _ => False
  | n + 1 => fun as R => ∃ (c : Cd) (gs : Fin 4 → Gst) (p : List (Fin 4)) (g : Gst) (b : Bool), as = [.d (coreD c gs), .d (if b then .tuple (p.map numD) else .list (p.map numD)), .d (gD g)] ∧ p ≠ [] ∧ p.length ≤ n + 1 ∧ p.length ≤ 1000 ∧ R (.fz (resD (withG c gs p g))) [.no, .no, .no]
theorem len_core_with (n : Nat) : ∀ as R, sp_core_with n as R → as.length = 3 := fun as R h => by
  cases n with
  | zero => exact h.elim
  | succ n => obtain ⟨c, gs, p, g, b, e, _⟩ := h; rw [e]; rfl
theorem zero_core_with {as : En} {R : RetV → En → Prop} (h : sp_core_with 0 as R) : False := h
def w_core_with_B1_1 (n : Nat) : WS := (wIfS (wAndT (wBool (wOp fIsN (wName 2) (wC .none))) (wBool (wOp fEq (wName 7) (wName 8)))) (wSet 7 (wC .none)) wNext)
theorem w_core_with_B1_1_e (n : Nat) (E : VD) (ρ : En) : w_core_with_B1_1 n E ρ = (wIfS (wAndT (wBool (wOp fIsN (wName 2) (wC .none))) (wBool (wOp fEq (wName 7) (wName 8)))) (wSet 7 (wC .none)) wNext) E ρ := rfl
def w_core_with_B1_0 (n : Nat) : WS := (wSeq (wSet 9 (wName 2))
    (w_core_with_B1_1 n))
theorem w_core_with_B1_0_e (n : Nat) (E : VD) (ρ : En) : w_core_with_B1_0 n E ρ = (wSeq (wSet 9 (wName 2))
    (w_core_with_B1_1 n)) E ρ := rfl
def w_core_with_B2_4 (n : Nat) : WS := (wSet 9 (wTup (wCons (wName 10) (wCons (wName 12) (wCons (wName 13) (wCons (wName 14) wNil))))))
theorem w_core_with_B2_4_e (n : Nat) (E : VD) (ρ : En) : w_core_with_B2_4 n E ρ = (wSet 9 (wTup (wCons (wName 10) (wCons (wName 12) (wCons (wName 13) (wCons (wName 14) wNil)))))) E ρ := rfl
def w_core_with_B2_3 (n : Nat) : WS := (wSeq (wIfS (wBool (wOp fIsN (wName 10) (wC .none))) (wRet (wC .none)) wNext)
    (w_core_with_B2_4 n))
theorem w_core_with_B2_3_e (n : Nat) (E : VD) (ρ : En) : w_core_with_B2_3 n E ρ = (wSeq (wIfS (wBool (wOp fIsN (wName 10) (wC .none))) (wRet (wC .none)) wNext)
    (w_core_with_B2_4 n)) E ρ := rfl
def w_core_with_B2_2 (n : Nat) : WS := (wSeq (wSet 10 (wCall (sp_core_with n) (wCons (wName 10) (wCons (wName 11) (wCons (wName 2) wNil)))))
    (w_core_with_B2_3 n))
theorem w_core_with_B2_2_e (n : Nat) (E : VD) (ρ : En) : w_core_with_B2_2 n E ρ = (wSeq (wSet 10 (wCall (sp_core_with n) (wCons (wName 10) (wCons (wName 11) (wCons (wName 2) wNil)))))
    (w_core_with_B2_3 n)) E ρ := rfl
def w_core_with_B2_1 (n : Nat) : WS := (wSeq (wSetT [10, 12, 13, 14] (wAt 6 fIx (wName 8)))
    (w_core_with_B2_2 n))
theorem w_core_with_B2_1_e (n : Nat) (E : VD) (ρ : En) : w_core_with_B2_1 n E ρ = (wSeq (wSetT [10, 12, 13, 14] (wAt 6 fIx (wName 8)))
    (w_core_with_B2_2 n)) E ρ := rfl
def w_core_with_B2_0 (n : Nat) : WS := (wSeq (wIfS (wBool (wOp fIsN (wAt 6 fIx (wName 8)) (wC .none))) (wRet (wC .none)) wNext)
    (w_core_with_B2_1 n))
theorem w_core_with_B2_0_e (n : Nat) (E : VD) (ρ : En) : w_core_with_B2_0 n E ρ = (wSeq (wIfS (wBool (wOp fIsN (wAt 6 fIx (wName 8)) (wC .none))) (wRet (wC .none)) wNext)
    (w_core_with_B2_1 n)) E ρ := rfl
def w_core_with_3 (n : Nat) : WS := (wRet (wTup (wCons (wName 3) (wCons (wName 4) (wCons (wName 5) (wCons (wOp fAdd (wOp fAdd (wSlT (wName 6) wNoPart (wPart (wName 8))) (wTup (wCons (wName 9) wNil))) (wSlT (wName 6) (wPart (wOp fAdd (wName 8) (wC (.int 1)))) wNoPart)) (wCons (wName 7) wNil)))))))
theorem w_core_with_3_e (n : Nat) (E : VD) (ρ : En) : w_core_with_3 n E ρ = (wRet (wTup (wCons (wName 3) (wCons (wName 4) (wCons (wName 5) (wCons (wOp fAdd (wOp fAdd (wSlT (wName 6) wNoPart (wPart (wName 8))) (wTup (wCons (wName 9) wNil))) (wSlT (wName 6) (wPart (wOp fAdd (wName 8) (wC (.int 1)))) wNoPart)) (wCons (wName 7) wNil))))))) E ρ := rfl
def w_core_with_2 (n : Nat) : WS := (wSeq (wIfS (wBool (wOp fEq (wName 11) (wFz (wLst wNil)))) (w_core_with_B1_0 n) (w_core_with_B2_0 n))
    (w_core_with_3 n))
theorem w_core_with_2_e (n : Nat) (E : VD) (ρ : En) : w_core_with_2 n E ρ = (wSeq (wIfS (wBool (wOp fEq (wName 11) (wFz (wLst wNil)))) (w_core_with_B1_0 n) (w_core_with_B2_0 n))
    (w_core_with_3 n)) E ρ := rfl
def w_core_with_1 (n : Nat) : WS := (wSeq (wStar [8] 11 (wName 1))
    (w_core_with_2 n))
theorem w_core_with_1_e (n : Nat) (E : VD) (ρ : En) : w_core_with_1 n E ρ = (wSeq (wStar [8] 11 (wName 1))
    (w_core_with_2 n)) E ρ := rfl
def w_core_with_0 (n : Nat) : WS := (wSeq (wSetT [3, 4, 5, 6, 7] (wName 0))
    (w_core_with_1 n))
theorem w_core_with_0_e (n : Nat) (E : VD) (ρ : En) : w_core_with_0 n E ρ = (wSeq (wSetT [3, 4, 5, 6, 7] (wName 0))
    (w_core_with_1 n)) E ρ := rfl
def w_core_with (n : Nat) : WS := (w_core_with_0 n)
def Bd_core_with : Prop := ∀ n, Body 3 12 (w_core_with n) (sp_core_with (n + 1))
theorem put_lst4 (gs : Fin 4 → Gst) (k : Fin 4) (x : D) (g : Gst) (hx : x = gD g) : ([gD (gs 0), gD (gs 1), gD (gs 2), gD (gs 3)].take k.val ++ [x]) ++ [gD (gs 0), gD (gs 1), gD (gs 2), gD (gs 3)].drop (k.val + 1) = [gD (putG gs k.val g 0), gD (putG gs k.val g 1), gD (putG gs k.val g 2), gD (putG gs k.val g 3)] := by
  subst hx
  match k with
  | 0 => rfl
  | 1 => rfl
  | 2 => rfl
  | 3 => rfl
theorem shaped_int (i : Int) : SeqAt.shaped (.int i) = true := by
  unfold SeqAt.shaped
  simp only [PyData.canLay0, PyData.depth, Bool.true_and]
  exact decide_eq_true (by omega)
theorem shaped_nums (p : List (Fin 4)) : SeqAt.shaped (.list (p.map numD)) = true := by
  have h : PyData.canLayAll0 (p.map numD) = true ∧ PyData.depthAll (p.map numD) = 0 := by
    induction p with
    | nil => exact ⟨rfl, rfl⟩
    | cons x l ih => simp only [List.map_cons, numD, PyData.canLayAll0, PyData.canLay0, PyData.depthAll, PyData.depth, ih.1, ih.2, Bool.and_self]; exact ⟨trivial, rfl⟩
  unfold SeqAt.shaped
  simp only [PyData.canLay0, PyData.depth, h.1, h.2, Bool.true_and]
  exact decide_eq_true (by omega)
theorem body_core_with : Bd_core_with := by
  intro n as R h
  obtain ⟨c, gs, p, g, b, rfl, hp, hl, hl2, k⟩ := h
  unfold w_core_with
  simp only [w_core_with_0_e, coreD, wSeq, wNext, wIfS, wBool, wOp, wAt, wPeek, wName, wC, fIx, wChain, wAndT, wOrT, wNotT, wAndV, wOrV, wNotV, wIf, wNil, wCons, wTup, wLst, wDNew, wFz, fI, fI0, fEq, fNe, fIsN, fIsNot, fAdd, fIn, wC1, wC1F, fLen, fTup, fList, fInt, fAbs, wSlT, wSlL, wNoPart, wPart, wDrop, wRet, wRetF, wRetO, wSet, wSetF, wSetT, wPar, wPut, wBreak, wCont, wItems, wRng1, wRng2, wZip, wEnum, wEnumA, wRev, wFor, wWhile, wLc, wDc, wYes, wCall, wCallF, wCallK, wCallIo, wIsi, wNeg, wGetN, wGetE, wPop2, wAppend, wStar, seqD, fRepT, wDisp, wpCons, wpNil, keysD, dKey, wExtF, fStrI, wCallM, wCallMF, wmNil, wmD, wmS, wmF, avIx, avSls, avSl, avBack, avSet, wParM, List.nodup_nil, List.nodup_cons, List.mem_cons, List.not_mem_nil, or_false, not_false_eq_true, List.drop_succ_cons, List.drop_zero,  wAug, wRepL, wCatO, wCatF, wKeys, wItemsK, bName, bNames, retD, ctD, vd, itemsD, isDict, List.getElem?_cons_zero, List.getElem?_cons_succ, List.set_cons_zero, List.set_cons_succ, List.cons_append, List.nil_append, List.append_nil, List.replicate_succ, List.replicate_zero, List.map_cons, List.map_nil, List.length_cons, List.length_nil, List.zip_cons_cons, List.zip_nil_right, List.zip_nil_left, List.foldl_cons, List.foldl_nil, wipeE, backE, List.getD_cons_zero, List.getD_cons_succ, outsOf, keepPin, List.range_succ, List.range_zero, exS, at0, at1, at2, at3, at4, ix0, ix1, ix2, if_true, if_false, true_and, and_true, Bool.false_eq_true, reduceCtorEq, eqvI, eqvS, eqvB, scalI, scalS, scalB, true_or, decide_eq_true_eq, Bool.not_true, Bool.not_false, Bool.not_eq_true, isi_none_int, isi_none_bool, isi_none_str, isi_none_tuple, isi_none_list, isi_none_dict, isi_bool_int, isi_bool_bool, isi_bool_str, isi_bool_tuple, isi_bool_list, isi_bool_dict, isi_int_int, isi_int_bool, isi_int_str, isi_int_tuple, isi_int_list, isi_int_dict, isi_str_int, isi_str_bool, isi_str_str, isi_str_tuple, isi_str_list, isi_str_dict, isi_list_int, isi_list_bool, isi_list_str, isi_list_tuple, isi_list_list, isi_list_dict, isi_tuple_int, isi_tuple_bool, isi_tuple_str, isi_tuple_tuple, isi_tuple_list, isi_tuple_dict, isi_dict_int, isi_dict_bool, isi_dict_str, isi_dict_tuple, isi_dict_list, isi_dict_dict]
  cases p with
  | nil => exact absurd rfl hp
  | cons j p =>
  have fin : ∀ (x s0 s1 s2 : D) (g' : Gst) (s9 s10 s11 s12 s13 s14 : Sl) (o : Option Nat), x = gD g' → R (.fz (coreD { c with ins := o } (putG gs j.val g'))) [.no, .no, .no] → w_core_with_3 n ⟨fun ρ => R (.fz .none) (outsOf 3 ρ), fun r ρ => R r (outsOf 3 ρ), fun _ => False, fun _ => False⟩
      [.d s0, .d s1, .d s2, .d (intsD c.regs), .d (.int c.pc), .d (.int c.clock), .d (.tuple [gD (gs 0), gD (gs 1), gD (gs 2), gD (gs 3)]), .d (insD o), .d (numD j), .d x, s10, s11, s12, s13, s14] := by
    intro x s0 s1 s2 g' s9 s10 s11 s12 s13 s14 o hx hR
    simp only [w_core_with_3_e, numD, wSeq, wNext, wIfS, wBool, wOp, wAt, wPeek, wName, wC, fIx, wChain, wAndT, wOrT, wNotT, wAndV, wOrV, wNotV, wIf, wNil, wCons, wTup, wLst, wDNew, wFz, fI, fI0, fEq, fNe, fIsN, fIsNot, fAdd, fIn, wC1, wC1F, fLen, fTup, fList, fInt, fAbs, wSlT, wSlL, wNoPart, wPart, wDrop, wRet, wRetF, wRetO, wSet, wSetF, wSetT, wPar, wPut, wBreak, wCont, wItems, wRng1, wRng2, wZip, wEnum, wEnumA, wRev, wFor, wWhile, wLc, wDc, wYes, wCall, wCallF, wCallK, wCallIo, wIsi, wNeg, wGetN, wGetE, wPop2, wAppend, wStar, seqD, fRepT, wDisp, wpCons, wpNil, keysD, dKey, wExtF, fStrI, wCallM, wCallMF, wmNil, wmD, wmS, wmF, avIx, avSls, avSl, avBack, avSet, wParM, List.nodup_nil, List.nodup_cons, List.mem_cons, List.not_mem_nil, or_false, not_false_eq_true, List.drop_succ_cons, List.drop_zero,  wAug, wRepL, wCatO, wCatF, wKeys, wItemsK, bName, bNames, retD, ctD, vd, itemsD, isDict, List.getElem?_cons_zero, List.getElem?_cons_succ, List.set_cons_zero, List.set_cons_succ, List.cons_append, List.nil_append, List.append_nil, List.replicate_succ, List.replicate_zero, List.map_cons, List.map_nil, List.length_cons, List.length_nil, List.zip_cons_cons, List.zip_nil_right, List.zip_nil_left, List.foldl_cons, List.foldl_nil, wipeE, backE, List.getD_cons_zero, List.getD_cons_succ, outsOf, keepPin, List.range_succ, List.range_zero, exS, at0, at1, at2, at3, at4, ix0, ix1, ix2, if_true, if_false, true_and, and_true, Bool.false_eq_true, reduceCtorEq, eqvI, eqvS, eqvB, scalI, scalS, scalB, true_or, decide_eq_true_eq, Bool.not_true, Bool.not_false, Bool.not_eq_true, isi_none_int, isi_none_bool, isi_none_str, isi_none_tuple, isi_none_list, isi_none_dict, isi_bool_int, isi_bool_bool, isi_bool_str, isi_bool_tuple, isi_bool_list, isi_bool_dict, isi_int_int, isi_int_bool, isi_int_str, isi_int_tuple, isi_int_list, isi_int_dict, isi_str_int, isi_str_bool, isi_str_str, isi_str_tuple, isi_str_list, isi_str_dict, isi_list_int, isi_list_bool, isi_list_str, isi_list_tuple, isi_list_list, isi_list_dict, isi_tuple_int, isi_tuple_bool, isi_tuple_str, isi_tuple_tuple, isi_tuple_list, isi_tuple_dict, isi_dict_int, isi_dict_bool, isi_dict_str, isi_dict_tuple, isi_dict_list, isi_dict_dict]
    rw [show ((j.val : Int) + 1) = ((j.val + 1 : Nat) : Int) by omega, cut_take, cut_drop, put_lst4 gs j x g' hx]
    have := j.isLt
    exact ⟨by decide, small_len (by simp; omega), small_len (by simp; omega), by decide, hR⟩
  have main : ∀ s1 : D, w_core_with_2 n ⟨fun ρ => R (.fz .none) (outsOf 3 ρ), fun r ρ => R r (outsOf 3 ρ), fun _ => False, fun _ => False⟩
      [.d (coreD c gs), .d s1, .d (gD g), .d (intsD c.regs), .d (.int c.pc), .d (.int c.clock), .d (.tuple [gD (gs 0), gD (gs 1), gD (gs 2), gD (gs 3)]), .d (insD c.ins), .d (numD j), .no, .no, .o false (.l (p.map numD)), .no, .no, .no] := by
    intro s1
    simp only [w_core_with_2_e, wSeq, wNext, wIfS, wBool, wOp, wAt, wPeek, wName, wC, fIx, wChain, wAndT, wOrT, wNotT, wAndV, wOrV, wNotV, wIf, wNil, wCons, wTup, wLst, wDNew, wFz, fI, fI0, fEq, fNe, fIsN, fIsNot, fAdd, fIn, wC1, wC1F, fLen, fTup, fList, fInt, fAbs, wSlT, wSlL, wNoPart, wPart, wDrop, wRet, wRetF, wRetO, wSet, wSetF, wSetT, wPar, wPut, wBreak, wCont, wItems, wRng1, wRng2, wZip, wEnum, wEnumA, wRev, wFor, wWhile, wLc, wDc, wYes, wCall, wCallF, wCallK, wCallIo, wIsi, wNeg, wGetN, wGetE, wPop2, wAppend, wStar, seqD, fRepT, wDisp, wpCons, wpNil, keysD, dKey, wExtF, fStrI, wCallM, wCallMF, wmNil, wmD, wmS, wmF, avIx, avSls, avSl, avBack, avSet, wParM, List.nodup_nil, List.nodup_cons, List.mem_cons, List.not_mem_nil, or_false, not_false_eq_true, List.drop_succ_cons, List.drop_zero,  wAug, wRepL, wCatO, wCatF, wKeys, wItemsK, bName, bNames, retD, ctD, vd, itemsD, isDict, List.getElem?_cons_zero, List.getElem?_cons_succ, List.set_cons_zero, List.set_cons_succ, List.cons_append, List.nil_append, List.append_nil, List.replicate_succ, List.replicate_zero, List.map_cons, List.map_nil, List.length_cons, List.length_nil, List.zip_cons_cons, List.zip_nil_right, List.zip_nil_left, List.foldl_cons, List.foldl_nil, wipeE, backE, List.getD_cons_zero, List.getD_cons_succ, outsOf, keepPin, List.range_succ, List.range_zero, exS, at0, at1, at2, at3, at4, ix0, ix1, ix2, if_true, if_false, true_and, and_true, Bool.false_eq_true, reduceCtorEq, eqvI, eqvS, eqvB, scalI, scalS, scalB, true_or, decide_eq_true_eq, Bool.not_true, Bool.not_false, Bool.not_eq_true, isi_none_int, isi_none_bool, isi_none_str, isi_none_tuple, isi_none_list, isi_none_dict, isi_bool_int, isi_bool_bool, isi_bool_str, isi_bool_tuple, isi_bool_list, isi_bool_dict, isi_int_int, isi_int_bool, isi_int_str, isi_int_tuple, isi_int_list, isi_int_dict, isi_str_int, isi_str_bool, isi_str_str, isi_str_tuple, isi_str_list, isi_str_dict, isi_list_int, isi_list_bool, isi_list_str, isi_list_tuple, isi_list_list, isi_list_dict, isi_tuple_int, isi_tuple_bool, isi_tuple_str, isi_tuple_tuple, isi_tuple_list, isi_tuple_dict, isi_dict_int, isi_dict_bool, isi_dict_str, isi_dict_tuple, isi_dict_list, isi_dict_dict]
    refine ⟨by decide, .inr ⟨shaped_nums p, nil_shaped⟩, ?_⟩
    cases p with
    | nil =>
      refine iteY (by simp [PyData.eqv, PyData.eqvAll]) ?_
      have k : R (.fz (coreD { c with ins := if isNone (gD g) = true ∧ c.ins = some j.val then none else c.ins } (putG gs j.val g))) [.no, .no, .no] := k
      simp only [w_core_with_B1_0_e, wSeq, wNext, wIfS, wBool, wOp, wAt, wPeek, wName, wC, fIx, wChain, wAndT, wOrT, wNotT, wAndV, wOrV, wNotV, wIf, wNil, wCons, wTup, wLst, wDNew, wFz, fI, fI0, fEq, fNe, fIsN, fIsNot, fAdd, fIn, wC1, wC1F, fLen, fTup, fList, fInt, fAbs, wSlT, wSlL, wNoPart, wPart, wDrop, wRet, wRetF, wRetO, wSet, wSetF, wSetT, wPar, wPut, wBreak, wCont, wItems, wRng1, wRng2, wZip, wEnum, wEnumA, wRev, wFor, wWhile, wLc, wDc, wYes, wCall, wCallF, wCallK, wCallIo, wIsi, wNeg, wGetN, wGetE, wPop2, wAppend, wStar, seqD, fRepT, wDisp, wpCons, wpNil, keysD, dKey, wExtF, fStrI, wCallM, wCallMF, wmNil, wmD, wmS, wmF, avIx, avSls, avSl, avBack, avSet, wParM, List.nodup_nil, List.nodup_cons, List.mem_cons, List.not_mem_nil, or_false, not_false_eq_true, List.drop_succ_cons, List.drop_zero,  wAug, wRepL, wCatO, wCatF, wKeys, wItemsK, bName, bNames, retD, ctD, vd, itemsD, isDict, List.getElem?_cons_zero, List.getElem?_cons_succ, List.set_cons_zero, List.set_cons_succ, List.cons_append, List.nil_append, List.append_nil, List.replicate_succ, List.replicate_zero, List.map_cons, List.map_nil, List.length_cons, List.length_nil, List.zip_cons_cons, List.zip_nil_right, List.zip_nil_left, List.foldl_cons, List.foldl_nil, wipeE, backE, List.getD_cons_zero, List.getD_cons_succ, outsOf, keepPin, List.range_succ, List.range_zero, exS, at0, at1, at2, at3, at4, ix0, ix1, ix2, if_true, if_false, true_and, and_true, Bool.false_eq_true, reduceCtorEq, eqvI, eqvS, eqvB, scalI, scalS, scalB, true_or, decide_eq_true_eq, Bool.not_true, Bool.not_false, Bool.not_eq_true, isi_none_int, isi_none_bool, isi_none_str, isi_none_tuple, isi_none_list, isi_none_dict, isi_bool_int, isi_bool_bool, isi_bool_str, isi_bool_tuple, isi_bool_list, isi_bool_dict, isi_int_int, isi_int_bool, isi_int_str, isi_int_tuple, isi_int_list, isi_int_dict, isi_str_int, isi_str_bool, isi_str_str, isi_str_tuple, isi_str_list, isi_str_dict, isi_list_int, isi_list_bool, isi_list_str, isi_list_tuple, isi_list_list, isi_list_dict, isi_tuple_int, isi_tuple_bool, isi_tuple_str, isi_tuple_tuple, isi_tuple_list, isi_tuple_dict, isi_dict_int, isi_dict_bool, isi_dict_str, isi_dict_tuple, isi_dict_list, isi_dict_dict]
      simp only [w_core_with_B1_1_e, wSeq, wNext, wIfS, wBool, wOp, wAt, wPeek, wName, wC, fIx, wChain, wAndT, wOrT, wNotT, wAndV, wOrV, wNotV, wIf, wNil, wCons, wTup, wLst, wDNew, wFz, fI, fI0, fEq, fNe, fIsN, fIsNot, fAdd, fIn, wC1, wC1F, fLen, fTup, fList, fInt, fAbs, wSlT, wSlL, wNoPart, wPart, wDrop, wRet, wRetF, wRetO, wSet, wSetF, wSetT, wPar, wPut, wBreak, wCont, wItems, wRng1, wRng2, wZip, wEnum, wEnumA, wRev, wFor, wWhile, wLc, wDc, wYes, wCall, wCallF, wCallK, wCallIo, wIsi, wNeg, wGetN, wGetE, wPop2, wAppend, wStar, seqD, fRepT, wDisp, wpCons, wpNil, keysD, dKey, wExtF, fStrI, wCallM, wCallMF, wmNil, wmD, wmS, wmF, avIx, avSls, avSl, avBack, avSet, wParM, List.nodup_nil, List.nodup_cons, List.mem_cons, List.not_mem_nil, or_false, not_false_eq_true, List.drop_succ_cons, List.drop_zero,  wAug, wRepL, wCatO, wCatF, wKeys, wItemsK, bName, bNames, retD, ctD, vd, itemsD, isDict, List.getElem?_cons_zero, List.getElem?_cons_succ, List.set_cons_zero, List.set_cons_succ, List.cons_append, List.nil_append, List.append_nil, List.replicate_succ, List.replicate_zero, List.map_cons, List.map_nil, List.length_cons, List.length_nil, List.zip_cons_cons, List.zip_nil_right, List.zip_nil_left, List.foldl_cons, List.foldl_nil, wipeE, backE, List.getD_cons_zero, List.getD_cons_succ, outsOf, keepPin, List.range_succ, List.range_zero, exS, at0, at1, at2, at3, at4, ix0, ix1, ix2, if_true, if_false, true_and, and_true, Bool.false_eq_true, reduceCtorEq, eqvI, eqvS, eqvB, scalI, scalS, scalB, true_or, decide_eq_true_eq, Bool.not_true, Bool.not_false, Bool.not_eq_true, isi_none_int, isi_none_bool, isi_none_str, isi_none_tuple, isi_none_list, isi_none_dict, isi_bool_int, isi_bool_bool, isi_bool_str, isi_bool_tuple, isi_bool_list, isi_bool_dict, isi_int_int, isi_int_bool, isi_int_str, isi_int_tuple, isi_int_list, isi_int_dict, isi_str_int, isi_str_bool, isi_str_str, isi_str_tuple, isi_str_list, isi_str_dict, isi_list_int, isi_list_bool, isi_list_str, isi_list_tuple, isi_list_list, isi_list_dict, isi_tuple_int, isi_tuple_bool, isi_tuple_str, isi_tuple_tuple, isi_tuple_list, isi_tuple_dict, isi_dict_int, isi_dict_bool, isi_dict_str, isi_dict_tuple, isi_dict_list, isi_dict_dict]
      by_cases hg : isNone (gD g) = true
      · refine iteY hg ⟨?_, ?_⟩
        · cases c.ins with
          | none => exact .inr ⟨by decide +kernel, shaped_int _⟩
          | some k => exact .inl rfl
        · by_cases hi : c.ins = some j.val
          · rw [if_pos ⟨hg, hi⟩] at k
            refine iteY (by rw [hi]; simp [insD, numD, PyData.eqv]) ?_
            exact fin _ _ _ _ g .no _ _ _ _ _ none rfl k
          · rw [if_neg (fun z => hi z.2)] at k
            refine iteN ?_ (fin _ _ _ _ g .no _ _ _ _ _ c.ins rfl k)
            cases q : c.ins with
            | none => simp [insD, numD, PyData.eqv]
            | some y =>
              rw [q] at hi
              have : (y : Int) ≠ (j.val : Int) := fun z => hi (by congr 1; omega)
              simp [insD, numD, PyData.eqv, this]
      · refine iteN hg ?_
        rw [if_neg (fun z => hg z.1)] at k
        exact fin _ _ _ _ g .no _ _ _ _ _ c.ins rfl k
    | cons j2 p =>
      refine iteN (by simp [PyData.eqv, PyData.eqvAll]) ?_
      unfold withG at k
      simp only [w_core_with_B2_0_e, numD, wSeq, wNext, wIfS, wBool, wOp, wAt, wPeek, wName, wC, fIx, wChain, wAndT, wOrT, wNotT, wAndV, wOrV, wNotV, wIf, wNil, wCons, wTup, wLst, wDNew, wFz, fI, fI0, fEq, fNe, fIsN, fIsNot, fAdd, fIn, wC1, wC1F, fLen, fTup, fList, fInt, fAbs, wSlT, wSlL, wNoPart, wPart, wDrop, wRet, wRetF, wRetO, wSet, wSetF, wSetT, wPar, wPut, wBreak, wCont, wItems, wRng1, wRng2, wZip, wEnum, wEnumA, wRev, wFor, wWhile, wLc, wDc, wYes, wCall, wCallF, wCallK, wCallIo, wIsi, wNeg, wGetN, wGetE, wPop2, wAppend, wStar, seqD, fRepT, wDisp, wpCons, wpNil, keysD, dKey, wExtF, fStrI, wCallM, wCallMF, wmNil, wmD, wmS, wmF, avIx, avSls, avSl, avBack, avSet, wParM, List.nodup_nil, List.nodup_cons, List.mem_cons, List.not_mem_nil, or_false, not_false_eq_true, List.drop_succ_cons, List.drop_zero,  wAug, wRepL, wCatO, wCatF, wKeys, wItemsK, bName, bNames, retD, ctD, vd, itemsD, isDict, List.getElem?_cons_zero, List.getElem?_cons_succ, List.set_cons_zero, List.set_cons_succ, List.cons_append, List.nil_append, List.append_nil, List.replicate_succ, List.replicate_zero, List.map_cons, List.map_nil, List.length_cons, List.length_nil, List.zip_cons_cons, List.zip_nil_right, List.zip_nil_left, List.foldl_cons, List.foldl_nil, wipeE, backE, List.getD_cons_zero, List.getD_cons_succ, outsOf, keepPin, List.range_succ, List.range_zero, exS, at0, at1, at2, at3, at4, ix0, ix1, ix2, if_true, if_false, true_and, and_true, Bool.false_eq_true, reduceCtorEq, eqvI, eqvS, eqvB, scalI, scalS, scalB, true_or, decide_eq_true_eq, Bool.not_true, Bool.not_false, Bool.not_eq_true, isi_none_int, isi_none_bool, isi_none_str, isi_none_tuple, isi_none_list, isi_none_dict, isi_bool_int, isi_bool_bool, isi_bool_str, isi_bool_tuple, isi_bool_list, isi_bool_dict, isi_int_int, isi_int_bool, isi_int_str, isi_int_tuple, isi_int_list, isi_int_dict, isi_str_int, isi_str_bool, isi_str_str, isi_str_tuple, isi_str_list, isi_str_dict, isi_list_int, isi_list_bool, isi_list_str, isi_list_tuple, isi_list_list, isi_list_dict, isi_tuple_int, isi_tuple_bool, isi_tuple_str, isi_tuple_tuple, isi_tuple_list, isi_tuple_dict, isi_dict_int, isi_dict_bool, isi_dict_str, isi_dict_tuple, isi_dict_list, isi_dict_dict]
      have aj := at_gs gs j.isLt
      have ej : (⟨j.val, j.isLt⟩ : Fin 4) = j := rfl
      rw [ej] at aj
      refine ⟨_, aj, ?_⟩
      cases q : gs j with
      | no =>
        rw [q] at k
        refine iteY rfl ?_
        exact k
      | mk c' gs' t w f =>
        rw [q] at k aj
        simp only at k
        refine iteN (by simp [gD, isNone]) ?_
        simp only [w_core_with_B2_1_e, wSeq, wNext, wIfS, wBool, wOp, wAt, wPeek, wName, wC, fIx, wChain, wAndT, wOrT, wNotT, wAndV, wOrV, wNotV, wIf, wNil, wCons, wTup, wLst, wDNew, wFz, fI, fI0, fEq, fNe, fIsN, fIsNot, fAdd, fIn, wC1, wC1F, fLen, fTup, fList, fInt, fAbs, wSlT, wSlL, wNoPart, wPart, wDrop, wRet, wRetF, wRetO, wSet, wSetF, wSetT, wPar, wPut, wBreak, wCont, wItems, wRng1, wRng2, wZip, wEnum, wEnumA, wRev, wFor, wWhile, wLc, wDc, wYes, wCall, wCallF, wCallK, wCallIo, wIsi, wNeg, wGetN, wGetE, wPop2, wAppend, wStar, seqD, fRepT, wDisp, wpCons, wpNil, keysD, dKey, wExtF, fStrI, wCallM, wCallMF, wmNil, wmD, wmS, wmF, avIx, avSls, avSl, avBack, avSet, wParM, List.nodup_nil, List.nodup_cons, List.mem_cons, List.not_mem_nil, or_false, not_false_eq_true, List.drop_succ_cons, List.drop_zero,  wAug, wRepL, wCatO, wCatF, wKeys, wItemsK, bName, bNames, retD, ctD, vd, itemsD, isDict, List.getElem?_cons_zero, List.getElem?_cons_succ, List.set_cons_zero, List.set_cons_succ, List.cons_append, List.nil_append, List.append_nil, List.replicate_succ, List.replicate_zero, List.map_cons, List.map_nil, List.length_cons, List.length_nil, List.zip_cons_cons, List.zip_nil_right, List.zip_nil_left, List.foldl_cons, List.foldl_nil, wipeE, backE, List.getD_cons_zero, List.getD_cons_succ, outsOf, keepPin, List.range_succ, List.range_zero, exS, at0, at1, at2, at3, at4, ix0, ix1, ix2, if_true, if_false, true_and, and_true, Bool.false_eq_true, reduceCtorEq, eqvI, eqvS, eqvB, scalI, scalS, scalB, true_or, decide_eq_true_eq, Bool.not_true, Bool.not_false, Bool.not_eq_true, isi_none_int, isi_none_bool, isi_none_str, isi_none_tuple, isi_none_list, isi_none_dict, isi_bool_int, isi_bool_bool, isi_bool_str, isi_bool_tuple, isi_bool_list, isi_bool_dict, isi_int_int, isi_int_bool, isi_int_str, isi_int_tuple, isi_int_list, isi_int_dict, isi_str_int, isi_str_bool, isi_str_str, isi_str_tuple, isi_str_list, isi_str_dict, isi_list_int, isi_list_bool, isi_list_str, isi_list_tuple, isi_list_list, isi_list_dict, isi_tuple_int, isi_tuple_bool, isi_tuple_str, isi_tuple_tuple, isi_tuple_list, isi_tuple_dict, isi_dict_int, isi_dict_bool, isi_dict_str, isi_dict_tuple, isi_dict_list, isi_dict_dict]
        refine ⟨_, aj, ?_⟩
        simp only [gD_mk, wSeq, wNext, wIfS, wBool, wOp, wAt, wPeek, wName, wC, fIx, wChain, wAndT, wOrT, wNotT, wAndV, wOrV, wNotV, wIf, wNil, wCons, wTup, wLst, wDNew, wFz, fI, fI0, fEq, fNe, fIsN, fIsNot, fAdd, fIn, wC1, wC1F, fLen, fTup, fList, fInt, fAbs, wSlT, wSlL, wNoPart, wPart, wDrop, wRet, wRetF, wRetO, wSet, wSetF, wSetT, wPar, wPut, wBreak, wCont, wItems, wRng1, wRng2, wZip, wEnum, wEnumA, wRev, wFor, wWhile, wLc, wDc, wYes, wCall, wCallF, wCallK, wCallIo, wIsi, wNeg, wGetN, wGetE, wPop2, wAppend, wStar, seqD, fRepT, wDisp, wpCons, wpNil, keysD, dKey, wExtF, fStrI, wCallM, wCallMF, wmNil, wmD, wmS, wmF, avIx, avSls, avSl, avBack, avSet, wParM, List.nodup_nil, List.nodup_cons, List.mem_cons, List.not_mem_nil, or_false, not_false_eq_true, List.drop_succ_cons, List.drop_zero,  wAug, wRepL, wCatO, wCatF, wKeys, wItemsK, bName, bNames, retD, ctD, vd, itemsD, isDict, List.getElem?_cons_zero, List.getElem?_cons_succ, List.set_cons_zero, List.set_cons_succ, List.cons_append, List.nil_append, List.append_nil, List.replicate_succ, List.replicate_zero, List.map_cons, List.map_nil, List.length_cons, List.length_nil, List.zip_cons_cons, List.zip_nil_right, List.zip_nil_left, List.foldl_cons, List.foldl_nil, wipeE, backE, List.getD_cons_zero, List.getD_cons_succ, outsOf, keepPin, List.range_succ, List.range_zero, exS, at0, at1, at2, at3, at4, ix0, ix1, ix2, if_true, if_false, true_and, and_true, Bool.false_eq_true, reduceCtorEq, eqvI, eqvS, eqvB, scalI, scalS, scalB, true_or, decide_eq_true_eq, Bool.not_true, Bool.not_false, Bool.not_eq_true, isi_none_int, isi_none_bool, isi_none_str, isi_none_tuple, isi_none_list, isi_none_dict, isi_bool_int, isi_bool_bool, isi_bool_str, isi_bool_tuple, isi_bool_list, isi_bool_dict, isi_int_int, isi_int_bool, isi_int_str, isi_int_tuple, isi_int_list, isi_int_dict, isi_str_int, isi_str_bool, isi_str_str, isi_str_tuple, isi_str_list, isi_str_dict, isi_list_int, isi_list_bool, isi_list_str, isi_list_tuple, isi_list_list, isi_list_dict, isi_tuple_int, isi_tuple_bool, isi_tuple_str, isi_tuple_tuple, isi_tuple_list, isi_tuple_dict, isi_dict_int, isi_dict_bool, isi_dict_str, isi_dict_tuple, isi_dict_list, isi_dict_dict]
        simp only [w_core_with_B2_2_e, wSeq, wNext, wIfS, wBool, wOp, wAt, wPeek, wName, wC, fIx, wChain, wAndT, wOrT, wNotT, wAndV, wOrV, wNotV, wIf, wNil, wCons, wTup, wLst, wDNew, wFz, fI, fI0, fEq, fNe, fIsN, fIsNot, fAdd, fIn, wC1, wC1F, fLen, fTup, fList, fInt, fAbs, wSlT, wSlL, wNoPart, wPart, wDrop, wRet, wRetF, wRetO, wSet, wSetF, wSetT, wPar, wPut, wBreak, wCont, wItems, wRng1, wRng2, wZip, wEnum, wEnumA, wRev, wFor, wWhile, wLc, wDc, wYes, wCall, wCallF, wCallK, wCallIo, wIsi, wNeg, wGetN, wGetE, wPop2, wAppend, wStar, seqD, fRepT, wDisp, wpCons, wpNil, keysD, dKey, wExtF, fStrI, wCallM, wCallMF, wmNil, wmD, wmS, wmF, avIx, avSls, avSl, avBack, avSet, wParM, List.nodup_nil, List.nodup_cons, List.mem_cons, List.not_mem_nil, or_false, not_false_eq_true, List.drop_succ_cons, List.drop_zero,  wAug, wRepL, wCatO, wCatF, wKeys, wItemsK, bName, bNames, retD, ctD, vd, itemsD, isDict, List.getElem?_cons_zero, List.getElem?_cons_succ, List.set_cons_zero, List.set_cons_succ, List.cons_append, List.nil_append, List.append_nil, List.replicate_succ, List.replicate_zero, List.map_cons, List.map_nil, List.length_cons, List.length_nil, List.zip_cons_cons, List.zip_nil_right, List.zip_nil_left, List.foldl_cons, List.foldl_nil, wipeE, backE, List.getD_cons_zero, List.getD_cons_succ, outsOf, keepPin, List.range_succ, List.range_zero, exS, at0, at1, at2, at3, at4, ix0, ix1, ix2, if_true, if_false, true_and, and_true, Bool.false_eq_true, reduceCtorEq, eqvI, eqvS, eqvB, scalI, scalS, scalB, true_or, decide_eq_true_eq, Bool.not_true, Bool.not_false, Bool.not_eq_true, isi_none_int, isi_none_bool, isi_none_str, isi_none_tuple, isi_none_list, isi_none_dict, isi_bool_int, isi_bool_bool, isi_bool_str, isi_bool_tuple, isi_bool_list, isi_bool_dict, isi_int_int, isi_int_bool, isi_int_str, isi_int_tuple, isi_int_list, isi_int_dict, isi_str_int, isi_str_bool, isi_str_str, isi_str_tuple, isi_str_list, isi_str_dict, isi_list_int, isi_list_bool, isi_list_str, isi_list_tuple, isi_list_list, isi_list_dict, isi_tuple_int, isi_tuple_bool, isi_tuple_str, isi_tuple_tuple, isi_tuple_list, isi_tuple_dict, isi_dict_int, isi_dict_bool, isi_dict_str, isi_dict_tuple, isi_dict_list, isi_dict_dict]
        cases n with
        | zero => simp at hl
        | succ n =>
        refine ⟨c', gs', j2 :: p, g, false, rfl, by simp, by simpa using hl, by simp at hl2 ⊢; omega, ?_⟩
        simp only [w_core_with_B2_3_e, wSeq, wNext, wIfS, wBool, wOp, wAt, wPeek, wName, wC, fIx, wChain, wAndT, wOrT, wNotT, wAndV, wOrV, wNotV, wIf, wNil, wCons, wTup, wLst, wDNew, wFz, fI, fI0, fEq, fNe, fIsN, fIsNot, fAdd, fIn, wC1, wC1F, fLen, fTup, fList, fInt, fAbs, wSlT, wSlL, wNoPart, wPart, wDrop, wRet, wRetF, wRetO, wSet, wSetF, wSetT, wPar, wPut, wBreak, wCont, wItems, wRng1, wRng2, wZip, wEnum, wEnumA, wRev, wFor, wWhile, wLc, wDc, wYes, wCall, wCallF, wCallK, wCallIo, wIsi, wNeg, wGetN, wGetE, wPop2, wAppend, wStar, seqD, fRepT, wDisp, wpCons, wpNil, keysD, dKey, wExtF, fStrI, wCallM, wCallMF, wmNil, wmD, wmS, wmF, avIx, avSls, avSl, avBack, avSet, wParM, List.nodup_nil, List.nodup_cons, List.mem_cons, List.not_mem_nil, or_false, not_false_eq_true, List.drop_succ_cons, List.drop_zero,  wAug, wRepL, wCatO, wCatF, wKeys, wItemsK, bName, bNames, retD, ctD, vd, itemsD, isDict, List.getElem?_cons_zero, List.getElem?_cons_succ, List.set_cons_zero, List.set_cons_succ, List.cons_append, List.nil_append, List.append_nil, List.replicate_succ, List.replicate_zero, List.map_cons, List.map_nil, List.length_cons, List.length_nil, List.zip_cons_cons, List.zip_nil_right, List.zip_nil_left, List.foldl_cons, List.foldl_nil, wipeE, backE, List.getD_cons_zero, List.getD_cons_succ, outsOf, keepPin, List.range_succ, List.range_zero, exS, at0, at1, at2, at3, at4, ix0, ix1, ix2, if_true, if_false, true_and, and_true, Bool.false_eq_true, reduceCtorEq, eqvI, eqvS, eqvB, scalI, scalS, scalB, true_or, decide_eq_true_eq, Bool.not_true, Bool.not_false, Bool.not_eq_true, isi_none_int, isi_none_bool, isi_none_str, isi_none_tuple, isi_none_list, isi_none_dict, isi_bool_int, isi_bool_bool, isi_bool_str, isi_bool_tuple, isi_bool_list, isi_bool_dict, isi_int_int, isi_int_bool, isi_int_str, isi_int_tuple, isi_int_list, isi_int_dict, isi_str_int, isi_str_bool, isi_str_str, isi_str_tuple, isi_str_list, isi_str_dict, isi_list_int, isi_list_bool, isi_list_str, isi_list_tuple, isi_list_list, isi_list_dict, isi_tuple_int, isi_tuple_bool, isi_tuple_str, isi_tuple_tuple, isi_tuple_list, isi_tuple_dict, isi_dict_int, isi_dict_bool, isi_dict_str, isi_dict_tuple, isi_dict_list, isi_dict_dict]
        cases e : withG c' gs' (j2 :: p) g with
        | none =>
          rw [e] at k
          refine iteY rfl ?_
          exact k
        | some r =>
          rw [e] at k
          refine iteN (by simp [resD, coreD, isNone]) ?_
          simp only [w_core_with_B2_4_e, wSeq, wNext, wIfS, wBool, wOp, wAt, wPeek, wName, wC, fIx, wChain, wAndT, wOrT, wNotT, wAndV, wOrV, wNotV, wIf, wNil, wCons, wTup, wLst, wDNew, wFz, fI, fI0, fEq, fNe, fIsN, fIsNot, fAdd, fIn, wC1, wC1F, fLen, fTup, fList, fInt, fAbs, wSlT, wSlL, wNoPart, wPart, wDrop, wRet, wRetF, wRetO, wSet, wSetF, wSetT, wPar, wPut, wBreak, wCont, wItems, wRng1, wRng2, wZip, wEnum, wEnumA, wRev, wFor, wWhile, wLc, wDc, wYes, wCall, wCallF, wCallK, wCallIo, wIsi, wNeg, wGetN, wGetE, wPop2, wAppend, wStar, seqD, fRepT, wDisp, wpCons, wpNil, keysD, dKey, wExtF, fStrI, wCallM, wCallMF, wmNil, wmD, wmS, wmF, avIx, avSls, avSl, avBack, avSet, wParM, List.nodup_nil, List.nodup_cons, List.mem_cons, List.not_mem_nil, or_false, not_false_eq_true, List.drop_succ_cons, List.drop_zero,  wAug, wRepL, wCatO, wCatF, wKeys, wItemsK, bName, bNames, retD, ctD, vd, itemsD, isDict, List.getElem?_cons_zero, List.getElem?_cons_succ, List.set_cons_zero, List.set_cons_succ, List.cons_append, List.nil_append, List.append_nil, List.replicate_succ, List.replicate_zero, List.map_cons, List.map_nil, List.length_cons, List.length_nil, List.zip_cons_cons, List.zip_nil_right, List.zip_nil_left, List.foldl_cons, List.foldl_nil, wipeE, backE, List.getD_cons_zero, List.getD_cons_succ, outsOf, keepPin, List.range_succ, List.range_zero, exS, at0, at1, at2, at3, at4, ix0, ix1, ix2, if_true, if_false, true_and, and_true, Bool.false_eq_true, reduceCtorEq, eqvI, eqvS, eqvB, scalI, scalS, scalB, true_or, decide_eq_true_eq, Bool.not_true, Bool.not_false, Bool.not_eq_true, isi_none_int, isi_none_bool, isi_none_str, isi_none_tuple, isi_none_list, isi_none_dict, isi_bool_int, isi_bool_bool, isi_bool_str, isi_bool_tuple, isi_bool_list, isi_bool_dict, isi_int_int, isi_int_bool, isi_int_str, isi_int_tuple, isi_int_list, isi_int_dict, isi_str_int, isi_str_bool, isi_str_str, isi_str_tuple, isi_str_list, isi_str_dict, isi_list_int, isi_list_bool, isi_list_str, isi_list_tuple, isi_list_list, isi_list_dict, isi_tuple_int, isi_tuple_bool, isi_tuple_str, isi_tuple_tuple, isi_tuple_list, isi_tuple_dict, isi_dict_int, isi_dict_bool, isi_dict_str, isi_dict_tuple, isi_dict_list, isi_dict_dict]
          refine ⟨by decide, ?_⟩
          exact fin _ _ _ _ (.mk r.1 r.2 t w f) .no _ _ _ _ _ c.ins rfl k
  cases b
  · simp only [w_core_with_1_e, Bool.false_eq_true, if_false, wSeq, wNext, wIfS, wBool, wOp, wAt, wPeek, wName, wC, fIx, wChain, wAndT, wOrT, wNotT, wAndV, wOrV, wNotV, wIf, wNil, wCons, wTup, wLst, wDNew, wFz, fI, fI0, fEq, fNe, fIsN, fIsNot, fAdd, fIn, wC1, wC1F, fLen, fTup, fList, fInt, fAbs, wSlT, wSlL, wNoPart, wPart, wDrop, wRet, wRetF, wRetO, wSet, wSetF, wSetT, wPar, wPut, wBreak, wCont, wItems, wRng1, wRng2, wZip, wEnum, wEnumA, wRev, wFor, wWhile, wLc, wDc, wYes, wCall, wCallF, wCallK, wCallIo, wIsi, wNeg, wGetN, wGetE, wPop2, wAppend, wStar, seqD, fRepT, wDisp, wpCons, wpNil, keysD, dKey, wExtF, fStrI, wCallM, wCallMF, wmNil, wmD, wmS, wmF, avIx, avSls, avSl, avBack, avSet, wParM, List.nodup_nil, List.nodup_cons, List.mem_cons, List.not_mem_nil, or_false, not_false_eq_true, List.drop_succ_cons, List.drop_zero,  wAug, wRepL, wCatO, wCatF, wKeys, wItemsK, bName, bNames, retD, ctD, vd, itemsD, isDict, List.getElem?_cons_zero, List.getElem?_cons_succ, List.set_cons_zero, List.set_cons_succ, List.cons_append, List.nil_append, List.append_nil, List.replicate_succ, List.replicate_zero, List.map_cons, List.map_nil, List.length_cons, List.length_nil, List.zip_cons_cons, List.zip_nil_right, List.zip_nil_left, List.foldl_cons, List.foldl_nil, wipeE, backE, List.getD_cons_zero, List.getD_cons_succ, outsOf, keepPin, List.range_succ, List.range_zero, exS, at0, at1, at2, at3, at4, ix0, ix1, ix2, if_true, if_false, true_and, and_true, Bool.false_eq_true, reduceCtorEq, eqvI, eqvS, eqvB, scalI, scalS, scalB, true_or, decide_eq_true_eq, Bool.not_true, Bool.not_false, Bool.not_eq_true, isi_none_int, isi_none_bool, isi_none_str, isi_none_tuple, isi_none_list, isi_none_dict, isi_bool_int, isi_bool_bool, isi_bool_str, isi_bool_tuple, isi_bool_list, isi_bool_dict, isi_int_int, isi_int_bool, isi_int_str, isi_int_tuple, isi_int_list, isi_int_dict, isi_str_int, isi_str_bool, isi_str_str, isi_str_tuple, isi_str_list, isi_str_dict, isi_list_int, isi_list_bool, isi_list_str, isi_list_tuple, isi_list_list, isi_list_dict, isi_tuple_int, isi_tuple_bool, isi_tuple_str, isi_tuple_tuple, isi_tuple_list, isi_tuple_dict, isi_dict_int, isi_dict_bool, isi_dict_str, isi_dict_tuple, isi_dict_list, isi_dict_dict]
    exact ⟨by simp, main _⟩
  · simp only [w_core_with_1_e, if_true, wSeq, wNext, wIfS, wBool, wOp, wAt, wPeek, wName, wC, fIx, wChain, wAndT, wOrT, wNotT, wAndV, wOrV, wNotV, wIf, wNil, wCons, wTup, wLst, wDNew, wFz, fI, fI0, fEq, fNe, fIsN, fIsNot, fAdd, fIn, wC1, wC1F, fLen, fTup, fList, fInt, fAbs, wSlT, wSlL, wNoPart, wPart, wDrop, wRet, wRetF, wRetO, wSet, wSetF, wSetT, wPar, wPut, wBreak, wCont, wItems, wRng1, wRng2, wZip, wEnum, wEnumA, wRev, wFor, wWhile, wLc, wDc, wYes, wCall, wCallF, wCallK, wCallIo, wIsi, wNeg, wGetN, wGetE, wPop2, wAppend, wStar, seqD, fRepT, wDisp, wpCons, wpNil, keysD, dKey, wExtF, fStrI, wCallM, wCallMF, wmNil, wmD, wmS, wmF, avIx, avSls, avSl, avBack, avSet, wParM, List.nodup_nil, List.nodup_cons, List.mem_cons, List.not_mem_nil, or_false, not_false_eq_true, List.drop_succ_cons, List.drop_zero,  wAug, wRepL, wCatO, wCatF, wKeys, wItemsK, bName, bNames, retD, ctD, vd, itemsD, isDict, List.getElem?_cons_zero, List.getElem?_cons_succ, List.set_cons_zero, List.set_cons_succ, List.cons_append, List.nil_append, List.append_nil, List.replicate_succ, List.replicate_zero, List.map_cons, List.map_nil, List.length_cons, List.length_nil, List.zip_cons_cons, List.zip_nil_right, List.zip_nil_left, List.foldl_cons, List.foldl_nil, wipeE, backE, List.getD_cons_zero, List.getD_cons_succ, outsOf, keepPin, List.range_succ, List.range_zero, exS, at0, at1, at2, at3, at4, ix0, ix1, ix2, if_true, if_false, true_and, and_true, Bool.false_eq_true, reduceCtorEq, eqvI, eqvS, eqvB, scalI, scalS, scalB, true_or, decide_eq_true_eq, Bool.not_true, Bool.not_false, Bool.not_eq_true, isi_none_int, isi_none_bool, isi_none_str, isi_none_tuple, isi_none_list, isi_none_dict, isi_bool_int, isi_bool_bool, isi_bool_str, isi_bool_tuple, isi_bool_list, isi_bool_dict, isi_int_int, isi_int_bool, isi_int_str, isi_int_tuple, isi_int_list, isi_int_dict, isi_str_int, isi_str_bool, isi_str_str, isi_str_tuple, isi_str_list, isi_str_dict, isi_list_int, isi_list_bool, isi_list_str, isi_list_tuple, isi_list_list, isi_list_dict, isi_tuple_int, isi_tuple_bool, isi_tuple_str, isi_tuple_tuple, isi_tuple_list, isi_tuple_dict, isi_dict_int, isi_dict_bool, isi_dict_str, isi_dict_tuple, isi_dict_list, isi_dict_dict]
    exact ⟨by simp, main _⟩
def sp_with_guest : Spc := fun as R => ∃ (m : Mch) (p : List (Fin 4)) (g : Gst) (r : Cd × (Fin 4 → Gst)), as = [.d (mD m), .d (pathD p), .d (gD g)] ∧ p.length ≤ 12 ∧ withG m.c m.gs p g = some r ∧ R (.fz (mD { m with c := r.1, gs := r.2 })) [.no, .no, .no]
theorem len_with_guest : ∀ as R, sp_with_guest as R → as.length = 3 := fun as R ⟨m, p, g, r, e, _⟩ => by rw [e]; rfl
def w_with_guest_4 : WS := (wRet (wTup (wCons (wName 4) (wCons (wName 3) (wCons (wName 6) (wCons (wName 7) wNil))))))
theorem w_with_guest_4_e (E : VD) (ρ : En) : w_with_guest_4 E ρ = (wRet (wTup (wCons (wName 4) (wCons (wName 3) (wCons (wName 6) (wCons (wName 7) wNil)))))) E ρ := rfl
def w_with_guest_3 : WS := (wSeq (wIfS (wBool (wOp fIsN (wName 3) (wC .none))) wNever wNext)
    w_with_guest_4)
theorem w_with_guest_3_e (E : VD) (ρ : En) : w_with_guest_3 E ρ = (wSeq (wIfS (wBool (wOp fIsN (wName 3) (wC .none))) wNever wNext)
    w_with_guest_4) E ρ := rfl
def w_with_guest_2 : WS := (wSeq (wSet 3 (wCall (sp_core_with 12) (wCons (wName 5) (wCons (wName 1) (wCons (wName 2) wNil)))))
    w_with_guest_3)
theorem w_with_guest_2_e (E : VD) (ρ : En) : w_with_guest_2 E ρ = (wSeq (wSet 3 (wCall (sp_core_with 12) (wCons (wName 5) (wCons (wName 1) (wCons (wName 2) wNil)))))
    w_with_guest_3) E ρ := rfl
def w_with_guest_1 : WS := (wSeq (wSetT [4, 5, 6, 7] (wName 0))
    w_with_guest_2)
theorem w_with_guest_1_e (E : VD) (ρ : En) : w_with_guest_1 E ρ = (wSeq (wSetT [4, 5, 6, 7] (wName 0))
    w_with_guest_2) E ρ := rfl
def w_with_guest_0 : WS := (wSeq (wIfS (wOrT (wNotT (wBool (wCall sp_is_path (wCons (wName 1) wNil)))) (wBool (wOp fEq (wName 1) (wTup wNil)))) wNever wNext)
    w_with_guest_1)
theorem w_with_guest_0_e (E : VD) (ρ : En) : w_with_guest_0 E ρ = (wSeq (wIfS (wOrT (wNotT (wBool (wCall sp_is_path (wCons (wName 1) wNil)))) (wBool (wOp fEq (wName 1) (wTup wNil)))) wNever wNext)
    w_with_guest_1) E ρ := rfl
def w_with_guest : WS := w_with_guest_0
def Bd_with_guest : Prop := Body 3 5 w_with_guest sp_with_guest
theorem shaped_path (p : List (Fin 4)) : SeqAt.shaped (pathD p) = true := by
  have h : PyData.canLayAll0 (p.map numD) = true ∧ PyData.depthAll (p.map numD) = 0 := by
    induction p with
    | nil => exact ⟨rfl, rfl⟩
    | cons x l ih => simp only [List.map_cons, numD, PyData.canLayAll0, PyData.canLay0, PyData.depthAll, PyData.depth, ih.1, ih.2, Bool.and_self]; exact ⟨trivial, rfl⟩
  unfold SeqAt.shaped pathD
  simp only [PyData.canLay0, PyData.depth, h.1, h.2, Bool.true_and]
  exact decide_eq_true (by omega)
theorem body_with_guest : Bd_with_guest := by
  intro as R h
  obtain ⟨m, p, g, r, rfl, hl, hw, k⟩ := h
  unfold w_with_guest
  simp only [w_with_guest_0_e, wSeq, wNext, wIfS, wBool, wOp, wAt, wPeek, wName, wC, fIx, wChain, wAndT, wOrT, wNotT, wAndV, wOrV, wNotV, wIf, wNil, wCons, wTup, wLst, wDNew, wFz, fI, fI0, fEq, fNe, fIsN, fIsNot, fAdd, fIn, wC1, wC1F, fLen, fTup, fList, fInt, fAbs, wSlT, wSlL, wNoPart, wPart, wDrop, wRet, wRetF, wRetO, wSet, wSetF, wSetT, wPar, wPut, wBreak, wCont, wItems, wRng1, wRng2, wZip, wEnum, wEnumA, wRev, wFor, wWhile, wLc, wDc, wYes, wCall, wCallF, wCallK, wCallIo, wIsi, wNeg, wGetN, wGetE, wPop2, wAppend, wStar, seqD, fRepT, wDisp, wpCons, wpNil, keysD, dKey, wExtF, fStrI, wCallM, wCallMF, wmNil, wmD, wmS, wmF, avIx, avSls, avSl, avBack, avSet, wParM, List.nodup_nil, List.nodup_cons, List.mem_cons, List.not_mem_nil, or_false, not_false_eq_true, List.drop_succ_cons, List.drop_zero,  wAug, wRepL, wCatO, wCatF, wKeys, wItemsK, bName, bNames, retD, ctD, vd, itemsD, isDict, List.getElem?_cons_zero, List.getElem?_cons_succ, List.set_cons_zero, List.set_cons_succ, List.cons_append, List.nil_append, List.append_nil, List.replicate_succ, List.replicate_zero, List.map_cons, List.map_nil, List.length_cons, List.length_nil, List.zip_cons_cons, List.zip_nil_right, List.zip_nil_left, List.foldl_cons, List.foldl_nil, wipeE, backE, List.getD_cons_zero, List.getD_cons_succ, outsOf, keepPin, List.range_succ, List.range_zero, exS, at0, at1, at2, at3, at4, ix0, ix1, ix2, if_true, if_false, true_and, and_true, Bool.false_eq_true, reduceCtorEq, eqvI, eqvS, eqvB, scalI, scalS, scalB, true_or, decide_eq_true_eq, Bool.not_true, Bool.not_false, Bool.not_eq_true, isi_none_int, isi_none_bool, isi_none_str, isi_none_tuple, isi_none_list, isi_none_dict, isi_bool_int, isi_bool_bool, isi_bool_str, isi_bool_tuple, isi_bool_list, isi_bool_dict, isi_int_int, isi_int_bool, isi_int_str, isi_int_tuple, isi_int_list, isi_int_dict, isi_str_int, isi_str_bool, isi_str_str, isi_str_tuple, isi_str_list, isi_str_dict, isi_list_int, isi_list_bool, isi_list_str, isi_list_tuple, isi_list_list, isi_list_dict, isi_tuple_int, isi_tuple_bool, isi_tuple_str, isi_tuple_tuple, isi_tuple_list, isi_tuple_dict, isi_dict_int, isi_dict_bool, isi_dict_str, isi_dict_tuple, isi_dict_list, isi_dict_dict]
  refine ⟨_, rfl, by show (p.map numD).length ≤ 100000; rw [List.length_map]; omega, ?_⟩
  rw [path_is]
  simp only [wSeq, wNext, wIfS, wBool, wOp, wAt, wPeek, wName, wC, fIx, wChain, wAndT, wOrT, wNotT, wAndV, wOrV, wNotV, wIf, wNil, wCons, wTup, wLst, wDNew, wFz, fI, fI0, fEq, fNe, fIsN, fIsNot, fAdd, fIn, wC1, wC1F, fLen, fTup, fList, fInt, fAbs, wSlT, wSlL, wNoPart, wPart, wDrop, wRet, wRetF, wRetO, wSet, wSetF, wSetT, wPar, wPut, wBreak, wCont, wItems, wRng1, wRng2, wZip, wEnum, wEnumA, wRev, wFor, wWhile, wLc, wDc, wYes, wCall, wCallF, wCallK, wCallIo, wIsi, wNeg, wGetN, wGetE, wPop2, wAppend, wStar, seqD, fRepT, wDisp, wpCons, wpNil, keysD, dKey, wExtF, fStrI, wCallM, wCallMF, wmNil, wmD, wmS, wmF, avIx, avSls, avSl, avBack, avSet, wParM, List.nodup_nil, List.nodup_cons, List.mem_cons, List.not_mem_nil, or_false, not_false_eq_true, List.drop_succ_cons, List.drop_zero,  wAug, wRepL, wCatO, wCatF, wKeys, wItemsK, bName, bNames, retD, ctD, vd, itemsD, isDict, List.getElem?_cons_zero, List.getElem?_cons_succ, List.set_cons_zero, List.set_cons_succ, List.cons_append, List.nil_append, List.append_nil, List.replicate_succ, List.replicate_zero, List.map_cons, List.map_nil, List.length_cons, List.length_nil, List.zip_cons_cons, List.zip_nil_right, List.zip_nil_left, List.foldl_cons, List.foldl_nil, wipeE, backE, List.getD_cons_zero, List.getD_cons_succ, outsOf, keepPin, List.range_succ, List.range_zero, exS, at0, at1, at2, at3, at4, ix0, ix1, ix2, if_true, if_false, true_and, and_true, Bool.false_eq_true, reduceCtorEq, eqvI, eqvS, eqvB, scalI, scalS, scalB, true_or, decide_eq_true_eq, Bool.not_true, Bool.not_false, Bool.not_eq_true, isi_none_int, isi_none_bool, isi_none_str, isi_none_tuple, isi_none_list, isi_none_dict, isi_bool_int, isi_bool_bool, isi_bool_str, isi_bool_tuple, isi_bool_list, isi_bool_dict, isi_int_int, isi_int_bool, isi_int_str, isi_int_tuple, isi_int_list, isi_int_dict, isi_str_int, isi_str_bool, isi_str_str, isi_str_tuple, isi_str_list, isi_str_dict, isi_list_int, isi_list_bool, isi_list_str, isi_list_tuple, isi_list_list, isi_list_dict, isi_tuple_int, isi_tuple_bool, isi_tuple_str, isi_tuple_tuple, isi_tuple_list, isi_tuple_dict, isi_dict_int, isi_dict_bool, isi_dict_str, isi_dict_tuple, isi_dict_list, isi_dict_dict]
  have hp : p ≠ [] := fun z => by rw [z] at hw; cases hw
  refine ⟨by decide, .inr ⟨shaped_path p, by decide +kernel⟩, iteN ?_ ?_⟩
  · cases p with
    | nil => exact absurd rfl hp
    | cons j p => simp [pathD, PyData.eqv, PyData.eqvAll]
  simp only [w_with_guest_1_e, mD, wSeq, wNext, wIfS, wBool, wOp, wAt, wPeek, wName, wC, fIx, wChain, wAndT, wOrT, wNotT, wAndV, wOrV, wNotV, wIf, wNil, wCons, wTup, wLst, wDNew, wFz, fI, fI0, fEq, fNe, fIsN, fIsNot, fAdd, fIn, wC1, wC1F, fLen, fTup, fList, fInt, fAbs, wSlT, wSlL, wNoPart, wPart, wDrop, wRet, wRetF, wRetO, wSet, wSetF, wSetT, wPar, wPut, wBreak, wCont, wItems, wRng1, wRng2, wZip, wEnum, wEnumA, wRev, wFor, wWhile, wLc, wDc, wYes, wCall, wCallF, wCallK, wCallIo, wIsi, wNeg, wGetN, wGetE, wPop2, wAppend, wStar, seqD, fRepT, wDisp, wpCons, wpNil, keysD, dKey, wExtF, fStrI, wCallM, wCallMF, wmNil, wmD, wmS, wmF, avIx, avSls, avSl, avBack, avSet, wParM, List.nodup_nil, List.nodup_cons, List.mem_cons, List.not_mem_nil, or_false, not_false_eq_true, List.drop_succ_cons, List.drop_zero,  wAug, wRepL, wCatO, wCatF, wKeys, wItemsK, bName, bNames, retD, ctD, vd, itemsD, isDict, List.getElem?_cons_zero, List.getElem?_cons_succ, List.set_cons_zero, List.set_cons_succ, List.cons_append, List.nil_append, List.append_nil, List.replicate_succ, List.replicate_zero, List.map_cons, List.map_nil, List.length_cons, List.length_nil, List.zip_cons_cons, List.zip_nil_right, List.zip_nil_left, List.foldl_cons, List.foldl_nil, wipeE, backE, List.getD_cons_zero, List.getD_cons_succ, outsOf, keepPin, List.range_succ, List.range_zero, exS, at0, at1, at2, at3, at4, ix0, ix1, ix2, if_true, if_false, true_and, and_true, Bool.false_eq_true, reduceCtorEq, eqvI, eqvS, eqvB, scalI, scalS, scalB, true_or, decide_eq_true_eq, Bool.not_true, Bool.not_false, Bool.not_eq_true, isi_none_int, isi_none_bool, isi_none_str, isi_none_tuple, isi_none_list, isi_none_dict, isi_bool_int, isi_bool_bool, isi_bool_str, isi_bool_tuple, isi_bool_list, isi_bool_dict, isi_int_int, isi_int_bool, isi_int_str, isi_int_tuple, isi_int_list, isi_int_dict, isi_str_int, isi_str_bool, isi_str_str, isi_str_tuple, isi_str_list, isi_str_dict, isi_list_int, isi_list_bool, isi_list_str, isi_list_tuple, isi_list_list, isi_list_dict, isi_tuple_int, isi_tuple_bool, isi_tuple_str, isi_tuple_tuple, isi_tuple_list, isi_tuple_dict, isi_dict_int, isi_dict_bool, isi_dict_str, isi_dict_tuple, isi_dict_list, isi_dict_dict]
  simp only [w_with_guest_2_e, wSeq, wNext, wIfS, wBool, wOp, wAt, wPeek, wName, wC, fIx, wChain, wAndT, wOrT, wNotT, wAndV, wOrV, wNotV, wIf, wNil, wCons, wTup, wLst, wDNew, wFz, fI, fI0, fEq, fNe, fIsN, fIsNot, fAdd, fIn, wC1, wC1F, fLen, fTup, fList, fInt, fAbs, wSlT, wSlL, wNoPart, wPart, wDrop, wRet, wRetF, wRetO, wSet, wSetF, wSetT, wPar, wPut, wBreak, wCont, wItems, wRng1, wRng2, wZip, wEnum, wEnumA, wRev, wFor, wWhile, wLc, wDc, wYes, wCall, wCallF, wCallK, wCallIo, wIsi, wNeg, wGetN, wGetE, wPop2, wAppend, wStar, seqD, fRepT, wDisp, wpCons, wpNil, keysD, dKey, wExtF, fStrI, wCallM, wCallMF, wmNil, wmD, wmS, wmF, avIx, avSls, avSl, avBack, avSet, wParM, List.nodup_nil, List.nodup_cons, List.mem_cons, List.not_mem_nil, or_false, not_false_eq_true, List.drop_succ_cons, List.drop_zero,  wAug, wRepL, wCatO, wCatF, wKeys, wItemsK, bName, bNames, retD, ctD, vd, itemsD, isDict, List.getElem?_cons_zero, List.getElem?_cons_succ, List.set_cons_zero, List.set_cons_succ, List.cons_append, List.nil_append, List.append_nil, List.replicate_succ, List.replicate_zero, List.map_cons, List.map_nil, List.length_cons, List.length_nil, List.zip_cons_cons, List.zip_nil_right, List.zip_nil_left, List.foldl_cons, List.foldl_nil, wipeE, backE, List.getD_cons_zero, List.getD_cons_succ, outsOf, keepPin, List.range_succ, List.range_zero, exS, at0, at1, at2, at3, at4, ix0, ix1, ix2, if_true, if_false, true_and, and_true, Bool.false_eq_true, reduceCtorEq, eqvI, eqvS, eqvB, scalI, scalS, scalB, true_or, decide_eq_true_eq, Bool.not_true, Bool.not_false, Bool.not_eq_true, isi_none_int, isi_none_bool, isi_none_str, isi_none_tuple, isi_none_list, isi_none_dict, isi_bool_int, isi_bool_bool, isi_bool_str, isi_bool_tuple, isi_bool_list, isi_bool_dict, isi_int_int, isi_int_bool, isi_int_str, isi_int_tuple, isi_int_list, isi_int_dict, isi_str_int, isi_str_bool, isi_str_str, isi_str_tuple, isi_str_list, isi_str_dict, isi_list_int, isi_list_bool, isi_list_str, isi_list_tuple, isi_list_list, isi_list_dict, isi_tuple_int, isi_tuple_bool, isi_tuple_str, isi_tuple_tuple, isi_tuple_list, isi_tuple_dict, isi_dict_int, isi_dict_bool, isi_dict_str, isi_dict_tuple, isi_dict_list, isi_dict_dict]
  refine ⟨m.c, m.gs, p, g, true, rfl, hp, hl, by omega, ?_⟩
  rw [hw]
  simp only [w_with_guest_3_e, wSeq, wNext, wIfS, wBool, wOp, wAt, wPeek, wName, wC, fIx, wChain, wAndT, wOrT, wNotT, wAndV, wOrV, wNotV, wIf, wNil, wCons, wTup, wLst, wDNew, wFz, fI, fI0, fEq, fNe, fIsN, fIsNot, fAdd, fIn, wC1, wC1F, fLen, fTup, fList, fInt, fAbs, wSlT, wSlL, wNoPart, wPart, wDrop, wRet, wRetF, wRetO, wSet, wSetF, wSetT, wPar, wPut, wBreak, wCont, wItems, wRng1, wRng2, wZip, wEnum, wEnumA, wRev, wFor, wWhile, wLc, wDc, wYes, wCall, wCallF, wCallK, wCallIo, wIsi, wNeg, wGetN, wGetE, wPop2, wAppend, wStar, seqD, fRepT, wDisp, wpCons, wpNil, keysD, dKey, wExtF, fStrI, wCallM, wCallMF, wmNil, wmD, wmS, wmF, avIx, avSls, avSl, avBack, avSet, wParM, List.nodup_nil, List.nodup_cons, List.mem_cons, List.not_mem_nil, or_false, not_false_eq_true, List.drop_succ_cons, List.drop_zero,  wAug, wRepL, wCatO, wCatF, wKeys, wItemsK, bName, bNames, retD, ctD, vd, itemsD, isDict, List.getElem?_cons_zero, List.getElem?_cons_succ, List.set_cons_zero, List.set_cons_succ, List.cons_append, List.nil_append, List.append_nil, List.replicate_succ, List.replicate_zero, List.map_cons, List.map_nil, List.length_cons, List.length_nil, List.zip_cons_cons, List.zip_nil_right, List.zip_nil_left, List.foldl_cons, List.foldl_nil, wipeE, backE, List.getD_cons_zero, List.getD_cons_succ, outsOf, keepPin, List.range_succ, List.range_zero, exS, at0, at1, at2, at3, at4, ix0, ix1, ix2, if_true, if_false, true_and, and_true, Bool.false_eq_true, reduceCtorEq, eqvI, eqvS, eqvB, scalI, scalS, scalB, true_or, decide_eq_true_eq, Bool.not_true, Bool.not_false, Bool.not_eq_true, isi_none_int, isi_none_bool, isi_none_str, isi_none_tuple, isi_none_list, isi_none_dict, isi_bool_int, isi_bool_bool, isi_bool_str, isi_bool_tuple, isi_bool_list, isi_bool_dict, isi_int_int, isi_int_bool, isi_int_str, isi_int_tuple, isi_int_list, isi_int_dict, isi_str_int, isi_str_bool, isi_str_str, isi_str_tuple, isi_str_list, isi_str_dict, isi_list_int, isi_list_bool, isi_list_str, isi_list_tuple, isi_list_list, isi_list_dict, isi_tuple_int, isi_tuple_bool, isi_tuple_str, isi_tuple_tuple, isi_tuple_list, isi_tuple_dict, isi_dict_int, isi_dict_bool, isi_dict_str, isi_dict_tuple, isi_dict_list, isi_dict_dict]
  refine iteN (by simp [resD, coreD, isNone]) ?_
  simp only [w_with_guest_4_e, wSeq, wNext, wIfS, wBool, wOp, wAt, wPeek, wName, wC, fIx, wChain, wAndT, wOrT, wNotT, wAndV, wOrV, wNotV, wIf, wNil, wCons, wTup, wLst, wDNew, wFz, fI, fI0, fEq, fNe, fIsN, fIsNot, fAdd, fIn, wC1, wC1F, fLen, fTup, fList, fInt, fAbs, wSlT, wSlL, wNoPart, wPart, wDrop, wRet, wRetF, wRetO, wSet, wSetF, wSetT, wPar, wPut, wBreak, wCont, wItems, wRng1, wRng2, wZip, wEnum, wEnumA, wRev, wFor, wWhile, wLc, wDc, wYes, wCall, wCallF, wCallK, wCallIo, wIsi, wNeg, wGetN, wGetE, wPop2, wAppend, wStar, seqD, fRepT, wDisp, wpCons, wpNil, keysD, dKey, wExtF, fStrI, wCallM, wCallMF, wmNil, wmD, wmS, wmF, avIx, avSls, avSl, avBack, avSet, wParM, List.nodup_nil, List.nodup_cons, List.mem_cons, List.not_mem_nil, or_false, not_false_eq_true, List.drop_succ_cons, List.drop_zero,  wAug, wRepL, wCatO, wCatF, wKeys, wItemsK, bName, bNames, retD, ctD, vd, itemsD, isDict, List.getElem?_cons_zero, List.getElem?_cons_succ, List.set_cons_zero, List.set_cons_succ, List.cons_append, List.nil_append, List.append_nil, List.replicate_succ, List.replicate_zero, List.map_cons, List.map_nil, List.length_cons, List.length_nil, List.zip_cons_cons, List.zip_nil_right, List.zip_nil_left, List.foldl_cons, List.foldl_nil, wipeE, backE, List.getD_cons_zero, List.getD_cons_succ, outsOf, keepPin, List.range_succ, List.range_zero, exS, at0, at1, at2, at3, at4, ix0, ix1, ix2, if_true, if_false, true_and, and_true, Bool.false_eq_true, reduceCtorEq, eqvI, eqvS, eqvB, scalI, scalS, scalB, true_or, decide_eq_true_eq, Bool.not_true, Bool.not_false, Bool.not_eq_true, isi_none_int, isi_none_bool, isi_none_str, isi_none_tuple, isi_none_list, isi_none_dict, isi_bool_int, isi_bool_bool, isi_bool_str, isi_bool_tuple, isi_bool_list, isi_bool_dict, isi_int_int, isi_int_bool, isi_int_str, isi_int_tuple, isi_int_list, isi_int_dict, isi_str_int, isi_str_bool, isi_str_str, isi_str_tuple, isi_str_list, isi_str_dict, isi_list_int, isi_list_bool, isi_list_str, isi_list_tuple, isi_list_list, isi_list_dict, isi_tuple_int, isi_tuple_bool, isi_tuple_str, isi_tuple_tuple, isi_tuple_list, isi_tuple_dict, isi_dict_int, isi_dict_bool, isi_dict_str, isi_dict_tuple, isi_dict_list, isi_dict_dict]
  exact ⟨by decide, k⟩
/-- a guest on the path of the one that runs taken -/
theorem with_taken : ∀ (a : Nat) {n : Nat} {c : Cd} {gs : Fin 4 → Gst}, c.Ok gs → (∀ k, (gs k).Ok) → (∀ k, (gs k).Le n) → a < (inC c gs).length →
    ∃ r, withG c gs ((inC c gs).take (a + 1)) .no = some r ∧ inC r.1 r.2 = (inC c gs).take a ∧ r.1.Ok r.2 ∧ (∀ k, (r.2 k).Ok) ∧ (∀ k, (r.2 k).Le n) ∧ tot r.2 ≤ tot gs ∧ r.1.regs = c.regs := by
  intro a
  induction a with
  | zero =>
    intro n c gs ok oks les ha
    rcases in_cases ok with ⟨_, e⟩ | ⟨k, c', gs', t, w, f, h, e, e2⟩
    · rw [e] at ha; simp at ha
    · rw [e2]
      simp only [List.take_succ_cons, List.take_zero, withG]
      have hc : (isNone (gD .no) = true ∧ c.ins = some k.val) := ⟨rfl, h⟩
      rw [if_pos hc]
      refine ⟨_, rfl, by unfold inC; rfl, ⟨ok.rl, ok.rw, ok.pw, ok.c0, ok.c1, fun j z => nomatch z⟩, fun i => ?_, fun i => ?_, ?_, rfl⟩
      · show (putG gs k.val .no i).Ok
        unfold putG; split
        · trivial
        · exact oks i
      · show ((putG gs k.val .no) i).Le n
        unfold putG; split
        · exact (show Gst.Le n .no by unfold Gst.Le; trivial)
        · exact les i
      · have := tot_putG gs k.isLt .no
        have := gsz_ge (gs ⟨k.val, k.isLt⟩)
        have e : gsz .no = 4 := rfl
        show tot (putG gs k.val .no) ≤ tot gs
        omega
  | succ a ih =>
    intro n c gs ok oks les ha
    rcases in_cases ok with ⟨_, e⟩ | ⟨k, c', gs', t, w, f, h, e, e2⟩
    · rw [e] at ha; simp at ha
    · have o := oks k
      have l := les k
      rw [e] at o l
      cases n with
      | zero => exact l.elim
      | succ n =>
      rw [e2] at ha ⊢
      have ha' : a < (inC c' gs').length := by simpa using ha
      obtain ⟨r, h1, h2, h3, h4, h5, h6, h7⟩ := ih o.1 o.2.2.2 l ha'
      have e3 : ∃ j2 p, (inC c' gs').take (a + 1) = j2 :: p := by
        cases q : inC c' gs' with
        | nil => rw [q] at ha'; simp at ha'
        | cons j2 p => exact ⟨j2, p.take a, by simp⟩
      obtain ⟨j2, p, e3⟩ := e3
      rw [e3] at h1
      refine ⟨(c, putG gs k.val (.mk r.1 r.2 t w f)), ?_, ?_, ?_, ?_, ?_, ?_, rfl⟩
      · rw [List.take_succ_cons, e3]
        unfold withG
        rw [e]
        simp only [h1, Option.map_some]
      · rw [List.take_succ_cons, ← h2]
        unfold inC
        simp only [h, k.isLt, dif_pos]
        have : putG gs k.val (.mk r.1 r.2 t w f) ⟨k.val, k.isLt⟩ = .mk r.1 r.2 t w f := putG_at gs k.isLt _
        rw [this, inG_mk]
        rfl
      · refine ⟨ok.rl, ok.rw, ok.pw, ok.c0, ok.c1, fun j z => ?_⟩
        obtain ⟨hj, hn⟩ := ok.ins j z
        refine ⟨hj, ?_⟩
        show putG gs k.val (.mk r.1 r.2 t w f) ⟨j, hj⟩ ≠ .no
        unfold putG; split
        · exact fun z => nomatch z
        · exact hn
      · intro i
        show (putG gs k.val (.mk r.1 r.2 t w f) i).Ok
        unfold putG; split
        · exact ⟨h3, o.2.1, o.2.2.1, h4⟩
        · exact oks i
      · intro i
        show (putG gs k.val (.mk r.1 r.2 t w f) i).Le (n + 1)
        unfold putG; split
        · exact h5
        · exact les i
      · have q := tot_putG gs k.isLt (.mk r.1 r.2 t w f)
        have ej : (⟨k.val, k.isLt⟩ : Fin 4) = k := rfl
        rw [ej, e, gsz_mk, gsz_mk] at q
        show tot (putG gs k.val (.mk r.1 r.2 t w f)) ≤ tot gs
        omega

end K23

namespace K23
open PySem PySem.Spec PyProof.Rows L2 G
def sp__law_inner : Spc := fun as R => ∃ (c : Cd) (gs : Fin 4 → Gst) (n : Nat), as = [.d (coreD c gs)] ∧ c.Ok gs ∧ (∀ k, (gs k).Ok) ∧ (∀ k, (gs k).Le n) ∧ n ≤ 1000 ∧ R (.fz (pathD (inC c gs))) [.no]
theorem len__law_inner : ∀ as R, sp__law_inner as R → as.length = 1 := fun as R ⟨c, gs, n, e, _⟩ => by rw [e]; rfl
def w__law_inner_L1_1 : WS := (wSet 0 (wOp fIx (wOp fIx (wAt 0 fIx (wC (.int 3))) (wAt 0 fIx (wC (.int 4)))) (wC (.int 0))))
theorem w__law_inner_L1_1_e (E : VD) (ρ : En) : w__law_inner_L1_1 E ρ = (wSet 0 (wOp fIx (wOp fIx (wAt 0 fIx (wC (.int 3))) (wAt 0 fIx (wC (.int 4)))) (wC (.int 0)))) E ρ := rfl
def w__law_inner_L1_0 : WS := (wSeq (wDrop (wAppend 1 (wAt 0 fIx (wC (.int 4)))))
    w__law_inner_L1_1)
theorem w__law_inner_L1_0_e (E : VD) (ρ : En) : w__law_inner_L1_0 E ρ = (wSeq (wDrop (wAppend 1 (wAt 0 fIx (wC (.int 4)))))
    w__law_inner_L1_1) E ρ := rfl
def w__law_inner_2 : WS := (wRet (wC1 fTup (wPeek 1)))
theorem w__law_inner_2_e (E : VD) (ρ : En) : w__law_inner_2 E ρ = (wRet (wC1 fTup (wPeek 1))) E ρ := rfl
def w__law_inner_1 : WS := (wSeq (wWhile (wBool (wOp fIsNot (wAt 0 fIx (wC (.int 4))) (wC .none))) w__law_inner_L1_0)
    w__law_inner_2)
theorem w__law_inner_1_e (E : VD) (ρ : En) : w__law_inner_1 E ρ = (wSeq (wWhile (wBool (wOp fIsNot (wAt 0 fIx (wC (.int 4))) (wC .none))) w__law_inner_L1_0)
    w__law_inner_2) E ρ := rfl
def w__law_inner_0 : WS := (wSeq (wSetF 1 (wLst wNil))
    w__law_inner_1)
theorem w__law_inner_0_e (E : VD) (ρ : En) : w__law_inner_0 E ρ = (wSeq (wSetF 1 (wLst wNil))
    w__law_inner_1) E ρ := rfl
def w__law_inner : WS := w__law_inner_0
def Bd__law_inner : Prop := Body 1 1 w__law_inner sp__law_inner
theorem inner_loop {E : VD} {L : List (Fin 4)} : ∀ (n : Nat) (c : Cd) (gs : Fin 4 → Gst) (acc : List (Fin 4)), c.Ok gs → (∀ k, (gs k).Ok) → (∀ k, (gs k).Le n) → acc.length + n ≤ 1000 → acc ++ inC c gs = L →
    (∀ (x : D), E.nx [.d x, .o false (.l (L.map numD))]) →
    wWhN (wBool (wOp fIsNot (wAt 0 fIx (wC (.int 4))) (wC .none))) w__law_inner_L1_0 E n [.d (coreD c gs), .o false (.l (acc.map numD))]
  | 0, c, gs, acc, ok, oks, les, hl, e, k => by
    rcases in_cases ok with ⟨h, e2⟩ | ⟨j, c', gs', t, w, f, _, e2, _⟩
    · unfold wWhN
      simp only [coreD, wSeq, wNext, wIfS, wBool, wOp, wAt, wPeek, wName, wC, fIx, wChain, wAndT, wOrT, wNotT, wAndV, wOrV, wNotV, wIf, wNil, wCons, wTup, wLst, wDNew, wFz, fI, fI0, fEq, fNe, fIsN, fIsNot, fAdd, fIn, wC1, wC1F, fLen, fTup, fList, fInt, fAbs, wSlT, wSlL, wNoPart, wPart, wDrop, wRet, wRetF, wRetO, wSet, wSetF, wSetT, wPar, wPut, wBreak, wCont, wItems, wRng1, wRng2, wZip, wEnum, wEnumA, wRev, wFor, wWhile, wLc, wDc, wYes, wCall, wCallF, wCallK, wCallIo, wIsi, wNeg, wGetN, wGetE, wPop2, wAppend, wStar, seqD, fRepT, wDisp, wpCons, wpNil, keysD, dKey, wExtF, fStrI, wCallM, wCallMF, wmNil, wmD, wmS, wmF, avIx, avSls, avSl, avBack, avSet, wParM, List.nodup_nil, List.nodup_cons, List.mem_cons, List.not_mem_nil, or_false, not_false_eq_true, List.drop_succ_cons, List.drop_zero,  wAug, wRepL, wCatO, wCatF, wKeys, wItemsK, bName, bNames, retD, ctD, vd, itemsD, isDict, List.getElem?_cons_zero, List.getElem?_cons_succ, List.set_cons_zero, List.set_cons_succ, List.cons_append, List.nil_append, List.append_nil, List.replicate_succ, List.replicate_zero, List.map_cons, List.map_nil, List.length_cons, List.length_nil, List.zip_cons_cons, List.zip_nil_right, List.zip_nil_left, List.foldl_cons, List.foldl_nil, wipeE, backE, List.getD_cons_zero, List.getD_cons_succ, outsOf, keepPin, List.range_succ, List.range_zero, exS, at0, at1, at2, at3, at4, ix0, ix1, ix2, if_true, if_false, true_and, and_true, Bool.false_eq_true, reduceCtorEq, eqvI, eqvS, eqvB, scalI, scalS, scalB, true_or, decide_eq_true_eq, Bool.not_true, Bool.not_false, Bool.not_eq_true, isi_none_int, isi_none_bool, isi_none_str, isi_none_tuple, isi_none_list, isi_none_dict, isi_bool_int, isi_bool_bool, isi_bool_str, isi_bool_tuple, isi_bool_list, isi_bool_dict, isi_int_int, isi_int_bool, isi_int_str, isi_int_tuple, isi_int_list, isi_int_dict, isi_str_int, isi_str_bool, isi_str_str, isi_str_tuple, isi_str_list, isi_str_dict, isi_list_int, isi_list_bool, isi_list_str, isi_list_tuple, isi_list_list, isi_list_dict, isi_tuple_int, isi_tuple_bool, isi_tuple_str, isi_tuple_tuple, isi_tuple_list, isi_tuple_dict, isi_dict_int, isi_dict_bool, isi_dict_str, isi_dict_tuple, isi_dict_list, isi_dict_dict]
      refine iteN (by simp [h, insD, isNone]) ?_
      rw [e2, List.append_nil] at e
      subst e
      exact k _
    · have := les j; rw [e2] at this; exact this.elim
  | n + 1, c, gs, acc, ok, oks, les, hl, e, k => by
    unfold wWhN
    simp only [coreD, wSeq, wNext, wIfS, wBool, wOp, wAt, wPeek, wName, wC, fIx, wChain, wAndT, wOrT, wNotT, wAndV, wOrV, wNotV, wIf, wNil, wCons, wTup, wLst, wDNew, wFz, fI, fI0, fEq, fNe, fIsN, fIsNot, fAdd, fIn, wC1, wC1F, fLen, fTup, fList, fInt, fAbs, wSlT, wSlL, wNoPart, wPart, wDrop, wRet, wRetF, wRetO, wSet, wSetF, wSetT, wPar, wPut, wBreak, wCont, wItems, wRng1, wRng2, wZip, wEnum, wEnumA, wRev, wFor, wWhile, wLc, wDc, wYes, wCall, wCallF, wCallK, wCallIo, wIsi, wNeg, wGetN, wGetE, wPop2, wAppend, wStar, seqD, fRepT, wDisp, wpCons, wpNil, keysD, dKey, wExtF, fStrI, wCallM, wCallMF, wmNil, wmD, wmS, wmF, avIx, avSls, avSl, avBack, avSet, wParM, List.nodup_nil, List.nodup_cons, List.mem_cons, List.not_mem_nil, or_false, not_false_eq_true, List.drop_succ_cons, List.drop_zero,  wAug, wRepL, wCatO, wCatF, wKeys, wItemsK, bName, bNames, retD, ctD, vd, itemsD, isDict, List.getElem?_cons_zero, List.getElem?_cons_succ, List.set_cons_zero, List.set_cons_succ, List.cons_append, List.nil_append, List.append_nil, List.replicate_succ, List.replicate_zero, List.map_cons, List.map_nil, List.length_cons, List.length_nil, List.zip_cons_cons, List.zip_nil_right, List.zip_nil_left, List.foldl_cons, List.foldl_nil, wipeE, backE, List.getD_cons_zero, List.getD_cons_succ, outsOf, keepPin, List.range_succ, List.range_zero, exS, at0, at1, at2, at3, at4, ix0, ix1, ix2, if_true, if_false, true_and, and_true, Bool.false_eq_true, reduceCtorEq, eqvI, eqvS, eqvB, scalI, scalS, scalB, true_or, decide_eq_true_eq, Bool.not_true, Bool.not_false, Bool.not_eq_true, isi_none_int, isi_none_bool, isi_none_str, isi_none_tuple, isi_none_list, isi_none_dict, isi_bool_int, isi_bool_bool, isi_bool_str, isi_bool_tuple, isi_bool_list, isi_bool_dict, isi_int_int, isi_int_bool, isi_int_str, isi_int_tuple, isi_int_list, isi_int_dict, isi_str_int, isi_str_bool, isi_str_str, isi_str_tuple, isi_str_list, isi_str_dict, isi_list_int, isi_list_bool, isi_list_str, isi_list_tuple, isi_list_list, isi_list_dict, isi_tuple_int, isi_tuple_bool, isi_tuple_str, isi_tuple_tuple, isi_tuple_list, isi_tuple_dict, isi_dict_int, isi_dict_bool, isi_dict_str, isi_dict_tuple, isi_dict_list, isi_dict_dict]
    rcases in_cases ok with ⟨h, e2⟩ | ⟨j, c', gs', t, w, f, h, e2, e3⟩
    · refine iteN (by simp [h, insD, isNone]) ?_
      rw [e2, List.append_nil] at e
      subst e
      exact k _
    · refine iteY (by simp [h, insD, isNone]) ?_
      have l := les j
      have o := oks j
      rw [e2] at l o
      simp only [w__law_inner_L1_0_e, wSeq, wNext, wIfS, wBool, wOp, wAt, wPeek, wName, wC, fIx, wChain, wAndT, wOrT, wNotT, wAndV, wOrV, wNotV, wIf, wNil, wCons, wTup, wLst, wDNew, wFz, fI, fI0, fEq, fNe, fIsN, fIsNot, fAdd, fIn, wC1, wC1F, fLen, fTup, fList, fInt, fAbs, wSlT, wSlL, wNoPart, wPart, wDrop, wRet, wRetF, wRetO, wSet, wSetF, wSetT, wPar, wPut, wBreak, wCont, wItems, wRng1, wRng2, wZip, wEnum, wEnumA, wRev, wFor, wWhile, wLc, wDc, wYes, wCall, wCallF, wCallK, wCallIo, wIsi, wNeg, wGetN, wGetE, wPop2, wAppend, wStar, seqD, fRepT, wDisp, wpCons, wpNil, keysD, dKey, wExtF, fStrI, wCallM, wCallMF, wmNil, wmD, wmS, wmF, avIx, avSls, avSl, avBack, avSet, wParM, List.nodup_nil, List.nodup_cons, List.mem_cons, List.not_mem_nil, or_false, not_false_eq_true, List.drop_succ_cons, List.drop_zero,  wAug, wRepL, wCatO, wCatF, wKeys, wItemsK, bName, bNames, retD, ctD, vd, itemsD, isDict, List.getElem?_cons_zero, List.getElem?_cons_succ, List.set_cons_zero, List.set_cons_succ, List.cons_append, List.nil_append, List.append_nil, List.replicate_succ, List.replicate_zero, List.map_cons, List.map_nil, List.length_cons, List.length_nil, List.zip_cons_cons, List.zip_nil_right, List.zip_nil_left, List.foldl_cons, List.foldl_nil, wipeE, backE, List.getD_cons_zero, List.getD_cons_succ, outsOf, keepPin, List.range_succ, List.range_zero, exS, at0, at1, at2, at3, at4, ix0, ix1, ix2, if_true, if_false, true_and, and_true, Bool.false_eq_true, reduceCtorEq, eqvI, eqvS, eqvB, scalI, scalS, scalB, true_or, decide_eq_true_eq, Bool.not_true, Bool.not_false, Bool.not_eq_true, isi_none_int, isi_none_bool, isi_none_str, isi_none_tuple, isi_none_list, isi_none_dict, isi_bool_int, isi_bool_bool, isi_bool_str, isi_bool_tuple, isi_bool_list, isi_bool_dict, isi_int_int, isi_int_bool, isi_int_str, isi_int_tuple, isi_int_list, isi_int_dict, isi_str_int, isi_str_bool, isi_str_str, isi_str_tuple, isi_str_list, isi_str_dict, isi_list_int, isi_list_bool, isi_list_str, isi_list_tuple, isi_list_list, isi_list_dict, isi_tuple_int, isi_tuple_bool, isi_tuple_str, isi_tuple_tuple, isi_tuple_list, isi_tuple_dict, isi_dict_int, isi_dict_bool, isi_dict_str, isi_dict_tuple, isi_dict_list, isi_dict_dict]
      refine ⟨small_lt2 (by simp; omega), ?_⟩
      simp only [w__law_inner_L1_1_e, h, num_ins, numD, wSeq, wNext, wIfS, wBool, wOp, wAt, wPeek, wName, wC, fIx, wChain, wAndT, wOrT, wNotT, wAndV, wOrV, wNotV, wIf, wNil, wCons, wTup, wLst, wDNew, wFz, fI, fI0, fEq, fNe, fIsN, fIsNot, fAdd, fIn, wC1, wC1F, fLen, fTup, fList, fInt, fAbs, wSlT, wSlL, wNoPart, wPart, wDrop, wRet, wRetF, wRetO, wSet, wSetF, wSetT, wPar, wPut, wBreak, wCont, wItems, wRng1, wRng2, wZip, wEnum, wEnumA, wRev, wFor, wWhile, wLc, wDc, wYes, wCall, wCallF, wCallK, wCallIo, wIsi, wNeg, wGetN, wGetE, wPop2, wAppend, wStar, seqD, fRepT, wDisp, wpCons, wpNil, keysD, dKey, wExtF, fStrI, wCallM, wCallMF, wmNil, wmD, wmS, wmF, avIx, avSls, avSl, avBack, avSet, wParM, List.nodup_nil, List.nodup_cons, List.mem_cons, List.not_mem_nil, or_false, not_false_eq_true, List.drop_succ_cons, List.drop_zero,  wAug, wRepL, wCatO, wCatF, wKeys, wItemsK, bName, bNames, retD, ctD, vd, itemsD, isDict, List.getElem?_cons_zero, List.getElem?_cons_succ, List.set_cons_zero, List.set_cons_succ, List.cons_append, List.nil_append, List.append_nil, List.replicate_succ, List.replicate_zero, List.map_cons, List.map_nil, List.length_cons, List.length_nil, List.zip_cons_cons, List.zip_nil_right, List.zip_nil_left, List.foldl_cons, List.foldl_nil, wipeE, backE, List.getD_cons_zero, List.getD_cons_succ, outsOf, keepPin, List.range_succ, List.range_zero, exS, at0, at1, at2, at3, at4, ix0, ix1, ix2, if_true, if_false, true_and, and_true, Bool.false_eq_true, reduceCtorEq, eqvI, eqvS, eqvB, scalI, scalS, scalB, true_or, decide_eq_true_eq, Bool.not_true, Bool.not_false, Bool.not_eq_true, isi_none_int, isi_none_bool, isi_none_str, isi_none_tuple, isi_none_list, isi_none_dict, isi_bool_int, isi_bool_bool, isi_bool_str, isi_bool_tuple, isi_bool_list, isi_bool_dict, isi_int_int, isi_int_bool, isi_int_str, isi_int_tuple, isi_int_list, isi_int_dict, isi_str_int, isi_str_bool, isi_str_str, isi_str_tuple, isi_str_list, isi_str_dict, isi_list_int, isi_list_bool, isi_list_str, isi_list_tuple, isi_list_list, isi_list_dict, isi_tuple_int, isi_tuple_bool, isi_tuple_str, isi_tuple_tuple, isi_tuple_list, isi_tuple_dict, isi_dict_int, isi_dict_bool, isi_dict_str, isi_dict_tuple, isi_dict_list, isi_dict_dict]
      refine ⟨_, at_gs gs j.isLt, ?_⟩
      have ej : (⟨j.val, j.isLt⟩ : Fin 4) = j := rfl
      rw [ej, e2]
      simp only [gD_mk, wSeq, wNext, wIfS, wBool, wOp, wAt, wPeek, wName, wC, fIx, wChain, wAndT, wOrT, wNotT, wAndV, wOrV, wNotV, wIf, wNil, wCons, wTup, wLst, wDNew, wFz, fI, fI0, fEq, fNe, fIsN, fIsNot, fAdd, fIn, wC1, wC1F, fLen, fTup, fList, fInt, fAbs, wSlT, wSlL, wNoPart, wPart, wDrop, wRet, wRetF, wRetO, wSet, wSetF, wSetT, wPar, wPut, wBreak, wCont, wItems, wRng1, wRng2, wZip, wEnum, wEnumA, wRev, wFor, wWhile, wLc, wDc, wYes, wCall, wCallF, wCallK, wCallIo, wIsi, wNeg, wGetN, wGetE, wPop2, wAppend, wStar, seqD, fRepT, wDisp, wpCons, wpNil, keysD, dKey, wExtF, fStrI, wCallM, wCallMF, wmNil, wmD, wmS, wmF, avIx, avSls, avSl, avBack, avSet, wParM, List.nodup_nil, List.nodup_cons, List.mem_cons, List.not_mem_nil, or_false, not_false_eq_true, List.drop_succ_cons, List.drop_zero,  wAug, wRepL, wCatO, wCatF, wKeys, wItemsK, bName, bNames, retD, ctD, vd, itemsD, isDict, List.getElem?_cons_zero, List.getElem?_cons_succ, List.set_cons_zero, List.set_cons_succ, List.cons_append, List.nil_append, List.append_nil, List.replicate_succ, List.replicate_zero, List.map_cons, List.map_nil, List.length_cons, List.length_nil, List.zip_cons_cons, List.zip_nil_right, List.zip_nil_left, List.foldl_cons, List.foldl_nil, wipeE, backE, List.getD_cons_zero, List.getD_cons_succ, outsOf, keepPin, List.range_succ, List.range_zero, exS, at0, at1, at2, at3, at4, ix0, ix1, ix2, if_true, if_false, true_and, and_true, Bool.false_eq_true, reduceCtorEq, eqvI, eqvS, eqvB, scalI, scalS, scalB, true_or, decide_eq_true_eq, Bool.not_true, Bool.not_false, Bool.not_eq_true, isi_none_int, isi_none_bool, isi_none_str, isi_none_tuple, isi_none_list, isi_none_dict, isi_bool_int, isi_bool_bool, isi_bool_str, isi_bool_tuple, isi_bool_list, isi_bool_dict, isi_int_int, isi_int_bool, isi_int_str, isi_int_tuple, isi_int_list, isi_int_dict, isi_str_int, isi_str_bool, isi_str_str, isi_str_tuple, isi_str_list, isi_str_dict, isi_list_int, isi_list_bool, isi_list_str, isi_list_tuple, isi_list_list, isi_list_dict, isi_tuple_int, isi_tuple_bool, isi_tuple_str, isi_tuple_tuple, isi_tuple_list, isi_tuple_dict, isi_dict_int, isi_dict_bool, isi_dict_str, isi_dict_tuple, isi_dict_list, isi_dict_dict]
      have ea : List.map numD acc ++ [.int (j.val : Int)] = (acc ++ [j]).map numD := by rw [List.map_append]; rfl
      have := inner_loop (E := E) n c' gs' (acc ++ [j]) o.1 o.2.2.2 l (by simp; omega) (by rw [← e, e3]; simp) k
      rw [← ea] at this
      exact this
theorem body__law_inner : Bd__law_inner := by
  intro as R h
  obtain ⟨c, gs, n, rfl, ok, oks, les, hn, k⟩ := h
  unfold w__law_inner
  simp only [w__law_inner_0_e, wSeq, wNext, wIfS, wBool, wOp, wAt, wPeek, wName, wC, fIx, wChain, wAndT, wOrT, wNotT, wAndV, wOrV, wNotV, wIf, wNil, wCons, wTup, wLst, wDNew, wFz, fI, fI0, fEq, fNe, fIsN, fIsNot, fAdd, fIn, wC1, wC1F, fLen, fTup, fList, fInt, fAbs, wSlT, wSlL, wNoPart, wPart, wDrop, wRet, wRetF, wRetO, wSet, wSetF, wSetT, wPar, wPut, wBreak, wCont, wItems, wRng1, wRng2, wZip, wEnum, wEnumA, wRev, wFor, wWhile, wLc, wDc, wYes, wCall, wCallF, wCallK, wCallIo, wIsi, wNeg, wGetN, wGetE, wPop2, wAppend, wStar, seqD, fRepT, wDisp, wpCons, wpNil, keysD, dKey, wExtF, fStrI, wCallM, wCallMF, wmNil, wmD, wmS, wmF, avIx, avSls, avSl, avBack, avSet, wParM, List.nodup_nil, List.nodup_cons, List.mem_cons, List.not_mem_nil, or_false, not_false_eq_true, List.drop_succ_cons, List.drop_zero,  wAug, wRepL, wCatO, wCatF, wKeys, wItemsK, bName, bNames, retD, ctD, vd, itemsD, isDict, List.getElem?_cons_zero, List.getElem?_cons_succ, List.set_cons_zero, List.set_cons_succ, List.cons_append, List.nil_append, List.append_nil, List.replicate_succ, List.replicate_zero, List.map_cons, List.map_nil, List.length_cons, List.length_nil, List.zip_cons_cons, List.zip_nil_right, List.zip_nil_left, List.foldl_cons, List.foldl_nil, wipeE, backE, List.getD_cons_zero, List.getD_cons_succ, outsOf, keepPin, List.range_succ, List.range_zero, exS, at0, at1, at2, at3, at4, ix0, ix1, ix2, if_true, if_false, true_and, and_true, Bool.false_eq_true, reduceCtorEq, eqvI, eqvS, eqvB, scalI, scalS, scalB, true_or, decide_eq_true_eq, Bool.not_true, Bool.not_false, Bool.not_eq_true, isi_none_int, isi_none_bool, isi_none_str, isi_none_tuple, isi_none_list, isi_none_dict, isi_bool_int, isi_bool_bool, isi_bool_str, isi_bool_tuple, isi_bool_list, isi_bool_dict, isi_int_int, isi_int_bool, isi_int_str, isi_int_tuple, isi_int_list, isi_int_dict, isi_str_int, isi_str_bool, isi_str_str, isi_str_tuple, isi_str_list, isi_str_dict, isi_list_int, isi_list_bool, isi_list_str, isi_list_tuple, isi_list_list, isi_list_dict, isi_tuple_int, isi_tuple_bool, isi_tuple_str, isi_tuple_tuple, isi_tuple_list, isi_tuple_dict, isi_dict_int, isi_dict_bool, isi_dict_str, isi_dict_tuple, isi_dict_list, isi_dict_dict]
  refine ⟨Nat.zero_le _, ?_⟩
  simp only [w__law_inner_1_e, wSeq, wNext, wIfS, wBool, wOp, wAt, wPeek, wName, wC, fIx, wChain, wAndT, wOrT, wNotT, wAndV, wOrV, wNotV, wIf, wNil, wCons, wTup, wLst, wDNew, wFz, fI, fI0, fEq, fNe, fIsN, fIsNot, fAdd, fIn, wC1, wC1F, fLen, fTup, fList, fInt, fAbs, wSlT, wSlL, wNoPart, wPart, wDrop, wRet, wRetF, wRetO, wSet, wSetF, wSetT, wPar, wPut, wBreak, wCont, wItems, wRng1, wRng2, wZip, wEnum, wEnumA, wRev, wFor, wWhile, wLc, wDc, wYes, wCall, wCallF, wCallK, wCallIo, wIsi, wNeg, wGetN, wGetE, wPop2, wAppend, wStar, seqD, fRepT, wDisp, wpCons, wpNil, keysD, dKey, wExtF, fStrI, wCallM, wCallMF, wmNil, wmD, wmS, wmF, avIx, avSls, avSl, avBack, avSet, wParM, List.nodup_nil, List.nodup_cons, List.mem_cons, List.not_mem_nil, or_false, not_false_eq_true, List.drop_succ_cons, List.drop_zero,  wAug, wRepL, wCatO, wCatF, wKeys, wItemsK, bName, bNames, retD, ctD, vd, itemsD, isDict, List.getElem?_cons_zero, List.getElem?_cons_succ, List.set_cons_zero, List.set_cons_succ, List.cons_append, List.nil_append, List.append_nil, List.replicate_succ, List.replicate_zero, List.map_cons, List.map_nil, List.length_cons, List.length_nil, List.zip_cons_cons, List.zip_nil_right, List.zip_nil_left, List.foldl_cons, List.foldl_nil, wipeE, backE, List.getD_cons_zero, List.getD_cons_succ, outsOf, keepPin, List.range_succ, List.range_zero, exS, at0, at1, at2, at3, at4, ix0, ix1, ix2, if_true, if_false, true_and, and_true, Bool.false_eq_true, reduceCtorEq, eqvI, eqvS, eqvB, scalI, scalS, scalB, true_or, decide_eq_true_eq, Bool.not_true, Bool.not_false, Bool.not_eq_true, isi_none_int, isi_none_bool, isi_none_str, isi_none_tuple, isi_none_list, isi_none_dict, isi_bool_int, isi_bool_bool, isi_bool_str, isi_bool_tuple, isi_bool_list, isi_bool_dict, isi_int_int, isi_int_bool, isi_int_str, isi_int_tuple, isi_int_list, isi_int_dict, isi_str_int, isi_str_bool, isi_str_str, isi_str_tuple, isi_str_list, isi_str_dict, isi_list_int, isi_list_bool, isi_list_str, isi_list_tuple, isi_list_list, isi_list_dict, isi_tuple_int, isi_tuple_bool, isi_tuple_str, isi_tuple_tuple, isi_tuple_list, isi_tuple_dict, isi_dict_int, isi_dict_bool, isi_dict_str, isi_dict_tuple, isi_dict_list, isi_dict_dict]
  refine ⟨n, inner_loop (acc := []) n c gs ok oks les (by simpa using hn) rfl fun x => ?_⟩
  simp only [w__law_inner_2_e, wSeq, wNext, wIfS, wBool, wOp, wAt, wPeek, wName, wC, fIx, wChain, wAndT, wOrT, wNotT, wAndV, wOrV, wNotV, wIf, wNil, wCons, wTup, wLst, wDNew, wFz, fI, fI0, fEq, fNe, fIsN, fIsNot, fAdd, fIn, wC1, wC1F, fLen, fTup, fList, fInt, fAbs, wSlT, wSlL, wNoPart, wPart, wDrop, wRet, wRetF, wRetO, wSet, wSetF, wSetT, wPar, wPut, wBreak, wCont, wItems, wRng1, wRng2, wZip, wEnum, wEnumA, wRev, wFor, wWhile, wLc, wDc, wYes, wCall, wCallF, wCallK, wCallIo, wIsi, wNeg, wGetN, wGetE, wPop2, wAppend, wStar, seqD, fRepT, wDisp, wpCons, wpNil, keysD, dKey, wExtF, fStrI, wCallM, wCallMF, wmNil, wmD, wmS, wmF, avIx, avSls, avSl, avBack, avSet, wParM, List.nodup_nil, List.nodup_cons, List.mem_cons, List.not_mem_nil, or_false, not_false_eq_true, List.drop_succ_cons, List.drop_zero,  wAug, wRepL, wCatO, wCatF, wKeys, wItemsK, bName, bNames, retD, ctD, vd, itemsD, isDict, List.getElem?_cons_zero, List.getElem?_cons_succ, List.set_cons_zero, List.set_cons_succ, List.cons_append, List.nil_append, List.append_nil, List.replicate_succ, List.replicate_zero, List.map_cons, List.map_nil, List.length_cons, List.length_nil, List.zip_cons_cons, List.zip_nil_right, List.zip_nil_left, List.foldl_cons, List.foldl_nil, wipeE, backE, List.getD_cons_zero, List.getD_cons_succ, outsOf, keepPin, List.range_succ, List.range_zero, exS, at0, at1, at2, at3, at4, ix0, ix1, ix2, if_true, if_false, true_and, and_true, Bool.false_eq_true, reduceCtorEq, eqvI, eqvS, eqvB, scalI, scalS, scalB, true_or, decide_eq_true_eq, Bool.not_true, Bool.not_false, Bool.not_eq_true, isi_none_int, isi_none_bool, isi_none_str, isi_none_tuple, isi_none_list, isi_none_dict, isi_bool_int, isi_bool_bool, isi_bool_str, isi_bool_tuple, isi_bool_list, isi_bool_dict, isi_int_int, isi_int_bool, isi_int_str, isi_int_tuple, isi_int_list, isi_int_dict, isi_str_int, isi_str_bool, isi_str_str, isi_str_tuple, isi_str_list, isi_str_dict, isi_list_int, isi_list_bool, isi_list_str, isi_list_tuple, isi_list_list, isi_list_dict, isi_tuple_int, isi_tuple_bool, isi_tuple_str, isi_tuple_tuple, isi_tuple_list, isi_tuple_dict, isi_dict_int, isi_dict_bool, isi_dict_str, isi_dict_tuple, isi_dict_list, isi_dict_dict]
  exact k
def sp__law_right : Spc := fun as R => ∃ (ds : List D) (b : Bool), as = [.o b (.l ds)] ∧ Hd 0 ds ∧ ∀ s, R (.fz (.bool true)) [s]
theorem len__law_right : ∀ as R, sp__law_right as R → as.length = 1 := fun as R ⟨ds, b, e, _⟩ => by rw [e]; rfl
def w__law_right_L1_4 : WS := (wPar 1 2 (wCons (wCall sp_with_guest (wCons (wName 1) (wCons (wSlT (wName 2) wNoPart (wPart (wOp fAdd (wName 4) (wC (.int 1))))) (wCons (wC .none) wNil)))) (wCons (wSlT (wName 2) wNoPart (wPart (wName 4))) wNil)))
theorem w__law_right_L1_4_e (E : VD) (ρ : En) : w__law_right_L1_4 E ρ = (wPar 1 2 (wCons (wCall sp_with_guest (wCons (wName 1) (wCons (wSlT (wName 2) wNoPart (wPart (wOp fAdd (wName 4) (wC (.int 1))))) (wCons (wC .none) wNil)))) (wCons (wSlT (wName 2) wNoPart (wPart (wName 4))) wNil))) E ρ := rfl
def w__law_right_L1_3 : WS := (wSeq (wSet 4 (wCallIo 0 sp__law_of (wCons (wFz (wLst (wCons (wOp (fI0 fun i j => .int (i - j)) (wC1 fLen (wPeek 2)) (wC (.int 1))) (wCons (wOp (fI0 fun i j => .int (i - j)) (wC1 fLen (wPeek 2)) (wC (.int 1))) (wCons (wCallIo 0 sp__law_take (wCons (wC1 fLen (wPeek 2)) wNil)) wNil))))) wNil)))
    w__law_right_L1_4)
theorem w__law_right_L1_3_e (E : VD) (ρ : En) : w__law_right_L1_3 E ρ = (wSeq (wSet 4 (wCallIo 0 sp__law_of (wCons (wFz (wLst (wCons (wOp (fI0 fun i j => .int (i - j)) (wC1 fLen (wPeek 2)) (wC (.int 1))) (wCons (wOp (fI0 fun i j => .int (i - j)) (wC1 fLen (wPeek 2)) (wC (.int 1))) (wCons (wCallIo 0 sp__law_take (wCons (wC1 fLen (wPeek 2)) wNil)) wNil))))) wNil)))
    w__law_right_L1_4) E ρ := rfl
def w__law_right_L1_2 : WS := (wSeq (wIfS (wBool (wOp fNe (wC1 fRepr (wOp fIx (wCall sp_guest_at (wCons (wName 1) (wCons (wName 2) wNil))) (wC (.int 0)))) (wC1 fRepr (wCall sp_core_at (wCons (wName 1) (wCons (wName 2) wNil)))))) (wRet (wC (.bool false))) wNext)
    w__law_right_L1_3)
theorem w__law_right_L1_2_e (E : VD) (ρ : En) : w__law_right_L1_2 E ρ = (wSeq (wIfS (wBool (wOp fNe (wC1 fRepr (wOp fIx (wCall sp_guest_at (wCons (wName 1) (wCons (wName 2) wNil))) (wC (.int 0)))) (wC1 fRepr (wCall sp_core_at (wCons (wName 1) (wCons (wName 2) wNil)))))) (wRet (wC (.bool false))) wNext)
    w__law_right_L1_3) E ρ := rfl
def w__law_right_L1_1 : WS := (wSeq (wIfS (wBool (wOp fEq (wName 2) (wTup wNil))) (wRet (wOp fEq (wC1 fRepr (wCall sp_core_at (wCons (wName 1) (wCons (wName 2) wNil)))) (wC1 fRepr (wAt 1 fIx (wC (.int 1)))))) wNext)
    w__law_right_L1_2)
theorem w__law_right_L1_1_e (E : VD) (ρ : En) : w__law_right_L1_1 E ρ = (wSeq (wIfS (wBool (wOp fEq (wName 2) (wTup wNil))) (wRet (wOp fEq (wC1 fRepr (wCall sp_core_at (wCons (wName 1) (wCons (wName 2) wNil)))) (wC1 fRepr (wAt 1 fIx (wC (.int 1)))))) wNext)
    w__law_right_L1_2) E ρ := rfl
def w__law_right_L1_0 : WS := (wSeq (wIfS (wOrT (wBool (wOp fNe (wC1 fRepr (wCall sp_path_of (wCons (wName 1) wNil))) (wC1 fRepr (wPeek 2)))) (wBool (wOp fIsNot (wOp fIx (wCall sp_core_at (wCons (wName 1) (wCons (wName 2) wNil))) (wC (.int 4))) (wC .none)))) (wRet (wC (.bool false))) wNext)
    w__law_right_L1_1)
theorem w__law_right_L1_0_e (E : VD) (ρ : En) : w__law_right_L1_0 E ρ = (wSeq (wIfS (wOrT (wBool (wOp fNe (wC1 fRepr (wCall sp_path_of (wCons (wName 1) wNil))) (wC1 fRepr (wPeek 2)))) (wBool (wOp fIsNot (wOp fIx (wCall sp_core_at (wCons (wName 1) (wCons (wName 2) wNil))) (wC (.int 4))) (wC .none)))) (wRet (wC (.bool false))) wNext)
    w__law_right_L1_1) E ρ := rfl
def w__law_right_3 : WS := (wRet (wC (.bool false)))
theorem w__law_right_3_e (E : VD) (ρ : En) : w__law_right_3 E ρ = (wRet (wC (.bool false))) E ρ := rfl
def w__law_right_2 : WS := (wSeq (wFor (wRng1 (wC (.int 9))) (bName 3) w__law_right_L1_0)
    w__law_right_3)
theorem w__law_right_2_e (E : VD) (ρ : En) : w__law_right_2 E ρ = (wSeq (wFor (wRng1 (wC (.int 9))) (bName 3) w__law_right_L1_0)
    w__law_right_3) E ρ := rfl
def w__law_right_1 : WS := (wSeq (wSet 2 (wCall sp__law_inner (wCons (wAt 1 fIx (wC (.int 1))) wNil)))
    w__law_right_2)
theorem w__law_right_1_e (E : VD) (ρ : En) : w__law_right_1 E ρ = (wSeq (wSet 2 (wCall sp__law_inner (wCons (wAt 1 fIx (wC (.int 1))) wNil)))
    w__law_right_2) E ρ := rfl
def w__law_right_0 : WS := (wSeq (wSet 1 (wCallIo 0 sp__law_tree (wCons (wCallIo 0 sp__law_of (wCons (wFz (wLst (wCons (wC (.int 1)) (wCons (wC (.int 5)) (wCons (wC (.int 14)) wNil))))) wNil)) (wCons (wCallIo 0 sp__law_of (wCons (wFz (wLst (wCons (wC (.int 1)) (wCons (wC (.int 2)) (wCons (wC (.int 4)) wNil))))) wNil)) wNil))))
    w__law_right_1)
theorem w__law_right_0_e (E : VD) (ρ : En) : w__law_right_0 E ρ = (wSeq (wSet 1 (wCallIo 0 sp__law_tree (wCons (wCallIo 0 sp__law_of (wCons (wFz (wLst (wCons (wC (.int 1)) (wCons (wC (.int 5)) (wCons (wC (.int 14)) wNil))))) wNil)) (wCons (wCallIo 0 sp__law_of (wCons (wFz (wLst (wCons (wC (.int 1)) (wCons (wC (.int 2)) (wCons (wC (.int 4)) wNil))))) wNil)) wNil))))
    w__law_right_1) E ρ := rfl
def w__law_right : WS := w__law_right_0
def Bd__law_right : Prop := Body 1 4 w__law_right sp__law_right
theorem path_shows {p : List (Fin 4)} (h : p.length ≤ 1000) : Shows (pathD p) := by
  have a : ∀ p : List (Fin 4), fines (p.map numD) = true ∧ costs (p.map numD) ≤ 10 * p.length ∧ PyData.depthAll (p.map numD) = 0 := by
    intro p
    induction p with
    | nil => exact ⟨rfl, Nat.le_refl _, rfl⟩
    | cons j p ih =>
      obtain ⟨a, b, c⟩ := ih
      have hj := j.isLt
      have f := fine_int (i := (j.val : Int)) (by omega) (Int.lt_of_lt_of_le (show (j.val : Int) < 4 by omega) (by decide))
      have d := cost_int (i := (j.val : Int)) (k := 3) (by omega) (by omega) (by decide)
      simp only [List.map_cons, fines, costs, PyData.depthAll, PyData.depth, numD, List.length_cons, a, f, c, Bool.and_self, true_and]
      omega
  obtain ⟨a, b, c⟩ := a p
  refine shows_of ?_ ?_ ?_
  · unfold pathD; simp only [fine, a]
  · unfold pathD; simp only [PyData.depth, c]; omega
  · unfold pathD; simp only [cost]; omega
theorem right_loop {E : VD} {b : Bool} {C : Nat} (hC : C ≤ 2 ^ 37) : ∀ (its : List D) (m : Mch) (ds : List D) (c : Nat) (s3 s4 : Sl), Hd c ds → c + 2 * its.length ≤ C → m.c.Ok m.gs → (∀ k, (m.gs k).Ok) → (∀ k, (m.gs k).Le 8) → tot m.gs ≤ 3000000 → (inC m.c m.gs).length < its.length →
    (∀ ρ, E.rt (.fz (.bool true)) ρ) →
    wForL (bName 3) w__law_right_L1_0 E its [.o b (.l ds), .d (mD m), .d (pathD (inC m.c m.gs)), s3, s4]
  | [], m, ds, c, s3, s4, hd, hc, ok, oks, les, ht, hl, k => by simp at hl
  | it :: its, m, ds, c, s3, s4, hd, hc, ok, oks, les, ht, hl, k => by
    rw [List.length_cons] at hc hl
    have il := in_len (c := m.c) (gs := m.gs) ok oks les
    obtain ⟨c', gs', hcor, hins⟩ := in_cor ok oks les
    have les16 : ∀ k, (m.gs k).Le 16 := fun k => (les k).mono (by omega)
    obtain ⟨ok', oks', les', ht'⟩ := cor_ok ok oks les hcor
    have shp := path_shows (p := inC m.c m.gs) (by omega)
    have shc := core_shows ok' oks' les' (by omega) (by omega)
    unfold wForL
    simp only [w__law_right_L1_0_e, wSeq, wNext, wIfS, wBool, wOp, wAt, wPeek, wName, wC, fIx, wChain, wAndT, wOrT, wNotT, wAndV, wOrV, wNotV, wIf, wNil, wCons, wTup, wLst, wDNew, wFz, fI, fI0, fEq, fNe, fIsN, fIsNot, fAdd, fIn, wC1, wC1F, fLen, fTup, fList, fInt, fAbs, wSlT, wSlL, wNoPart, wPart, wDrop, wRet, wRetF, wRetO, wSet, wSetF, wSetT, wPar, wPut, wBreak, wCont, wItems, wRng1, wRng2, wZip, wEnum, wEnumA, wRev, wFor, wWhile, wLc, wDc, wYes, wCall, wCallF, wCallK, wCallIo, wIsi, wNeg, wGetN, wGetE, wPop2, wAppend, wStar, seqD, fRepT, wDisp, wpCons, wpNil, keysD, dKey, wExtF, fStrI, wCallM, wCallMF, wmNil, wmD, wmS, wmF, avIx, avSls, avSl, avBack, avSet, wParM, List.nodup_nil, List.nodup_cons, List.mem_cons, List.not_mem_nil, or_false, not_false_eq_true, List.drop_succ_cons, List.drop_zero,  wAug, wRepL, wCatO, wCatF, wKeys, wItemsK, bName, bNames, retD, ctD, vd, itemsD, isDict, List.getElem?_cons_zero, List.getElem?_cons_succ, List.set_cons_zero, List.set_cons_succ, List.cons_append, List.nil_append, List.append_nil, List.replicate_succ, List.replicate_zero, List.map_cons, List.map_nil, List.length_cons, List.length_nil, List.zip_cons_cons, List.zip_nil_right, List.zip_nil_left, List.foldl_cons, List.foldl_nil, wipeE, backE, List.getD_cons_zero, List.getD_cons_succ, outsOf, keepPin, List.range_succ, List.range_zero, exS, at0, at1, at2, at3, at4, ix0, ix1, ix2, if_true, if_false, true_and, and_true, Bool.false_eq_true, reduceCtorEq, eqvI, eqvS, eqvB, scalI, scalS, scalB, true_or, decide_eq_true_eq, Bool.not_true, Bool.not_false, Bool.not_eq_true, isi_none_int, isi_none_bool, isi_none_str, isi_none_tuple, isi_none_list, isi_none_dict, isi_bool_int, isi_bool_bool, isi_bool_str, isi_bool_tuple, isi_bool_list, isi_bool_dict, isi_int_int, isi_int_bool, isi_int_str, isi_int_tuple, isi_int_list, isi_int_dict, isi_str_int, isi_str_bool, isi_str_str, isi_str_tuple, isi_str_list, isi_str_dict, isi_list_int, isi_list_bool, isi_list_str, isi_list_tuple, isi_list_list, isi_list_dict, isi_tuple_int, isi_tuple_bool, isi_tuple_str, isi_tuple_tuple, isi_tuple_list, isi_tuple_dict, isi_dict_int, isi_dict_bool, isi_dict_str, isi_dict_tuple, isi_dict_list, isi_dict_dict]
    refine ⟨m, 8, rfl, ok, oks, les, by omega, shp, ?_⟩
    simp only [wSeq, wNext, wIfS, wBool, wOp, wAt, wPeek, wName, wC, fIx, wChain, wAndT, wOrT, wNotT, wAndV, wOrV, wNotV, wIf, wNil, wCons, wTup, wLst, wDNew, wFz, fI, fI0, fEq, fNe, fIsN, fIsNot, fAdd, fIn, wC1, wC1F, fLen, fTup, fList, fInt, fAbs, wSlT, wSlL, wNoPart, wPart, wDrop, wRet, wRetF, wRetO, wSet, wSetF, wSetT, wPar, wPut, wBreak, wCont, wItems, wRng1, wRng2, wZip, wEnum, wEnumA, wRev, wFor, wWhile, wLc, wDc, wYes, wCall, wCallF, wCallK, wCallIo, wIsi, wNeg, wGetN, wGetE, wPop2, wAppend, wStar, seqD, fRepT, wDisp, wpCons, wpNil, keysD, dKey, wExtF, fStrI, wCallM, wCallMF, wmNil, wmD, wmS, wmF, avIx, avSls, avSl, avBack, avSet, wParM, List.nodup_nil, List.nodup_cons, List.mem_cons, List.not_mem_nil, or_false, not_false_eq_true, List.drop_succ_cons, List.drop_zero,  wAug, wRepL, wCatO, wCatF, wKeys, wItemsK, bName, bNames, retD, ctD, vd, itemsD, isDict, List.getElem?_cons_zero, List.getElem?_cons_succ, List.set_cons_zero, List.set_cons_succ, List.cons_append, List.nil_append, List.append_nil, List.replicate_succ, List.replicate_zero, List.map_cons, List.map_nil, List.length_cons, List.length_nil, List.zip_cons_cons, List.zip_nil_right, List.zip_nil_left, List.foldl_cons, List.foldl_nil, wipeE, backE, List.getD_cons_zero, List.getD_cons_succ, outsOf, keepPin, List.range_succ, List.range_zero, exS, at0, at1, at2, at3, at4, ix0, ix1, ix2, if_true, if_false, true_and, and_true, Bool.false_eq_true, reduceCtorEq, eqvI, eqvS, eqvB, scalI, scalS, scalB, true_or, decide_eq_true_eq, Bool.not_true, Bool.not_false, Bool.not_eq_true, isi_none_int, isi_none_bool, isi_none_str, isi_none_tuple, isi_none_list, isi_none_dict, isi_bool_int, isi_bool_bool, isi_bool_str, isi_bool_tuple, isi_bool_list, isi_bool_dict, isi_int_int, isi_int_bool, isi_int_str, isi_int_tuple, isi_int_list, isi_int_dict, isi_str_int, isi_str_bool, isi_str_str, isi_str_tuple, isi_str_list, isi_str_dict, isi_list_int, isi_list_bool, isi_list_str, isi_list_tuple, isi_list_list, isi_list_dict, isi_tuple_int, isi_tuple_bool, isi_tuple_str, isi_tuple_tuple, isi_tuple_list, isi_tuple_dict, isi_dict_int, isi_dict_bool, isi_dict_str, isi_dict_tuple, isi_dict_list, isi_dict_dict]
    refine ⟨shp, ?_⟩
    simp only [wSeq, wNext, wIfS, wBool, wOp, wAt, wPeek, wName, wC, fIx, wChain, wAndT, wOrT, wNotT, wAndV, wOrV, wNotV, wIf, wNil, wCons, wTup, wLst, wDNew, wFz, fI, fI0, fEq, fNe, fIsN, fIsNot, fAdd, fIn, wC1, wC1F, fLen, fTup, fList, fInt, fAbs, wSlT, wSlL, wNoPart, wPart, wDrop, wRet, wRetF, wRetO, wSet, wSetF, wSetT, wPar, wPut, wBreak, wCont, wItems, wRng1, wRng2, wZip, wEnum, wEnumA, wRev, wFor, wWhile, wLc, wDc, wYes, wCall, wCallF, wCallK, wCallIo, wIsi, wNeg, wGetN, wGetE, wPop2, wAppend, wStar, seqD, fRepT, wDisp, wpCons, wpNil, keysD, dKey, wExtF, fStrI, wCallM, wCallMF, wmNil, wmD, wmS, wmF, avIx, avSls, avSl, avBack, avSet, wParM, List.nodup_nil, List.nodup_cons, List.mem_cons, List.not_mem_nil, or_false, not_false_eq_true, List.drop_succ_cons, List.drop_zero,  wAug, wRepL, wCatO, wCatF, wKeys, wItemsK, bName, bNames, retD, ctD, vd, itemsD, isDict, List.getElem?_cons_zero, List.getElem?_cons_succ, List.set_cons_zero, List.set_cons_succ, List.cons_append, List.nil_append, List.append_nil, List.replicate_succ, List.replicate_zero, List.map_cons, List.map_nil, List.length_cons, List.length_nil, List.zip_cons_cons, List.zip_nil_right, List.zip_nil_left, List.foldl_cons, List.foldl_nil, wipeE, backE, List.getD_cons_zero, List.getD_cons_succ, outsOf, keepPin, List.range_succ, List.range_zero, exS, at0, at1, at2, at3, at4, ix0, ix1, ix2, if_true, if_false, true_and, and_true, Bool.false_eq_true, reduceCtorEq, eqvI, eqvS, eqvB, scalI, scalS, scalB, true_or, decide_eq_true_eq, Bool.not_true, Bool.not_false, Bool.not_eq_true, isi_none_int, isi_none_bool, isi_none_str, isi_none_tuple, isi_none_list, isi_none_dict, isi_bool_int, isi_bool_bool, isi_bool_str, isi_bool_tuple, isi_bool_list, isi_bool_dict, isi_int_int, isi_int_bool, isi_int_str, isi_int_tuple, isi_int_list, isi_int_dict, isi_str_int, isi_str_bool, isi_str_str, isi_str_tuple, isi_str_list, isi_str_dict, isi_list_int, isi_list_bool, isi_list_str, isi_list_tuple, isi_list_list, isi_list_dict, isi_tuple_int, isi_tuple_bool, isi_tuple_str, isi_tuple_tuple, isi_tuple_list, isi_tuple_dict, isi_dict_int, isi_dict_bool, isi_dict_str, isi_dict_tuple, isi_dict_list, isi_dict_dict]
    refine iteN (by simp) ⟨m, _, c', gs', rfl, oks, les16, hcor, ?_⟩
    simp only [coreD, hins, insD, wSeq, wNext, wIfS, wBool, wOp, wAt, wPeek, wName, wC, fIx, wChain, wAndT, wOrT, wNotT, wAndV, wOrV, wNotV, wIf, wNil, wCons, wTup, wLst, wDNew, wFz, fI, fI0, fEq, fNe, fIsN, fIsNot, fAdd, fIn, wC1, wC1F, fLen, fTup, fList, fInt, fAbs, wSlT, wSlL, wNoPart, wPart, wDrop, wRet, wRetF, wRetO, wSet, wSetF, wSetT, wPar, wPut, wBreak, wCont, wItems, wRng1, wRng2, wZip, wEnum, wEnumA, wRev, wFor, wWhile, wLc, wDc, wYes, wCall, wCallF, wCallK, wCallIo, wIsi, wNeg, wGetN, wGetE, wPop2, wAppend, wStar, seqD, fRepT, wDisp, wpCons, wpNil, keysD, dKey, wExtF, fStrI, wCallM, wCallMF, wmNil, wmD, wmS, wmF, avIx, avSls, avSl, avBack, avSet, wParM, List.nodup_nil, List.nodup_cons, List.mem_cons, List.not_mem_nil, or_false, not_false_eq_true, List.drop_succ_cons, List.drop_zero,  wAug, wRepL, wCatO, wCatF, wKeys, wItemsK, bName, bNames, retD, ctD, vd, itemsD, isDict, List.getElem?_cons_zero, List.getElem?_cons_succ, List.set_cons_zero, List.set_cons_succ, List.cons_append, List.nil_append, List.append_nil, List.replicate_succ, List.replicate_zero, List.map_cons, List.map_nil, List.length_cons, List.length_nil, List.zip_cons_cons, List.zip_nil_right, List.zip_nil_left, List.foldl_cons, List.foldl_nil, wipeE, backE, List.getD_cons_zero, List.getD_cons_succ, outsOf, keepPin, List.range_succ, List.range_zero, exS, at0, at1, at2, at3, at4, ix0, ix1, ix2, if_true, if_false, true_and, and_true, Bool.false_eq_true, reduceCtorEq, eqvI, eqvS, eqvB, scalI, scalS, scalB, true_or, decide_eq_true_eq, Bool.not_true, Bool.not_false, Bool.not_eq_true, isi_none_int, isi_none_bool, isi_none_str, isi_none_tuple, isi_none_list, isi_none_dict, isi_bool_int, isi_bool_bool, isi_bool_str, isi_bool_tuple, isi_bool_list, isi_bool_dict, isi_int_int, isi_int_bool, isi_int_str, isi_int_tuple, isi_int_list, isi_int_dict, isi_str_int, isi_str_bool, isi_str_str, isi_str_tuple, isi_str_list, isi_str_dict, isi_list_int, isi_list_bool, isi_list_str, isi_list_tuple, isi_list_list, isi_list_dict, isi_tuple_int, isi_tuple_bool, isi_tuple_str, isi_tuple_tuple, isi_tuple_list, isi_tuple_dict, isi_dict_int, isi_dict_bool, isi_dict_str, isi_dict_tuple, isi_dict_list, isi_dict_dict]
    refine iteN (by simp [isNone]) ?_
    simp only [w__law_right_L1_1_e, wSeq, wNext, wIfS, wBool, wOp, wAt, wPeek, wName, wC, fIx, wChain, wAndT, wOrT, wNotT, wAndV, wOrV, wNotV, wIf, wNil, wCons, wTup, wLst, wDNew, wFz, fI, fI0, fEq, fNe, fIsN, fIsNot, fAdd, fIn, wC1, wC1F, fLen, fTup, fList, fInt, fAbs, wSlT, wSlL, wNoPart, wPart, wDrop, wRet, wRetF, wRetO, wSet, wSetF, wSetT, wPar, wPut, wBreak, wCont, wItems, wRng1, wRng2, wZip, wEnum, wEnumA, wRev, wFor, wWhile, wLc, wDc, wYes, wCall, wCallF, wCallK, wCallIo, wIsi, wNeg, wGetN, wGetE, wPop2, wAppend, wStar, seqD, fRepT, wDisp, wpCons, wpNil, keysD, dKey, wExtF, fStrI, wCallM, wCallMF, wmNil, wmD, wmS, wmF, avIx, avSls, avSl, avBack, avSet, wParM, List.nodup_nil, List.nodup_cons, List.mem_cons, List.not_mem_nil, or_false, not_false_eq_true, List.drop_succ_cons, List.drop_zero,  wAug, wRepL, wCatO, wCatF, wKeys, wItemsK, bName, bNames, retD, ctD, vd, itemsD, isDict, List.getElem?_cons_zero, List.getElem?_cons_succ, List.set_cons_zero, List.set_cons_succ, List.cons_append, List.nil_append, List.append_nil, List.replicate_succ, List.replicate_zero, List.map_cons, List.map_nil, List.length_cons, List.length_nil, List.zip_cons_cons, List.zip_nil_right, List.zip_nil_left, List.foldl_cons, List.foldl_nil, wipeE, backE, List.getD_cons_zero, List.getD_cons_succ, outsOf, keepPin, List.range_succ, List.range_zero, exS, at0, at1, at2, at3, at4, ix0, ix1, ix2, if_true, if_false, true_and, and_true, Bool.false_eq_true, reduceCtorEq, eqvI, eqvS, eqvB, scalI, scalS, scalB, true_or, decide_eq_true_eq, Bool.not_true, Bool.not_false, Bool.not_eq_true, isi_none_int, isi_none_bool, isi_none_str, isi_none_tuple, isi_none_list, isi_none_dict, isi_bool_int, isi_bool_bool, isi_bool_str, isi_bool_tuple, isi_bool_list, isi_bool_dict, isi_int_int, isi_int_bool, isi_int_str, isi_int_tuple, isi_int_list, isi_int_dict, isi_str_int, isi_str_bool, isi_str_str, isi_str_tuple, isi_str_list, isi_str_dict, isi_list_int, isi_list_bool, isi_list_str, isi_list_tuple, isi_list_list, isi_list_dict, isi_tuple_int, isi_tuple_bool, isi_tuple_str, isi_tuple_tuple, isi_tuple_list, isi_tuple_dict, isi_dict_int, isi_dict_bool, isi_dict_str, isi_dict_tuple, isi_dict_list, isi_dict_dict]
    refine ⟨by decide, .inr ⟨shaped_path _, by decide +kernel⟩, ?_⟩
    rcases in_cases ok with ⟨h, e⟩ | ⟨j, c2, gs2, t, w, f, h, e, e2⟩
    · rw [e] at hcor ⊢
      cases hcor
      refine iteY (by simp [pathD, PyData.eqv, PyData.eqvAll]) ⟨m, [], _, _, rfl, oks, les16, rfl, shc, ?_⟩
      simp only [mD, wSeq, wNext, wIfS, wBool, wOp, wAt, wPeek, wName, wC, fIx, wChain, wAndT, wOrT, wNotT, wAndV, wOrV, wNotV, wIf, wNil, wCons, wTup, wLst, wDNew, wFz, fI, fI0, fEq, fNe, fIsN, fIsNot, fAdd, fIn, wC1, wC1F, fLen, fTup, fList, fInt, fAbs, wSlT, wSlL, wNoPart, wPart, wDrop, wRet, wRetF, wRetO, wSet, wSetF, wSetT, wPar, wPut, wBreak, wCont, wItems, wRng1, wRng2, wZip, wEnum, wEnumA, wRev, wFor, wWhile, wLc, wDc, wYes, wCall, wCallF, wCallK, wCallIo, wIsi, wNeg, wGetN, wGetE, wPop2, wAppend, wStar, seqD, fRepT, wDisp, wpCons, wpNil, keysD, dKey, wExtF, fStrI, wCallM, wCallMF, wmNil, wmD, wmS, wmF, avIx, avSls, avSl, avBack, avSet, wParM, List.nodup_nil, List.nodup_cons, List.mem_cons, List.not_mem_nil, or_false, not_false_eq_true, List.drop_succ_cons, List.drop_zero,  wAug, wRepL, wCatO, wCatF, wKeys, wItemsK, bName, bNames, retD, ctD, vd, itemsD, isDict, List.getElem?_cons_zero, List.getElem?_cons_succ, List.set_cons_zero, List.set_cons_succ, List.cons_append, List.nil_append, List.append_nil, List.replicate_succ, List.replicate_zero, List.map_cons, List.map_nil, List.length_cons, List.length_nil, List.zip_cons_cons, List.zip_nil_right, List.zip_nil_left, List.foldl_cons, List.foldl_nil, wipeE, backE, List.getD_cons_zero, List.getD_cons_succ, outsOf, keepPin, List.range_succ, List.range_zero, exS, at0, at1, at2, at3, at4, ix0, ix1, ix2, if_true, if_false, true_and, and_true, Bool.false_eq_true, reduceCtorEq, eqvI, eqvS, eqvB, scalI, scalS, scalB, true_or, decide_eq_true_eq, Bool.not_true, Bool.not_false, Bool.not_eq_true, isi_none_int, isi_none_bool, isi_none_str, isi_none_tuple, isi_none_list, isi_none_dict, isi_bool_int, isi_bool_bool, isi_bool_str, isi_bool_tuple, isi_bool_list, isi_bool_dict, isi_int_int, isi_int_bool, isi_int_str, isi_int_tuple, isi_int_list, isi_int_dict, isi_str_int, isi_str_bool, isi_str_str, isi_str_tuple, isi_str_list, isi_str_dict, isi_list_int, isi_list_bool, isi_list_str, isi_list_tuple, isi_list_list, isi_list_dict, isi_tuple_int, isi_tuple_bool, isi_tuple_str, isi_tuple_tuple, isi_tuple_list, isi_tuple_dict, isi_dict_int, isi_dict_bool, isi_dict_str, isi_dict_tuple, isi_dict_list, isi_dict_dict]
      refine ⟨shc, ?_⟩
      simp only [wSeq, wNext, wIfS, wBool, wOp, wAt, wPeek, wName, wC, fIx, wChain, wAndT, wOrT, wNotT, wAndV, wOrV, wNotV, wIf, wNil, wCons, wTup, wLst, wDNew, wFz, fI, fI0, fEq, fNe, fIsN, fIsNot, fAdd, fIn, wC1, wC1F, fLen, fTup, fList, fInt, fAbs, wSlT, wSlL, wNoPart, wPart, wDrop, wRet, wRetF, wRetO, wSet, wSetF, wSetT, wPar, wPut, wBreak, wCont, wItems, wRng1, wRng2, wZip, wEnum, wEnumA, wRev, wFor, wWhile, wLc, wDc, wYes, wCall, wCallF, wCallK, wCallIo, wIsi, wNeg, wGetN, wGetE, wPop2, wAppend, wStar, seqD, fRepT, wDisp, wpCons, wpNil, keysD, dKey, wExtF, fStrI, wCallM, wCallMF, wmNil, wmD, wmS, wmF, avIx, avSls, avSl, avBack, avSet, wParM, List.nodup_nil, List.nodup_cons, List.mem_cons, List.not_mem_nil, or_false, not_false_eq_true, List.drop_succ_cons, List.drop_zero,  wAug, wRepL, wCatO, wCatF, wKeys, wItemsK, bName, bNames, retD, ctD, vd, itemsD, isDict, List.getElem?_cons_zero, List.getElem?_cons_succ, List.set_cons_zero, List.set_cons_succ, List.cons_append, List.nil_append, List.append_nil, List.replicate_succ, List.replicate_zero, List.map_cons, List.map_nil, List.length_cons, List.length_nil, List.zip_cons_cons, List.zip_nil_right, List.zip_nil_left, List.foldl_cons, List.foldl_nil, wipeE, backE, List.getD_cons_zero, List.getD_cons_succ, outsOf, keepPin, List.range_succ, List.range_zero, exS, at0, at1, at2, at3, at4, ix0, ix1, ix2, if_true, if_false, true_and, and_true, Bool.false_eq_true, reduceCtorEq, eqvI, eqvS, eqvB, scalI, scalS, scalB, true_or, decide_eq_true_eq, Bool.not_true, Bool.not_false, Bool.not_eq_true, isi_none_int, isi_none_bool, isi_none_str, isi_none_tuple, isi_none_list, isi_none_dict, isi_bool_int, isi_bool_bool, isi_bool_str, isi_bool_tuple, isi_bool_list, isi_bool_dict, isi_int_int, isi_int_bool, isi_int_str, isi_int_tuple, isi_int_list, isi_int_dict, isi_str_int, isi_str_bool, isi_str_str, isi_str_tuple, isi_str_list, isi_str_dict, isi_list_int, isi_list_bool, isi_list_str, isi_list_tuple, isi_list_list, isi_list_dict, isi_tuple_int, isi_tuple_bool, isi_tuple_str, isi_tuple_tuple, isi_tuple_list, isi_tuple_dict, isi_dict_int, isi_dict_bool, isi_dict_str, isi_dict_tuple, isi_dict_list, isi_dict_dict]
      simp only [decide_true]
      exact k _
    · have hne : inC m.c m.gs ≠ [] := by rw [e2]; simp
      have hlen : 0 < (inC m.c m.gs).length := List.length_pos_iff.mpr hne
      refine iteN ?_ ?_
      · rw [e2]; simp [pathD, PyData.eqv, PyData.eqvAll]
      simp only [w__law_right_L1_2_e, wSeq, wNext, wIfS, wBool, wOp, wAt, wPeek, wName, wC, fIx, wChain, wAndT, wOrT, wNotT, wAndV, wOrV, wNotV, wIf, wNil, wCons, wTup, wLst, wDNew, wFz, fI, fI0, fEq, fNe, fIsN, fIsNot, fAdd, fIn, wC1, wC1F, fLen, fTup, fList, fInt, fAbs, wSlT, wSlL, wNoPart, wPart, wDrop, wRet, wRetF, wRetO, wSet, wSetF, wSetT, wPar, wPut, wBreak, wCont, wItems, wRng1, wRng2, wZip, wEnum, wEnumA, wRev, wFor, wWhile, wLc, wDc, wYes, wCall, wCallF, wCallK, wCallIo, wIsi, wNeg, wGetN, wGetE, wPop2, wAppend, wStar, seqD, fRepT, wDisp, wpCons, wpNil, keysD, dKey, wExtF, fStrI, wCallM, wCallMF, wmNil, wmD, wmS, wmF, avIx, avSls, avSl, avBack, avSet, wParM, List.nodup_nil, List.nodup_cons, List.mem_cons, List.not_mem_nil, or_false, not_false_eq_true, List.drop_succ_cons, List.drop_zero,  wAug, wRepL, wCatO, wCatF, wKeys, wItemsK, bName, bNames, retD, ctD, vd, itemsD, isDict, List.getElem?_cons_zero, List.getElem?_cons_succ, List.set_cons_zero, List.set_cons_succ, List.cons_append, List.nil_append, List.append_nil, List.replicate_succ, List.replicate_zero, List.map_cons, List.map_nil, List.length_cons, List.length_nil, List.zip_cons_cons, List.zip_nil_right, List.zip_nil_left, List.foldl_cons, List.foldl_nil, wipeE, backE, List.getD_cons_zero, List.getD_cons_succ, outsOf, keepPin, List.range_succ, List.range_zero, exS, at0, at1, at2, at3, at4, ix0, ix1, ix2, if_true, if_false, true_and, and_true, Bool.false_eq_true, reduceCtorEq, eqvI, eqvS, eqvB, scalI, scalS, scalB, true_or, decide_eq_true_eq, Bool.not_true, Bool.not_false, Bool.not_eq_true, isi_none_int, isi_none_bool, isi_none_str, isi_none_tuple, isi_none_list, isi_none_dict, isi_bool_int, isi_bool_bool, isi_bool_str, isi_bool_tuple, isi_bool_list, isi_bool_dict, isi_int_int, isi_int_bool, isi_int_str, isi_int_tuple, isi_int_list, isi_int_dict, isi_str_int, isi_str_bool, isi_str_str, isi_str_tuple, isi_str_list, isi_str_dict, isi_list_int, isi_list_bool, isi_list_str, isi_list_tuple, isi_list_list, isi_list_dict, isi_tuple_int, isi_tuple_bool, isi_tuple_str, isi_tuple_tuple, isi_tuple_list, isi_tuple_dict, isi_dict_int, isi_dict_bool, isi_dict_str, isi_dict_tuple, isi_dict_list, isi_dict_dict]
      refine ⟨m, _, c', gs', rfl, oks, les16, hne, hcor, fun t w f => ?_⟩
      simp only [gD_mk, wSeq, wNext, wIfS, wBool, wOp, wAt, wPeek, wName, wC, fIx, wChain, wAndT, wOrT, wNotT, wAndV, wOrV, wNotV, wIf, wNil, wCons, wTup, wLst, wDNew, wFz, fI, fI0, fEq, fNe, fIsN, fIsNot, fAdd, fIn, wC1, wC1F, fLen, fTup, fList, fInt, fAbs, wSlT, wSlL, wNoPart, wPart, wDrop, wRet, wRetF, wRetO, wSet, wSetF, wSetT, wPar, wPut, wBreak, wCont, wItems, wRng1, wRng2, wZip, wEnum, wEnumA, wRev, wFor, wWhile, wLc, wDc, wYes, wCall, wCallF, wCallK, wCallIo, wIsi, wNeg, wGetN, wGetE, wPop2, wAppend, wStar, seqD, fRepT, wDisp, wpCons, wpNil, keysD, dKey, wExtF, fStrI, wCallM, wCallMF, wmNil, wmD, wmS, wmF, avIx, avSls, avSl, avBack, avSet, wParM, List.nodup_nil, List.nodup_cons, List.mem_cons, List.not_mem_nil, or_false, not_false_eq_true, List.drop_succ_cons, List.drop_zero,  wAug, wRepL, wCatO, wCatF, wKeys, wItemsK, bName, bNames, retD, ctD, vd, itemsD, isDict, List.getElem?_cons_zero, List.getElem?_cons_succ, List.set_cons_zero, List.set_cons_succ, List.cons_append, List.nil_append, List.append_nil, List.replicate_succ, List.replicate_zero, List.map_cons, List.map_nil, List.length_cons, List.length_nil, List.zip_cons_cons, List.zip_nil_right, List.zip_nil_left, List.foldl_cons, List.foldl_nil, wipeE, backE, List.getD_cons_zero, List.getD_cons_succ, outsOf, keepPin, List.range_succ, List.range_zero, exS, at0, at1, at2, at3, at4, ix0, ix1, ix2, if_true, if_false, true_and, and_true, Bool.false_eq_true, reduceCtorEq, eqvI, eqvS, eqvB, scalI, scalS, scalB, true_or, decide_eq_true_eq, Bool.not_true, Bool.not_false, Bool.not_eq_true, isi_none_int, isi_none_bool, isi_none_str, isi_none_tuple, isi_none_list, isi_none_dict, isi_bool_int, isi_bool_bool, isi_bool_str, isi_bool_tuple, isi_bool_list, isi_bool_dict, isi_int_int, isi_int_bool, isi_int_str, isi_int_tuple, isi_int_list, isi_int_dict, isi_str_int, isi_str_bool, isi_str_str, isi_str_tuple, isi_str_list, isi_str_dict, isi_list_int, isi_list_bool, isi_list_str, isi_list_tuple, isi_list_list, isi_list_dict, isi_tuple_int, isi_tuple_bool, isi_tuple_str, isi_tuple_tuple, isi_tuple_list, isi_tuple_dict, isi_dict_int, isi_dict_bool, isi_dict_str, isi_dict_tuple, isi_dict_list, isi_dict_dict]
      refine ⟨shc, ?_⟩
      simp only [wSeq, wNext, wIfS, wBool, wOp, wAt, wPeek, wName, wC, fIx, wChain, wAndT, wOrT, wNotT, wAndV, wOrV, wNotV, wIf, wNil, wCons, wTup, wLst, wDNew, wFz, fI, fI0, fEq, fNe, fIsN, fIsNot, fAdd, fIn, wC1, wC1F, fLen, fTup, fList, fInt, fAbs, wSlT, wSlL, wNoPart, wPart, wDrop, wRet, wRetF, wRetO, wSet, wSetF, wSetT, wPar, wPut, wBreak, wCont, wItems, wRng1, wRng2, wZip, wEnum, wEnumA, wRev, wFor, wWhile, wLc, wDc, wYes, wCall, wCallF, wCallK, wCallIo, wIsi, wNeg, wGetN, wGetE, wPop2, wAppend, wStar, seqD, fRepT, wDisp, wpCons, wpNil, keysD, dKey, wExtF, fStrI, wCallM, wCallMF, wmNil, wmD, wmS, wmF, avIx, avSls, avSl, avBack, avSet, wParM, List.nodup_nil, List.nodup_cons, List.mem_cons, List.not_mem_nil, or_false, not_false_eq_true, List.drop_succ_cons, List.drop_zero,  wAug, wRepL, wCatO, wCatF, wKeys, wItemsK, bName, bNames, retD, ctD, vd, itemsD, isDict, List.getElem?_cons_zero, List.getElem?_cons_succ, List.set_cons_zero, List.set_cons_succ, List.cons_append, List.nil_append, List.append_nil, List.replicate_succ, List.replicate_zero, List.map_cons, List.map_nil, List.length_cons, List.length_nil, List.zip_cons_cons, List.zip_nil_right, List.zip_nil_left, List.foldl_cons, List.foldl_nil, wipeE, backE, List.getD_cons_zero, List.getD_cons_succ, outsOf, keepPin, List.range_succ, List.range_zero, exS, at0, at1, at2, at3, at4, ix0, ix1, ix2, if_true, if_false, true_and, and_true, Bool.false_eq_true, reduceCtorEq, eqvI, eqvS, eqvB, scalI, scalS, scalB, true_or, decide_eq_true_eq, Bool.not_true, Bool.not_false, Bool.not_eq_true, isi_none_int, isi_none_bool, isi_none_str, isi_none_tuple, isi_none_list, isi_none_dict, isi_bool_int, isi_bool_bool, isi_bool_str, isi_bool_tuple, isi_bool_list, isi_bool_dict, isi_int_int, isi_int_bool, isi_int_str, isi_int_tuple, isi_int_list, isi_int_dict, isi_str_int, isi_str_bool, isi_str_str, isi_str_tuple, isi_str_list, isi_str_dict, isi_list_int, isi_list_bool, isi_list_str, isi_list_tuple, isi_list_list, isi_list_dict, isi_tuple_int, isi_tuple_bool, isi_tuple_str, isi_tuple_tuple, isi_tuple_list, isi_tuple_dict, isi_dict_int, isi_dict_bool, isi_dict_str, isi_dict_tuple, isi_dict_list, isi_dict_dict]
      refine ⟨m, _, c', gs', rfl, oks, les16, hcor, shc, ?_⟩
      simp only [wSeq, wNext, wIfS, wBool, wOp, wAt, wPeek, wName, wC, fIx, wChain, wAndT, wOrT, wNotT, wAndV, wOrV, wNotV, wIf, wNil, wCons, wTup, wLst, wDNew, wFz, fI, fI0, fEq, fNe, fIsN, fIsNot, fAdd, fIn, wC1, wC1F, fLen, fTup, fList, fInt, fAbs, wSlT, wSlL, wNoPart, wPart, wDrop, wRet, wRetF, wRetO, wSet, wSetF, wSetT, wPar, wPut, wBreak, wCont, wItems, wRng1, wRng2, wZip, wEnum, wEnumA, wRev, wFor, wWhile, wLc, wDc, wYes, wCall, wCallF, wCallK, wCallIo, wIsi, wNeg, wGetN, wGetE, wPop2, wAppend, wStar, seqD, fRepT, wDisp, wpCons, wpNil, keysD, dKey, wExtF, fStrI, wCallM, wCallMF, wmNil, wmD, wmS, wmF, avIx, avSls, avSl, avBack, avSet, wParM, List.nodup_nil, List.nodup_cons, List.mem_cons, List.not_mem_nil, or_false, not_false_eq_true, List.drop_succ_cons, List.drop_zero,  wAug, wRepL, wCatO, wCatF, wKeys, wItemsK, bName, bNames, retD, ctD, vd, itemsD, isDict, List.getElem?_cons_zero, List.getElem?_cons_succ, List.set_cons_zero, List.set_cons_succ, List.cons_append, List.nil_append, List.append_nil, List.replicate_succ, List.replicate_zero, List.map_cons, List.map_nil, List.length_cons, List.length_nil, List.zip_cons_cons, List.zip_nil_right, List.zip_nil_left, List.foldl_cons, List.foldl_nil, wipeE, backE, List.getD_cons_zero, List.getD_cons_succ, outsOf, keepPin, List.range_succ, List.range_zero, exS, at0, at1, at2, at3, at4, ix0, ix1, ix2, if_true, if_false, true_and, and_true, Bool.false_eq_true, reduceCtorEq, eqvI, eqvS, eqvB, scalI, scalS, scalB, true_or, decide_eq_true_eq, Bool.not_true, Bool.not_false, Bool.not_eq_true, isi_none_int, isi_none_bool, isi_none_str, isi_none_tuple, isi_none_list, isi_none_dict, isi_bool_int, isi_bool_bool, isi_bool_str, isi_bool_tuple, isi_bool_list, isi_bool_dict, isi_int_int, isi_int_bool, isi_int_str, isi_int_tuple, isi_int_list, isi_int_dict, isi_str_int, isi_str_bool, isi_str_str, isi_str_tuple, isi_str_list, isi_str_dict, isi_list_int, isi_list_bool, isi_list_str, isi_list_tuple, isi_list_list, isi_list_dict, isi_tuple_int, isi_tuple_bool, isi_tuple_str, isi_tuple_tuple, isi_tuple_list, isi_tuple_dict, isi_dict_int, isi_dict_bool, isi_dict_str, isi_dict_tuple, isi_dict_list, isi_dict_dict]
      refine iteN (by simp) ?_
      simp only [w__law_right_L1_3_e, pathD, wSeq, wNext, wIfS, wBool, wOp, wAt, wPeek, wName, wC, fIx, wChain, wAndT, wOrT, wNotT, wAndV, wOrV, wNotV, wIf, wNil, wCons, wTup, wLst, wDNew, wFz, fI, fI0, fEq, fNe, fIsN, fIsNot, fAdd, fIn, wC1, wC1F, fLen, fTup, fList, fInt, fAbs, wSlT, wSlL, wNoPart, wPart, wDrop, wRet, wRetF, wRetO, wSet, wSetF, wSetT, wPar, wPut, wBreak, wCont, wItems, wRng1, wRng2, wZip, wEnum, wEnumA, wRev, wFor, wWhile, wLc, wDc, wYes, wCall, wCallF, wCallK, wCallIo, wIsi, wNeg, wGetN, wGetE, wPop2, wAppend, wStar, seqD, fRepT, wDisp, wpCons, wpNil, keysD, dKey, wExtF, fStrI, wCallM, wCallMF, wmNil, wmD, wmS, wmF, avIx, avSls, avSl, avBack, avSet, wParM, List.nodup_nil, List.nodup_cons, List.mem_cons, List.not_mem_nil, or_false, not_false_eq_true, List.drop_succ_cons, List.drop_zero,  wAug, wRepL, wCatO, wCatF, wKeys, wItemsK, bName, bNames, retD, ctD, vd, itemsD, isDict, List.getElem?_cons_zero, List.getElem?_cons_succ, List.set_cons_zero, List.set_cons_succ, List.cons_append, List.nil_append, List.append_nil, List.replicate_succ, List.replicate_zero, List.map_cons, List.map_nil, List.length_cons, List.length_nil, List.zip_cons_cons, List.zip_nil_right, List.zip_nil_left, List.foldl_cons, List.foldl_nil, wipeE, backE, List.getD_cons_zero, List.getD_cons_succ, outsOf, keepPin, List.range_succ, List.range_zero, exS, at0, at1, at2, at3, at4, ix0, ix1, ix2, if_true, if_false, true_and, and_true, Bool.false_eq_true, reduceCtorEq, eqvI, eqvS, eqvB, scalI, scalS, scalB, true_or, decide_eq_true_eq, Bool.not_true, Bool.not_false, Bool.not_eq_true, isi_none_int, isi_none_bool, isi_none_str, isi_none_tuple, isi_none_list, isi_none_dict, isi_bool_int, isi_bool_bool, isi_bool_str, isi_bool_tuple, isi_bool_list, isi_bool_dict, isi_int_int, isi_int_bool, isi_int_str, isi_int_tuple, isi_int_list, isi_int_dict, isi_str_int, isi_str_bool, isi_str_str, isi_str_tuple, isi_str_list, isi_str_dict, isi_list_int, isi_list_bool, isi_list_str, isi_list_tuple, isi_list_list, isi_list_dict, isi_tuple_int, isi_tuple_bool, isi_tuple_str, isi_tuple_tuple, isi_tuple_list, isi_tuple_dict, isi_dict_int, isi_dict_bool, isi_dict_str, isi_dict_tuple, isi_dict_list, isi_dict_dict]
      rw [List.length_map]
      refine ⟨ds, c, _, rfl, hd, by omega, by omega, by omega, fun v ds1 v0 v1 h1 => ?_⟩
      simp only [wSeq, wNext, wIfS, wBool, wOp, wAt, wPeek, wName, wC, fIx, wChain, wAndT, wOrT, wNotT, wAndV, wOrV, wNotV, wIf, wNil, wCons, wTup, wLst, wDNew, wFz, fI, fI0, fEq, fNe, fIsN, fIsNot, fAdd, fIn, wC1, wC1F, fLen, fTup, fList, fInt, fAbs, wSlT, wSlL, wNoPart, wPart, wDrop, wRet, wRetF, wRetO, wSet, wSetF, wSetT, wPar, wPut, wBreak, wCont, wItems, wRng1, wRng2, wZip, wEnum, wEnumA, wRev, wFor, wWhile, wLc, wDc, wYes, wCall, wCallF, wCallK, wCallIo, wIsi, wNeg, wGetN, wGetE, wPop2, wAppend, wStar, seqD, fRepT, wDisp, wpCons, wpNil, keysD, dKey, wExtF, fStrI, wCallM, wCallMF, wmNil, wmD, wmS, wmF, avIx, avSls, avSl, avBack, avSet, wParM, List.nodup_nil, List.nodup_cons, List.mem_cons, List.not_mem_nil, or_false, not_false_eq_true, List.drop_succ_cons, List.drop_zero,  wAug, wRepL, wCatO, wCatF, wKeys, wItemsK, bName, bNames, retD, ctD, vd, itemsD, isDict, List.getElem?_cons_zero, List.getElem?_cons_succ, List.set_cons_zero, List.set_cons_succ, List.cons_append, List.nil_append, List.append_nil, List.replicate_succ, List.replicate_zero, List.map_cons, List.map_nil, List.length_cons, List.length_nil, List.zip_cons_cons, List.zip_nil_right, List.zip_nil_left, List.foldl_cons, List.foldl_nil, wipeE, backE, List.getD_cons_zero, List.getD_cons_succ, outsOf, keepPin, List.range_succ, List.range_zero, exS, at0, at1, at2, at3, at4, ix0, ix1, ix2, if_true, if_false, true_and, and_true, Bool.false_eq_true, reduceCtorEq, eqvI, eqvS, eqvB, scalI, scalS, scalB, true_or, decide_eq_true_eq, Bool.not_true, Bool.not_false, Bool.not_eq_true, isi_none_int, isi_none_bool, isi_none_str, isi_none_tuple, isi_none_list, isi_none_dict, isi_bool_int, isi_bool_bool, isi_bool_str, isi_bool_tuple, isi_bool_list, isi_bool_dict, isi_int_int, isi_int_bool, isi_int_str, isi_int_tuple, isi_int_list, isi_int_dict, isi_str_int, isi_str_bool, isi_str_str, isi_str_tuple, isi_str_list, isi_str_dict, isi_list_int, isi_list_bool, isi_list_str, isi_list_tuple, isi_list_list, isi_list_dict, isi_tuple_int, isi_tuple_bool, isi_tuple_str, isi_tuple_tuple, isi_tuple_list, isi_tuple_dict, isi_dict_int, isi_dict_bool, isi_dict_str, isi_dict_tuple, isi_dict_list, isi_dict_dict]
      refine ⟨by decide, ds1, _, _, rfl, h1, by omega, by simp, by simp, fun x ds2 hx h2 => ?_⟩
      obtain ⟨a, rfl, ha⟩ : ∃ a : Nat, x = .int (a : Int) ∧ a < (inC m.c m.gs).length := by
        simp only [List.mem_cons, List.not_mem_nil, or_false] at hx
        rcases hx with rfl | rfl | rfl
        · exact ⟨(inC m.c m.gs).length - 1, by congr 1; omega, by omega⟩
        · exact ⟨(inC m.c m.gs).length - 1, by congr 1; omega, by omega⟩
        · exact ⟨v.toNat, by congr 1; omega, by omega⟩
      simp only [w__law_right_L1_4_e, wSeq, wNext, wIfS, wBool, wOp, wAt, wPeek, wName, wC, fIx, wChain, wAndT, wOrT, wNotT, wAndV, wOrV, wNotV, wIf, wNil, wCons, wTup, wLst, wDNew, wFz, fI, fI0, fEq, fNe, fIsN, fIsNot, fAdd, fIn, wC1, wC1F, fLen, fTup, fList, fInt, fAbs, wSlT, wSlL, wNoPart, wPart, wDrop, wRet, wRetF, wRetO, wSet, wSetF, wSetT, wPar, wPut, wBreak, wCont, wItems, wRng1, wRng2, wZip, wEnum, wEnumA, wRev, wFor, wWhile, wLc, wDc, wYes, wCall, wCallF, wCallK, wCallIo, wIsi, wNeg, wGetN, wGetE, wPop2, wAppend, wStar, seqD, fRepT, wDisp, wpCons, wpNil, keysD, dKey, wExtF, fStrI, wCallM, wCallMF, wmNil, wmD, wmS, wmF, avIx, avSls, avSl, avBack, avSet, wParM, List.nodup_nil, List.nodup_cons, List.mem_cons, List.not_mem_nil, or_false, not_false_eq_true, List.drop_succ_cons, List.drop_zero,  wAug, wRepL, wCatO, wCatF, wKeys, wItemsK, bName, bNames, retD, ctD, vd, itemsD, isDict, List.getElem?_cons_zero, List.getElem?_cons_succ, List.set_cons_zero, List.set_cons_succ, List.cons_append, List.nil_append, List.append_nil, List.replicate_succ, List.replicate_zero, List.map_cons, List.map_nil, List.length_cons, List.length_nil, List.zip_cons_cons, List.zip_nil_right, List.zip_nil_left, List.foldl_cons, List.foldl_nil, wipeE, backE, List.getD_cons_zero, List.getD_cons_succ, outsOf, keepPin, List.range_succ, List.range_zero, exS, at0, at1, at2, at3, at4, ix0, ix1, ix2, if_true, if_false, true_and, and_true, Bool.false_eq_true, reduceCtorEq, eqvI, eqvS, eqvB, scalI, scalS, scalB, true_or, decide_eq_true_eq, Bool.not_true, Bool.not_false, Bool.not_eq_true, isi_none_int, isi_none_bool, isi_none_str, isi_none_tuple, isi_none_list, isi_none_dict, isi_bool_int, isi_bool_bool, isi_bool_str, isi_bool_tuple, isi_bool_list, isi_bool_dict, isi_int_int, isi_int_bool, isi_int_str, isi_int_tuple, isi_int_list, isi_int_dict, isi_str_int, isi_str_bool, isi_str_str, isi_str_tuple, isi_str_list, isi_str_dict, isi_list_int, isi_list_bool, isi_list_str, isi_list_tuple, isi_list_list, isi_list_dict, isi_tuple_int, isi_tuple_bool, isi_tuple_str, isi_tuple_tuple, isi_tuple_list, isi_tuple_dict, isi_dict_int, isi_dict_bool, isi_dict_str, isi_dict_tuple, isi_dict_list, isi_dict_dict]
      rw [show ((a : Int) + 1) = ((a + 1 : Nat) : Int) by omega, cut_take, cut_take, ← List.map_take, ← List.map_take]
      obtain ⟨r, w1, w2, w3, w4, w5, w6, _⟩ := with_taken a ok oks les ha
      refine ⟨m, (inC m.c m.gs).take (a + 1), .no, r, rfl, by simp; omega, w1, ?_⟩
      simp only [wSeq, wNext, wIfS, wBool, wOp, wAt, wPeek, wName, wC, fIx, wChain, wAndT, wOrT, wNotT, wAndV, wOrV, wNotV, wIf, wNil, wCons, wTup, wLst, wDNew, wFz, fI, fI0, fEq, fNe, fIsN, fIsNot, fAdd, fIn, wC1, wC1F, fLen, fTup, fList, fInt, fAbs, wSlT, wSlL, wNoPart, wPart, wDrop, wRet, wRetF, wRetO, wSet, wSetF, wSetT, wPar, wPut, wBreak, wCont, wItems, wRng1, wRng2, wZip, wEnum, wEnumA, wRev, wFor, wWhile, wLc, wDc, wYes, wCall, wCallF, wCallK, wCallIo, wIsi, wNeg, wGetN, wGetE, wPop2, wAppend, wStar, seqD, fRepT, wDisp, wpCons, wpNil, keysD, dKey, wExtF, fStrI, wCallM, wCallMF, wmNil, wmD, wmS, wmF, avIx, avSls, avSl, avBack, avSet, wParM, List.nodup_nil, List.nodup_cons, List.mem_cons, List.not_mem_nil, or_false, not_false_eq_true, List.drop_succ_cons, List.drop_zero,  wAug, wRepL, wCatO, wCatF, wKeys, wItemsK, bName, bNames, retD, ctD, vd, itemsD, isDict, List.getElem?_cons_zero, List.getElem?_cons_succ, List.set_cons_zero, List.set_cons_succ, List.cons_append, List.nil_append, List.append_nil, List.replicate_succ, List.replicate_zero, List.map_cons, List.map_nil, List.length_cons, List.length_nil, List.zip_cons_cons, List.zip_nil_right, List.zip_nil_left, List.foldl_cons, List.foldl_nil, wipeE, backE, List.getD_cons_zero, List.getD_cons_succ, outsOf, keepPin, List.range_succ, List.range_zero, exS, at0, at1, at2, at3, at4, ix0, ix1, ix2, if_true, if_false, true_and, and_true, Bool.false_eq_true, reduceCtorEq, eqvI, eqvS, eqvB, scalI, scalS, scalB, true_or, decide_eq_true_eq, Bool.not_true, Bool.not_false, Bool.not_eq_true, isi_none_int, isi_none_bool, isi_none_str, isi_none_tuple, isi_none_list, isi_none_dict, isi_bool_int, isi_bool_bool, isi_bool_str, isi_bool_tuple, isi_bool_list, isi_bool_dict, isi_int_int, isi_int_bool, isi_int_str, isi_int_tuple, isi_int_list, isi_int_dict, isi_str_int, isi_str_bool, isi_str_str, isi_str_tuple, isi_str_list, isi_str_dict, isi_list_int, isi_list_bool, isi_list_str, isi_list_tuple, isi_list_list, isi_list_dict, isi_tuple_int, isi_tuple_bool, isi_tuple_str, isi_tuple_tuple, isi_tuple_list, isi_tuple_dict, isi_dict_int, isi_dict_bool, isi_dict_str, isi_dict_tuple, isi_dict_list, isi_dict_dict]
      have ep : PyData.tuple (((inC m.c m.gs).take a).map numD) = pathD (inC r.1 r.2) := by rw [w2]; rfl
      rw [ep]
      exact right_loop hC its { m with c := r.1, gs := r.2 } ds2 _ _ _ h2 (by omega) w3 w4 w5 (by show tot r.2 ≤ _; omega) (by show (inC r.1 r.2).length < _; rw [w2, List.length_take]; omega) k
theorem body__law_right : Bd__law_right := by
  intro as R h
  obtain ⟨ds, b, rfl, hd, k⟩ := h
  unfold w__law_right
  simp only [w__law_right_0_e, wSeq, wNext, wIfS, wBool, wOp, wAt, wPeek, wName, wC, fIx, wChain, wAndT, wOrT, wNotT, wAndV, wOrV, wNotV, wIf, wNil, wCons, wTup, wLst, wDNew, wFz, fI, fI0, fEq, fNe, fIsN, fIsNot, fAdd, fIn, wC1, wC1F, fLen, fTup, fList, fInt, fAbs, wSlT, wSlL, wNoPart, wPart, wDrop, wRet, wRetF, wRetO, wSet, wSetF, wSetT, wPar, wPut, wBreak, wCont, wItems, wRng1, wRng2, wZip, wEnum, wEnumA, wRev, wFor, wWhile, wLc, wDc, wYes, wCall, wCallF, wCallK, wCallIo, wIsi, wNeg, wGetN, wGetE, wPop2, wAppend, wStar, seqD, fRepT, wDisp, wpCons, wpNil, keysD, dKey, wExtF, fStrI, wCallM, wCallMF, wmNil, wmD, wmS, wmF, avIx, avSls, avSl, avBack, avSet, wParM, List.nodup_nil, List.nodup_cons, List.mem_cons, List.not_mem_nil, or_false, not_false_eq_true, List.drop_succ_cons, List.drop_zero,  wAug, wRepL, wCatO, wCatF, wKeys, wItemsK, bName, bNames, retD, ctD, vd, itemsD, isDict, List.getElem?_cons_zero, List.getElem?_cons_succ, List.set_cons_zero, List.set_cons_succ, List.cons_append, List.nil_append, List.append_nil, List.replicate_succ, List.replicate_zero, List.map_cons, List.map_nil, List.length_cons, List.length_nil, List.zip_cons_cons, List.zip_nil_right, List.zip_nil_left, List.foldl_cons, List.foldl_nil, wipeE, backE, List.getD_cons_zero, List.getD_cons_succ, outsOf, keepPin, List.range_succ, List.range_zero, exS, at0, at1, at2, at3, at4, ix0, ix1, ix2, if_true, if_false, true_and, and_true, Bool.false_eq_true, reduceCtorEq, eqvI, eqvS, eqvB, scalI, scalS, scalB, true_or, decide_eq_true_eq, Bool.not_true, Bool.not_false, Bool.not_eq_true, isi_none_int, isi_none_bool, isi_none_str, isi_none_tuple, isi_none_list, isi_none_dict, isi_bool_int, isi_bool_bool, isi_bool_str, isi_bool_tuple, isi_bool_list, isi_bool_dict, isi_int_int, isi_int_bool, isi_int_str, isi_int_tuple, isi_int_list, isi_int_dict, isi_str_int, isi_str_bool, isi_str_str, isi_str_tuple, isi_str_list, isi_str_dict, isi_list_int, isi_list_bool, isi_list_str, isi_list_tuple, isi_list_list, isi_list_dict, isi_tuple_int, isi_tuple_bool, isi_tuple_str, isi_tuple_tuple, isi_tuple_list, isi_tuple_dict, isi_dict_int, isi_dict_bool, isi_dict_str, isi_dict_tuple, isi_dict_list, isi_dict_dict]
  refine ⟨by decide, ds, _, _, rfl, hd, by omega, by simp, by simp, fun x ds1 hx h1 => ?_⟩
  obtain ⟨most, rfl⟩ : ∃ z : Int, x = .int z := by
    simp only [List.mem_cons, List.not_mem_nil, or_false] at hx
    rcases hx with rfl | rfl | rfl <;> exact ⟨_, rfl⟩
  simp only [wSeq, wNext, wIfS, wBool, wOp, wAt, wPeek, wName, wC, fIx, wChain, wAndT, wOrT, wNotT, wAndV, wOrV, wNotV, wIf, wNil, wCons, wTup, wLst, wDNew, wFz, fI, fI0, fEq, fNe, fIsN, fIsNot, fAdd, fIn, wC1, wC1F, fLen, fTup, fList, fInt, fAbs, wSlT, wSlL, wNoPart, wPart, wDrop, wRet, wRetF, wRetO, wSet, wSetF, wSetT, wPar, wPut, wBreak, wCont, wItems, wRng1, wRng2, wZip, wEnum, wEnumA, wRev, wFor, wWhile, wLc, wDc, wYes, wCall, wCallF, wCallK, wCallIo, wIsi, wNeg, wGetN, wGetE, wPop2, wAppend, wStar, seqD, fRepT, wDisp, wpCons, wpNil, keysD, dKey, wExtF, fStrI, wCallM, wCallMF, wmNil, wmD, wmS, wmF, avIx, avSls, avSl, avBack, avSet, wParM, List.nodup_nil, List.nodup_cons, List.mem_cons, List.not_mem_nil, or_false, not_false_eq_true, List.drop_succ_cons, List.drop_zero,  wAug, wRepL, wCatO, wCatF, wKeys, wItemsK, bName, bNames, retD, ctD, vd, itemsD, isDict, List.getElem?_cons_zero, List.getElem?_cons_succ, List.set_cons_zero, List.set_cons_succ, List.cons_append, List.nil_append, List.append_nil, List.replicate_succ, List.replicate_zero, List.map_cons, List.map_nil, List.length_cons, List.length_nil, List.zip_cons_cons, List.zip_nil_right, List.zip_nil_left, List.foldl_cons, List.foldl_nil, wipeE, backE, List.getD_cons_zero, List.getD_cons_succ, outsOf, keepPin, List.range_succ, List.range_zero, exS, at0, at1, at2, at3, at4, ix0, ix1, ix2, if_true, if_false, true_and, and_true, Bool.false_eq_true, reduceCtorEq, eqvI, eqvS, eqvB, scalI, scalS, scalB, true_or, decide_eq_true_eq, Bool.not_true, Bool.not_false, Bool.not_eq_true, isi_none_int, isi_none_bool, isi_none_str, isi_none_tuple, isi_none_list, isi_none_dict, isi_bool_int, isi_bool_bool, isi_bool_str, isi_bool_tuple, isi_bool_list, isi_bool_dict, isi_int_int, isi_int_bool, isi_int_str, isi_int_tuple, isi_int_list, isi_int_dict, isi_str_int, isi_str_bool, isi_str_str, isi_str_tuple, isi_str_list, isi_str_dict, isi_list_int, isi_list_bool, isi_list_str, isi_list_tuple, isi_list_list, isi_list_dict, isi_tuple_int, isi_tuple_bool, isi_tuple_str, isi_tuple_tuple, isi_tuple_list, isi_tuple_dict, isi_dict_int, isi_dict_bool, isi_dict_str, isi_dict_tuple, isi_dict_list, isi_dict_dict]
  refine ⟨by decide, ds1, _, _, rfl, h1, by omega, by simp, by simp, fun x ds2 hx h2 => ?_⟩
  obtain ⟨deep, rfl, hdeep⟩ : ∃ z : Nat, x = .int (z : Int) ∧ z ≤ 4 := by
    simp only [List.mem_cons, List.not_mem_nil, or_false] at hx
    rcases hx with rfl | rfl | rfl
    · exact ⟨1, rfl, by decide⟩
    · exact ⟨2, rfl, by decide⟩
    · exact ⟨4, rfl, by decide⟩
  simp only [wSeq, wNext, wIfS, wBool, wOp, wAt, wPeek, wName, wC, fIx, wChain, wAndT, wOrT, wNotT, wAndV, wOrV, wNotV, wIf, wNil, wCons, wTup, wLst, wDNew, wFz, fI, fI0, fEq, fNe, fIsN, fIsNot, fAdd, fIn, wC1, wC1F, fLen, fTup, fList, fInt, fAbs, wSlT, wSlL, wNoPart, wPart, wDrop, wRet, wRetF, wRetO, wSet, wSetF, wSetT, wPar, wPut, wBreak, wCont, wItems, wRng1, wRng2, wZip, wEnum, wEnumA, wRev, wFor, wWhile, wLc, wDc, wYes, wCall, wCallF, wCallK, wCallIo, wIsi, wNeg, wGetN, wGetE, wPop2, wAppend, wStar, seqD, fRepT, wDisp, wpCons, wpNil, keysD, dKey, wExtF, fStrI, wCallM, wCallMF, wmNil, wmD, wmS, wmF, avIx, avSls, avSl, avBack, avSet, wParM, List.nodup_nil, List.nodup_cons, List.mem_cons, List.not_mem_nil, or_false, not_false_eq_true, List.drop_succ_cons, List.drop_zero,  wAug, wRepL, wCatO, wCatF, wKeys, wItemsK, bName, bNames, retD, ctD, vd, itemsD, isDict, List.getElem?_cons_zero, List.getElem?_cons_succ, List.set_cons_zero, List.set_cons_succ, List.cons_append, List.nil_append, List.append_nil, List.replicate_succ, List.replicate_zero, List.map_cons, List.map_nil, List.length_cons, List.length_nil, List.zip_cons_cons, List.zip_nil_right, List.zip_nil_left, List.foldl_cons, List.foldl_nil, wipeE, backE, List.getD_cons_zero, List.getD_cons_succ, outsOf, keepPin, List.range_succ, List.range_zero, exS, at0, at1, at2, at3, at4, ix0, ix1, ix2, if_true, if_false, true_and, and_true, Bool.false_eq_true, reduceCtorEq, eqvI, eqvS, eqvB, scalI, scalS, scalB, true_or, decide_eq_true_eq, Bool.not_true, Bool.not_false, Bool.not_eq_true, isi_none_int, isi_none_bool, isi_none_str, isi_none_tuple, isi_none_list, isi_none_dict, isi_bool_int, isi_bool_bool, isi_bool_str, isi_bool_tuple, isi_bool_list, isi_bool_dict, isi_int_int, isi_int_bool, isi_int_str, isi_int_tuple, isi_int_list, isi_int_dict, isi_str_int, isi_str_bool, isi_str_str, isi_str_tuple, isi_str_list, isi_str_dict, isi_list_int, isi_list_bool, isi_list_str, isi_list_tuple, isi_list_list, isi_list_dict, isi_tuple_int, isi_tuple_bool, isi_tuple_str, isi_tuple_tuple, isi_tuple_list, isi_tuple_dict, isi_dict_int, isi_dict_bool, isi_dict_str, isi_dict_tuple, isi_dict_list, isi_dict_dict]
  refine ⟨ds2, _, most, deep, rfl, h2, by omega, hdeep, fun m ds3 hm h3 => ?_⟩
  simp only [wSeq, wNext, wIfS, wBool, wOp, wAt, wPeek, wName, wC, fIx, wChain, wAndT, wOrT, wNotT, wAndV, wOrV, wNotV, wIf, wNil, wCons, wTup, wLst, wDNew, wFz, fI, fI0, fEq, fNe, fIsN, fIsNot, fAdd, fIn, wC1, wC1F, fLen, fTup, fList, fInt, fAbs, wSlT, wSlL, wNoPart, wPart, wDrop, wRet, wRetF, wRetO, wSet, wSetF, wSetT, wPar, wPut, wBreak, wCont, wItems, wRng1, wRng2, wZip, wEnum, wEnumA, wRev, wFor, wWhile, wLc, wDc, wYes, wCall, wCallF, wCallK, wCallIo, wIsi, wNeg, wGetN, wGetE, wPop2, wAppend, wStar, seqD, fRepT, wDisp, wpCons, wpNil, keysD, dKey, wExtF, fStrI, wCallM, wCallMF, wmNil, wmD, wmS, wmF, avIx, avSls, avSl, avBack, avSet, wParM, List.nodup_nil, List.nodup_cons, List.mem_cons, List.not_mem_nil, or_false, not_false_eq_true, List.drop_succ_cons, List.drop_zero,  wAug, wRepL, wCatO, wCatF, wKeys, wItemsK, bName, bNames, retD, ctD, vd, itemsD, isDict, List.getElem?_cons_zero, List.getElem?_cons_succ, List.set_cons_zero, List.set_cons_succ, List.cons_append, List.nil_append, List.append_nil, List.replicate_succ, List.replicate_zero, List.map_cons, List.map_nil, List.length_cons, List.length_nil, List.zip_cons_cons, List.zip_nil_right, List.zip_nil_left, List.foldl_cons, List.foldl_nil, wipeE, backE, List.getD_cons_zero, List.getD_cons_succ, outsOf, keepPin, List.range_succ, List.range_zero, exS, at0, at1, at2, at3, at4, ix0, ix1, ix2, if_true, if_false, true_and, and_true, Bool.false_eq_true, reduceCtorEq, eqvI, eqvS, eqvB, scalI, scalS, scalB, true_or, decide_eq_true_eq, Bool.not_true, Bool.not_false, Bool.not_eq_true, isi_none_int, isi_none_bool, isi_none_str, isi_none_tuple, isi_none_list, isi_none_dict, isi_bool_int, isi_bool_bool, isi_bool_str, isi_bool_tuple, isi_bool_list, isi_bool_dict, isi_int_int, isi_int_bool, isi_int_str, isi_int_tuple, isi_int_list, isi_int_dict, isi_str_int, isi_str_bool, isi_str_str, isi_str_tuple, isi_str_list, isi_str_dict, isi_list_int, isi_list_bool, isi_list_str, isi_list_tuple, isi_list_list, isi_list_dict, isi_tuple_int, isi_tuple_bool, isi_tuple_str, isi_tuple_tuple, isi_tuple_list, isi_tuple_dict, isi_dict_int, isi_dict_bool, isi_dict_str, isi_dict_tuple, isi_dict_list, isi_dict_dict]
  simp only [w__law_right_1_e, mD, wSeq, wNext, wIfS, wBool, wOp, wAt, wPeek, wName, wC, fIx, wChain, wAndT, wOrT, wNotT, wAndV, wOrV, wNotV, wIf, wNil, wCons, wTup, wLst, wDNew, wFz, fI, fI0, fEq, fNe, fIsN, fIsNot, fAdd, fIn, wC1, wC1F, fLen, fTup, fList, fInt, fAbs, wSlT, wSlL, wNoPart, wPart, wDrop, wRet, wRetF, wRetO, wSet, wSetF, wSetT, wPar, wPut, wBreak, wCont, wItems, wRng1, wRng2, wZip, wEnum, wEnumA, wRev, wFor, wWhile, wLc, wDc, wYes, wCall, wCallF, wCallK, wCallIo, wIsi, wNeg, wGetN, wGetE, wPop2, wAppend, wStar, seqD, fRepT, wDisp, wpCons, wpNil, keysD, dKey, wExtF, fStrI, wCallM, wCallMF, wmNil, wmD, wmS, wmF, avIx, avSls, avSl, avBack, avSet, wParM, List.nodup_nil, List.nodup_cons, List.mem_cons, List.not_mem_nil, or_false, not_false_eq_true, List.drop_succ_cons, List.drop_zero,  wAug, wRepL, wCatO, wCatF, wKeys, wItemsK, bName, bNames, retD, ctD, vd, itemsD, isDict, List.getElem?_cons_zero, List.getElem?_cons_succ, List.set_cons_zero, List.set_cons_succ, List.cons_append, List.nil_append, List.append_nil, List.replicate_succ, List.replicate_zero, List.map_cons, List.map_nil, List.length_cons, List.length_nil, List.zip_cons_cons, List.zip_nil_right, List.zip_nil_left, List.foldl_cons, List.foldl_nil, wipeE, backE, List.getD_cons_zero, List.getD_cons_succ, outsOf, keepPin, List.range_succ, List.range_zero, exS, at0, at1, at2, at3, at4, ix0, ix1, ix2, if_true, if_false, true_and, and_true, Bool.false_eq_true, reduceCtorEq, eqvI, eqvS, eqvB, scalI, scalS, scalB, true_or, decide_eq_true_eq, Bool.not_true, Bool.not_false, Bool.not_eq_true, isi_none_int, isi_none_bool, isi_none_str, isi_none_tuple, isi_none_list, isi_none_dict, isi_bool_int, isi_bool_bool, isi_bool_str, isi_bool_tuple, isi_bool_list, isi_bool_dict, isi_int_int, isi_int_bool, isi_int_str, isi_int_tuple, isi_int_list, isi_int_dict, isi_str_int, isi_str_bool, isi_str_str, isi_str_tuple, isi_str_list, isi_str_dict, isi_list_int, isi_list_bool, isi_list_str, isi_list_tuple, isi_list_list, isi_list_dict, isi_tuple_int, isi_tuple_bool, isi_tuple_str, isi_tuple_tuple, isi_tuple_list, isi_tuple_dict, isi_dict_int, isi_dict_bool, isi_dict_str, isi_dict_tuple, isi_dict_list, isi_dict_dict]
  refine ⟨m.c, m.gs, 8, rfl, hm.ok.c, hm.ok.gs, hm.le, by omega, ?_⟩
  simp only [w__law_right_2_e, wSeq, wNext, wIfS, wBool, wOp, wAt, wPeek, wName, wC, fIx, wChain, wAndT, wOrT, wNotT, wAndV, wOrV, wNotV, wIf, wNil, wCons, wTup, wLst, wDNew, wFz, fI, fI0, fEq, fNe, fIsN, fIsNot, fAdd, fIn, wC1, wC1F, fLen, fTup, fList, fInt, fAbs, wSlT, wSlL, wNoPart, wPart, wDrop, wRet, wRetF, wRetO, wSet, wSetF, wSetT, wPar, wPut, wBreak, wCont, wItems, wRng1, wRng2, wZip, wEnum, wEnumA, wRev, wFor, wWhile, wLc, wDc, wYes, wCall, wCallF, wCallK, wCallIo, wIsi, wNeg, wGetN, wGetE, wPop2, wAppend, wStar, seqD, fRepT, wDisp, wpCons, wpNil, keysD, dKey, wExtF, fStrI, wCallM, wCallMF, wmNil, wmD, wmS, wmF, avIx, avSls, avSl, avBack, avSet, wParM, List.nodup_nil, List.nodup_cons, List.mem_cons, List.not_mem_nil, or_false, not_false_eq_true, List.drop_succ_cons, List.drop_zero,  wAug, wRepL, wCatO, wCatF, wKeys, wItemsK, bName, bNames, retD, ctD, vd, itemsD, isDict, List.getElem?_cons_zero, List.getElem?_cons_succ, List.set_cons_zero, List.set_cons_succ, List.cons_append, List.nil_append, List.append_nil, List.replicate_succ, List.replicate_zero, List.map_cons, List.map_nil, List.length_cons, List.length_nil, List.zip_cons_cons, List.zip_nil_right, List.zip_nil_left, List.foldl_cons, List.foldl_nil, wipeE, backE, List.getD_cons_zero, List.getD_cons_succ, outsOf, keepPin, List.range_succ, List.range_zero, exS, at0, at1, at2, at3, at4, ix0, ix1, ix2, if_true, if_false, true_and, and_true, Bool.false_eq_true, reduceCtorEq, eqvI, eqvS, eqvB, scalI, scalS, scalB, true_or, decide_eq_true_eq, Bool.not_true, Bool.not_false, Bool.not_eq_true, isi_none_int, isi_none_bool, isi_none_str, isi_none_tuple, isi_none_list, isi_none_dict, isi_bool_int, isi_bool_bool, isi_bool_str, isi_bool_tuple, isi_bool_list, isi_bool_dict, isi_int_int, isi_int_bool, isi_int_str, isi_int_tuple, isi_int_list, isi_int_dict, isi_str_int, isi_str_bool, isi_str_str, isi_str_tuple, isi_str_list, isi_str_dict, isi_list_int, isi_list_bool, isi_list_str, isi_list_tuple, isi_list_list, isi_list_dict, isi_tuple_int, isi_tuple_bool, isi_tuple_str, isi_tuple_tuple, isi_tuple_list, isi_tuple_dict, isi_dict_int, isi_dict_bool, isi_dict_str, isi_dict_tuple, isi_dict_list, isi_dict_dict]
  refine ⟨by decide, by decide, ?_⟩
  have il := in_len (c := m.c) (gs := m.gs) hm.ok.c hm.ok.gs hm.le
  refine right_loop (C := 0 + 1 + 1 + 5000000 + 18) (by decide) _ m ds3 _ _ _ h3 (by simp) hm.ok.c hm.ok.gs hm.le hm.tt (by simp; omega) fun ρ => ?_
  exact k _
def sp_law : Spc := fun as R => ∃ ns : List Int, as = [.d (.list (ns.map .int))] ∧ ns.length ≤ 63 ∧ (∀ z ∈ ns, Builtin.Int.intBits z ≤ 1048576) ∧ R (.fz (.bool true)) [.no]
theorem len_law : ∀ as R, sp_law as R → as.length = 1 := fun as R ⟨ns, e, _⟩ => by rw [e]; rfl
def w_law_0 : WS := (wRet (wC1 fAll (wFz (wLc [1] (wRng1 (wOp fAdd (wC (.int 1)) (wOp (fI0 fun i j => .int (if j < i then j else i)) (wC (.int 3)) (wC1 fLen (wPeek 0))))) (bName 1) wYes (wCallM sp__law_right (wmF (wCallF sp__law_hand (wCons (wName 0) (wCons (wName 1) wNil))) wmNil))))))
theorem w_law_0_e (E : VD) (ρ : En) : w_law_0 E ρ = (wRet (wC1 fAll (wFz (wLc [1] (wRng1 (wOp fAdd (wC (.int 1)) (wOp (fI0 fun i j => .int (if j < i then j else i)) (wC (.int 3)) (wC1 fLen (wPeek 0))))) (bName 1) wYes (wCallM sp__law_right (wmF (wCallF sp__law_hand (wCons (wName 0) (wCons (wName 1) wNil))) wmNil)))))) E ρ := rfl
def w_law : WS := w_law_0
def Bd_law : Prop := Body 1 1 w_law sp_law
theorem cells_comp {k : List D → En → Prop} {ns : List Int} (hl : ns.length ≤ 63) (hb : ∀ z ∈ ns, Builtin.Int.intBits z ≤ 1048576) : ∀ (its : List Nat) (n : Nat), (∀ j ∈ its, j ≤ 63) → (∀ n, k ((List.replicate n true).map .bool) [.d (.list (ns.map .int)), .no]) →
    compL [1] (bName 1) wYes (wCallM sp__law_right (wmF (wCallF sp__law_hand (wCons (wName 0) (wCons (wName 1) wNil))) wmNil)) (its.map fun (i : Nat) => .int (i : Int)) ((List.replicate n true).map .bool) [.d (.list (ns.map .int)), .no] k
  | [], n, hj, h => by simpa [compL] using h n
  | j :: its, n, hj, h => by
    rw [List.map_cons]
    unfold compL
    simp only [wSeq, wNext, wIfS, wBool, wOp, wAt, wPeek, wName, wC, fIx, wChain, wAndT, wOrT, wNotT, wAndV, wOrV, wNotV, wIf, wNil, wCons, wTup, wLst, wDNew, wFz, fI, fI0, fEq, fNe, fIsN, fIsNot, fAdd, fIn, wC1, wC1F, fLen, fTup, fList, fInt, fAbs, wSlT, wSlL, wNoPart, wPart, wDrop, wRet, wRetF, wRetO, wSet, wSetF, wSetT, wPar, wPut, wBreak, wCont, wItems, wRng1, wRng2, wZip, wEnum, wEnumA, wRev, wFor, wWhile, wLc, wDc, wYes, wCall, wCallF, wCallK, wCallIo, wIsi, wNeg, wGetN, wGetE, wPop2, wAppend, wStar, seqD, fRepT, wDisp, wpCons, wpNil, keysD, dKey, wExtF, fStrI, wCallM, wCallMF, wmNil, wmD, wmS, wmF, avIx, avSls, avSl, avBack, avSet, wParM, List.nodup_nil, List.nodup_cons, List.mem_cons, List.not_mem_nil, or_false, not_false_eq_true, List.drop_succ_cons, List.drop_zero,  wAug, wRepL, wCatO, wCatF, wKeys, wItemsK, bName, bNames, retD, ctD, vd, itemsD, isDict, List.getElem?_cons_zero, List.getElem?_cons_succ, List.set_cons_zero, List.set_cons_succ, List.cons_append, List.nil_append, List.append_nil, List.replicate_succ, List.replicate_zero, List.map_cons, List.map_nil, List.length_cons, List.length_nil, List.zip_cons_cons, List.zip_nil_right, List.zip_nil_left, List.foldl_cons, List.foldl_nil, wipeE, backE, List.getD_cons_zero, List.getD_cons_succ, outsOf, keepPin, List.range_succ, List.range_zero, exS, at0, at1, at2, at3, at4, ix0, ix1, ix2, if_true, if_false, true_and, and_true, Bool.false_eq_true, reduceCtorEq, eqvI, eqvS, eqvB, scalI, scalS, scalB, true_or, decide_eq_true_eq, Bool.not_true, Bool.not_false, Bool.not_eq_true, isi_none_int, isi_none_bool, isi_none_str, isi_none_tuple, isi_none_list, isi_none_dict, isi_bool_int, isi_bool_bool, isi_bool_str, isi_bool_tuple, isi_bool_list, isi_bool_dict, isi_int_int, isi_int_bool, isi_int_str, isi_int_tuple, isi_int_list, isi_int_dict, isi_str_int, isi_str_bool, isi_str_str, isi_str_tuple, isi_str_list, isi_str_dict, isi_list_int, isi_list_bool, isi_list_str, isi_list_tuple, isi_list_list, isi_list_dict, isi_tuple_int, isi_tuple_bool, isi_tuple_str, isi_tuple_tuple, isi_tuple_list, isi_tuple_dict, isi_dict_int, isi_dict_bool, isi_dict_str, isi_dict_tuple, isi_dict_list, isi_dict_dict]
    refine ⟨ns, j, rfl, hj j (by simp), hl, hb, fun ds hd => ?_⟩
    simp only [wSeq, wNext, wIfS, wBool, wOp, wAt, wPeek, wName, wC, fIx, wChain, wAndT, wOrT, wNotT, wAndV, wOrV, wNotV, wIf, wNil, wCons, wTup, wLst, wDNew, wFz, fI, fI0, fEq, fNe, fIsN, fIsNot, fAdd, fIn, wC1, wC1F, fLen, fTup, fList, fInt, fAbs, wSlT, wSlL, wNoPart, wPart, wDrop, wRet, wRetF, wRetO, wSet, wSetF, wSetT, wPar, wPut, wBreak, wCont, wItems, wRng1, wRng2, wZip, wEnum, wEnumA, wRev, wFor, wWhile, wLc, wDc, wYes, wCall, wCallF, wCallK, wCallIo, wIsi, wNeg, wGetN, wGetE, wPop2, wAppend, wStar, seqD, fRepT, wDisp, wpCons, wpNil, keysD, dKey, wExtF, fStrI, wCallM, wCallMF, wmNil, wmD, wmS, wmF, avIx, avSls, avSl, avBack, avSet, wParM, List.nodup_nil, List.nodup_cons, List.mem_cons, List.not_mem_nil, or_false, not_false_eq_true, List.drop_succ_cons, List.drop_zero,  wAug, wRepL, wCatO, wCatF, wKeys, wItemsK, bName, bNames, retD, ctD, vd, itemsD, isDict, List.getElem?_cons_zero, List.getElem?_cons_succ, List.set_cons_zero, List.set_cons_succ, List.cons_append, List.nil_append, List.append_nil, List.replicate_succ, List.replicate_zero, List.map_cons, List.map_nil, List.length_cons, List.length_nil, List.zip_cons_cons, List.zip_nil_right, List.zip_nil_left, List.foldl_cons, List.foldl_nil, wipeE, backE, List.getD_cons_zero, List.getD_cons_succ, outsOf, keepPin, List.range_succ, List.range_zero, exS, at0, at1, at2, at3, at4, ix0, ix1, ix2, if_true, if_false, true_and, and_true, Bool.false_eq_true, reduceCtorEq, eqvI, eqvS, eqvB, scalI, scalS, scalB, true_or, decide_eq_true_eq, Bool.not_true, Bool.not_false, Bool.not_eq_true, isi_none_int, isi_none_bool, isi_none_str, isi_none_tuple, isi_none_list, isi_none_dict, isi_bool_int, isi_bool_bool, isi_bool_str, isi_bool_tuple, isi_bool_list, isi_bool_dict, isi_int_int, isi_int_bool, isi_int_str, isi_int_tuple, isi_int_list, isi_int_dict, isi_str_int, isi_str_bool, isi_str_str, isi_str_tuple, isi_str_list, isi_str_dict, isi_list_int, isi_list_bool, isi_list_str, isi_list_tuple, isi_list_list, isi_list_dict, isi_tuple_int, isi_tuple_bool, isi_tuple_str, isi_tuple_tuple, isi_tuple_list, isi_tuple_dict, isi_dict_int, isi_dict_bool, isi_dict_str, isi_dict_tuple, isi_dict_list, isi_dict_dict]
    refine ⟨ds, true, rfl, hd, fun s => ?_⟩
    simp only [wSeq, wNext, wIfS, wBool, wOp, wAt, wPeek, wName, wC, fIx, wChain, wAndT, wOrT, wNotT, wAndV, wOrV, wNotV, wIf, wNil, wCons, wTup, wLst, wDNew, wFz, fI, fI0, fEq, fNe, fIsN, fIsNot, fAdd, fIn, wC1, wC1F, fLen, fTup, fList, fInt, fAbs, wSlT, wSlL, wNoPart, wPart, wDrop, wRet, wRetF, wRetO, wSet, wSetF, wSetT, wPar, wPut, wBreak, wCont, wItems, wRng1, wRng2, wZip, wEnum, wEnumA, wRev, wFor, wWhile, wLc, wDc, wYes, wCall, wCallF, wCallK, wCallIo, wIsi, wNeg, wGetN, wGetE, wPop2, wAppend, wStar, seqD, fRepT, wDisp, wpCons, wpNil, keysD, dKey, wExtF, fStrI, wCallM, wCallMF, wmNil, wmD, wmS, wmF, avIx, avSls, avSl, avBack, avSet, wParM, List.nodup_nil, List.nodup_cons, List.mem_cons, List.not_mem_nil, or_false, not_false_eq_true, List.drop_succ_cons, List.drop_zero,  wAug, wRepL, wCatO, wCatF, wKeys, wItemsK, bName, bNames, retD, ctD, vd, itemsD, isDict, List.getElem?_cons_zero, List.getElem?_cons_succ, List.set_cons_zero, List.set_cons_succ, List.cons_append, List.nil_append, List.append_nil, List.replicate_succ, List.replicate_zero, List.map_cons, List.map_nil, List.length_cons, List.length_nil, List.zip_cons_cons, List.zip_nil_right, List.zip_nil_left, List.foldl_cons, List.foldl_nil, wipeE, backE, List.getD_cons_zero, List.getD_cons_succ, outsOf, keepPin, List.range_succ, List.range_zero, exS, at0, at1, at2, at3, at4, ix0, ix1, ix2, if_true, if_false, true_and, and_true, Bool.false_eq_true, reduceCtorEq, eqvI, eqvS, eqvB, scalI, scalS, scalB, true_or, decide_eq_true_eq, Bool.not_true, Bool.not_false, Bool.not_eq_true, isi_none_int, isi_none_bool, isi_none_str, isi_none_tuple, isi_none_list, isi_none_dict, isi_bool_int, isi_bool_bool, isi_bool_str, isi_bool_tuple, isi_bool_list, isi_bool_dict, isi_int_int, isi_int_bool, isi_int_str, isi_int_tuple, isi_int_list, isi_int_dict, isi_str_int, isi_str_bool, isi_str_str, isi_str_tuple, isi_str_list, isi_str_dict, isi_list_int, isi_list_bool, isi_list_str, isi_list_tuple, isi_list_list, isi_list_dict, isi_tuple_int, isi_tuple_bool, isi_tuple_str, isi_tuple_tuple, isi_tuple_list, isi_tuple_dict, isi_dict_int, isi_dict_bool, isi_dict_str, isi_dict_tuple, isi_dict_list, isi_dict_dict]
    have ea : (List.replicate n true).map PyData.bool ++ [.bool true] = (List.replicate (n + 1) true).map .bool := by rw [List.replicate_succ', List.map_append]; rfl
    rw [ea]
    exact cells_comp hl hb its (n + 1) (fun q hq => hj q (by simp [hq])) h
theorem body_law : Bd_law := by
  intro as R h
  obtain ⟨ns, rfl, hl, hb, k⟩ := h
  simp only [w_law, w_law_0, wSeq, wNext, wIfS, wBool, wOp, wAt, wPeek, wName, wC, fIx, wChain, wAndT, wOrT, wNotT, wAndV, wOrV, wNotV, wIf, wNil, wCons, wTup, wLst, wDNew, wFz, fI, fI0, fEq, fNe, fIsN, fIsNot, fAdd, fIn, wC1, wC1F, fLen, fTup, fList, fInt, fAbs, wSlT, wSlL, wNoPart, wPart, wDrop, wRet, wRetF, wRetO, wSet, wSetF, wSetT, wPar, wPut, wBreak, wCont, wItems, wRng1, wRng2, wZip, wEnum, wEnumA, wRev, wFor, wWhile, wLc, wDc, wYes, wCall, wCallF, wCallK, wCallIo, wIsi, wNeg, wGetN, wGetE, wPop2, wAppend, wStar, seqD, fRepT, wDisp, wpCons, wpNil, keysD, dKey, wExtF, fStrI, wCallM, wCallMF, wmNil, wmD, wmS, wmF, avIx, avSls, avSl, avBack, avSet, wParM, List.nodup_nil, List.nodup_cons, List.mem_cons, List.not_mem_nil, or_false, not_false_eq_true, List.drop_succ_cons, List.drop_zero,  wAug, wRepL, wCatO, wCatF, wKeys, wItemsK, bName, bNames, retD, ctD, vd, itemsD, isDict, List.getElem?_cons_zero, List.getElem?_cons_succ, List.set_cons_zero, List.set_cons_succ, List.cons_append, List.nil_append, List.append_nil, List.replicate_succ, List.replicate_zero, List.map_cons, List.map_nil, List.length_cons, List.length_nil, List.zip_cons_cons, List.zip_nil_right, List.zip_nil_left, List.foldl_cons, List.foldl_nil, wipeE, backE, List.getD_cons_zero, List.getD_cons_succ, outsOf, keepPin, List.range_succ, List.range_zero, exS, at0, at1, at2, at3, at4, ix0, ix1, ix2, if_true, if_false, true_and, and_true, Bool.false_eq_true, reduceCtorEq, eqvI, eqvS, eqvB, scalI, scalS, scalB, true_or, decide_eq_true_eq, Bool.not_true, Bool.not_false, Bool.not_eq_true, isi_none_int, isi_none_bool, isi_none_str, isi_none_tuple, isi_none_list, isi_none_dict, isi_bool_int, isi_bool_bool, isi_bool_str, isi_bool_tuple, isi_bool_list, isi_bool_dict, isi_int_int, isi_int_bool, isi_int_str, isi_int_tuple, isi_int_list, isi_int_dict, isi_str_int, isi_str_bool, isi_str_str, isi_str_tuple, isi_str_list, isi_str_dict, isi_list_int, isi_list_bool, isi_list_str, isi_list_tuple, isi_list_list, isi_list_dict, isi_tuple_int, isi_tuple_bool, isi_tuple_str, isi_tuple_tuple, isi_tuple_list, isi_tuple_dict, isi_dict_int, isi_dict_bool, isi_dict_str, isi_dict_tuple, isi_dict_list, isi_dict_dict]
  rw [List.length_map]
  have hz : ∃ z : Nat, (1 + if (ns.length : Int) < 3 then (ns.length : Int) else 3) = (z : Int) ∧ z ≤ 4 := by
    split
    · exact ⟨1 + ns.length, by omega, by omega⟩
    · exact ⟨4, rfl, by omega⟩
  obtain ⟨z, ez, hz⟩ := hz
  rw [ez]
  refine ⟨by omega, by omega, noOwn_of rfl, small_len (by simp; omega), ?_⟩
  refine cells_comp hl hb _ 0 (fun j hj => ?_) fun n => ⟨List.replicate n true, rfl, ?_⟩
  · rw [List.mem_range] at hj; omega
  · have e : ((List.replicate n true).all fun b => b) = true := by simp
    rw [e]
    exact k
theorem law_ok : LawOk 63 sp_law := fun ns h1 h2 => ⟨ns, rfl, h1, h2, rfl⟩

end K23

namespace K23
open PySem PySem.Spec PyProof.Rows L2 G

def topS (i : Nat) : Stmt := PySem.Challenge.pw_threemachines_k23_which_core_runs.main.body.getD i (.Pass ⟨0, 0, 0, 0⟩)
abbrev s_is_whole : Stmt := topS 1
abbrev N_is_whole : List Str := ["thing"]
theorem sc_is_whole : FnScope N_is_whole ["thing"] (defScope s_is_whole) := ⟨rfl, rfl, rfl, by decide +kernel, rfl, by decide +kernel, by decide +kernel⟩
abbrev s_is_number : Stmt := topS 4
abbrev N_is_number : List Str := ["thing"]
theorem sc_is_number : FnScope N_is_number ["thing"] (defScope s_is_number) := ⟨rfl, rfl, rfl, by decide +kernel, rfl, by decide +kernel, by decide +kernel⟩
abbrev s_path_of : Stmt := topS 9
abbrev N_path_of : List Str := ["machine", "found", "words", "core", "letters", "sent", "registers", "at", "clock", "guests", "inside", "inner", "table", "way", "fuel"]
theorem sc_path_of : FnScope N_path_of ["machine"] (defScope s_path_of) := ⟨rfl, rfl, rfl, by decide +kernel, rfl, by decide +kernel, by decide +kernel⟩
abbrev s_is_path : Stmt := topS 10
abbrev N_is_path : List Str := ["thing", "one"]
theorem sc_is_path : FnScope N_is_path ["thing"] (defScope s_is_path) := ⟨rfl, rfl, rfl, by decide +kernel, rfl, by decide +kernel, by decide +kernel⟩
abbrev s_chain_to : Stmt := topS 11
abbrev N_chain_to : List Str := ["machine", "path", "found", "number", "words", "core", "letters", "sent", "guest"]
theorem sc_chain_to : FnScope N_chain_to ["machine", "path"] (defScope s_chain_to) := ⟨rfl, rfl, rfl, by decide +kernel, rfl, by decide +kernel, by decide +kernel⟩
abbrev s_core_at : Stmt := topS 12
abbrev N_core_at : List Str := ["machine", "path", "chain"]
theorem sc_core_at : FnScope N_core_at ["machine", "path"] (defScope s_core_at) := ⟨rfl, rfl, rfl, by decide +kernel, rfl, by decide +kernel, by decide +kernel⟩
abbrev s_guest_at : Stmt := topS 13
abbrev N_guest_at : List Str := ["machine", "path", "chain"]
theorem sc_guest_at : FnScope N_guest_at ["machine", "path"] (defScope s_guest_at) := ⟨rfl, rfl, rfl, by decide +kernel, rfl, by decide +kernel, by decide +kernel⟩
abbrev s_core_with : Stmt := topS 14
abbrev N_core_with : List Str := ["core", "path", "guest", "registers", "at", "clock", "guests", "inside", "number", "made", "inner", "further", "table", "way", "fuel"]
theorem sc_core_with : FnScope N_core_with ["core", "path", "guest"] (defScope s_core_with) := ⟨rfl, rfl, rfl, by decide +kernel, rfl, by decide +kernel, by decide +kernel⟩
abbrev s_with_guest : Stmt := topS 15
abbrev N_with_guest : List Str := ["machine", "path", "guest", "made", "words", "core", "letters", "sent"]
theorem sc_with_guest : FnScope N_with_guest ["machine", "path", "guest"] (defScope s_with_guest) := ⟨rfl, rfl, rfl, by decide +kernel, rfl, by decide +kernel, by decide +kernel⟩
abbrev s__law_hand : Stmt := topS 17
abbrev N__law_hand : List Str := ["_law_script", "_law_k", "_law_cell", "_law_great"]
theorem sc__law_hand : FnScope N__law_hand ["_law_script", "_law_k"] (defScope s__law_hand) := ⟨rfl, rfl, rfl, by decide +kernel, rfl, by decide +kernel, by decide +kernel⟩
abbrev s__law_take : Stmt := topS 18
abbrev N__law_take : List Str := ["_law_hand_here", "_law_many", "_law_primes", "_law_prime", "_law_drawn", "_law_digit"]
theorem sc__law_take : FnScope N__law_take ["_law_hand_here", "_law_many"] (defScope s__law_take) := ⟨rfl, rfl, rfl, by decide +kernel, rfl, by decide +kernel, by decide +kernel⟩
abbrev s__law_of : Stmt := topS 19
abbrev N__law_of : List Str := ["_law_hand_here", "_law_some"]
theorem sc__law_of : FnScope N__law_of ["_law_hand_here", "_law_some"] (defScope s__law_of) := ⟨rfl, rfl, rfl, by decide +kernel, rfl, by decide +kernel, by decide +kernel⟩
abbrev s__law_word : Stmt := topS 20
abbrev N__law_word : List Str := ["_law_hand_here"]
theorem sc__law_word : FnScope N__law_word ["_law_hand_here"] (defScope s__law_word) := ⟨rfl, rfl, rfl, by decide +kernel, rfl, by decide +kernel, by decide +kernel⟩
abbrev s__law_table : Stmt := topS 21
abbrev N__law_table : List Str := ["_law_hand_here", "_law_turn", "_law_entries", "_law_page", "_law_frame"]
theorem sc__law_table : FnScope N__law_table ["_law_hand_here"] (defScope s__law_table) := ⟨rfl, rfl, rfl, by decide +kernel, rfl, by decide +kernel, by decide +kernel⟩
abbrev s__law_core : Stmt := topS 22
abbrev N__law_core : List Str := ["_law_hand_here", "_law_pot", "_law_deep", "_law_number", "_law_some", "_law_registers", "_law_guests", "_law_at", "_law_clock", "_law_there", "_law_k"]
theorem sc__law_core : FnScope N__law_core ["_law_hand_here", "_law_pot", "_law_deep"] (defScope s__law_core) := ⟨rfl, rfl, rfl, by decide +kernel, rfl, by decide +kernel, by decide +kernel⟩
abbrev s__law_guest : Stmt := topS 23
abbrev N__law_guest : List Str := ["_law_hand_here", "_law_pot", "_law_deep", "_law_core_here"]
theorem sc__law_guest : FnScope N__law_guest ["_law_hand_here", "_law_pot", "_law_deep"] (defScope s__law_guest) := ⟨rfl, rfl, rfl, by decide +kernel, rfl, by decide +kernel, by decide +kernel⟩
abbrev s__law_tree : Stmt := topS 24
abbrev N__law_tree : List Str := ["_law_hand_here", "_law_most", "_law_deep", "_law_core_here", "_law_turn", "_law_room_here", "_law_letters", "_law_guests", "_law_number", "_law_way", "_law_k"]
theorem sc__law_tree : FnScope N__law_tree ["_law_hand_here", "_law_most", "_law_deep"] (defScope s__law_tree) := ⟨rfl, rfl, rfl, by decide +kernel, rfl, by decide +kernel, by decide +kernel⟩
abbrev s__law_inner : Stmt := topS 25
abbrev N__law_inner : List Str := ["_law_core_here", "_law_found"]
theorem sc__law_inner : FnScope N__law_inner ["_law_core_here"] (defScope s__law_inner) := ⟨rfl, rfl, rfl, by decide +kernel, rfl, by decide +kernel, by decide +kernel⟩
abbrev s__law_right : Stmt := topS 26
abbrev N__law_right : List Str := ["_law_hand_here", "_law_tree_here", "_law_path", "_law_turn", "_law_at"]
theorem sc__law_right : FnScope N__law_right ["_law_hand_here"] (defScope s__law_right) := ⟨rfl, rfl, rfl, by decide +kernel, rfl, by decide +kernel, by decide +kernel⟩
abbrev s_law : Stmt := topS 27
abbrev N_law : List Str := ["_law_script", "_law_k"]
theorem sc_law : FnScope N_law ["_law_script"] (defScope s_law) := ⟨rfl, rfl, rfl, by decide +kernel, rfl, by decide +kernel, by decide +kernel⟩
structure Tp (K : Fg) (mg : Str → Option Value) where
  f_is_whole : Addr
  d_is_whole : FuncData
  F_is_whole : Fun K "is_whole" "is_whole" s_is_whole f_is_whole d_is_whole
  b_is_whole : Binds K d_is_whole ["thing"] []
  g_is_whole : mg "is_whole" = some (.ref f_is_whole)
  f_is_number : Addr
  d_is_number : FuncData
  F_is_number : Fun K "is_number" "is_number" s_is_number f_is_number d_is_number
  b_is_number : Binds K d_is_number ["thing"] []
  g_is_number : mg "is_number" = some (.ref f_is_number)
  f_path_of : Addr
  d_path_of : FuncData
  F_path_of : Fun K "path_of" "path_of" s_path_of f_path_of d_path_of
  b_path_of : Binds K d_path_of ["machine"] []
  g_path_of : mg "path_of" = some (.ref f_path_of)
  f_is_path : Addr
  d_is_path : FuncData
  F_is_path : Fun K "is_path" "is_path" s_is_path f_is_path d_is_path
  b_is_path : Binds K d_is_path ["thing"] []
  g_is_path : mg "is_path" = some (.ref f_is_path)
  f_chain_to : Addr
  d_chain_to : FuncData
  F_chain_to : Fun K "chain_to" "chain_to" s_chain_to f_chain_to d_chain_to
  b_chain_to : Binds K d_chain_to ["machine", "path"] []
  g_chain_to : mg "chain_to" = some (.ref f_chain_to)
  f_core_at : Addr
  d_core_at : FuncData
  F_core_at : Fun K "core_at" "core_at" s_core_at f_core_at d_core_at
  b_core_at : Binds K d_core_at ["machine", "path"] []
  g_core_at : mg "core_at" = some (.ref f_core_at)
  f_guest_at : Addr
  d_guest_at : FuncData
  F_guest_at : Fun K "guest_at" "guest_at" s_guest_at f_guest_at d_guest_at
  b_guest_at : Binds K d_guest_at ["machine", "path"] []
  g_guest_at : mg "guest_at" = some (.ref f_guest_at)
  f_core_with : Addr
  d_core_with : FuncData
  F_core_with : Fun K "core_with" "core_with" s_core_with f_core_with d_core_with
  b_core_with : Binds K d_core_with ["core", "path", "guest"] []
  g_core_with : mg "core_with" = some (.ref f_core_with)
  f_with_guest : Addr
  d_with_guest : FuncData
  F_with_guest : Fun K "with_guest" "with_guest" s_with_guest f_with_guest d_with_guest
  b_with_guest : Binds K d_with_guest ["machine", "path", "guest"] []
  g_with_guest : mg "with_guest" = some (.ref f_with_guest)
  f__law_hand : Addr
  d__law_hand : FuncData
  F__law_hand : Fun K "_law_hand" "_law_hand" s__law_hand f__law_hand d__law_hand
  b__law_hand : Binds K d__law_hand ["_law_script", "_law_k"] []
  g__law_hand : mg "_law_hand" = some (.ref f__law_hand)
  f__law_take : Addr
  d__law_take : FuncData
  F__law_take : Fun K "_law_take" "_law_take" s__law_take f__law_take d__law_take
  b__law_take : Binds K d__law_take ["_law_hand_here", "_law_many"] []
  g__law_take : mg "_law_take" = some (.ref f__law_take)
  f__law_of : Addr
  d__law_of : FuncData
  F__law_of : Fun K "_law_of" "_law_of" s__law_of f__law_of d__law_of
  b__law_of : Binds K d__law_of ["_law_hand_here", "_law_some"] []
  g__law_of : mg "_law_of" = some (.ref f__law_of)
  f__law_word : Addr
  d__law_word : FuncData
  F__law_word : Fun K "_law_word" "_law_word" s__law_word f__law_word d__law_word
  b__law_word : Binds K d__law_word ["_law_hand_here"] []
  g__law_word : mg "_law_word" = some (.ref f__law_word)
  f__law_table : Addr
  d__law_table : FuncData
  F__law_table : Fun K "_law_table" "_law_table" s__law_table f__law_table d__law_table
  b__law_table : Binds K d__law_table ["_law_hand_here"] []
  g__law_table : mg "_law_table" = some (.ref f__law_table)
  f__law_core : Addr
  d__law_core : FuncData
  F__law_core : Fun K "_law_core" "_law_core" s__law_core f__law_core d__law_core
  b__law_core : Binds K d__law_core ["_law_hand_here", "_law_pot", "_law_deep"] []
  g__law_core : mg "_law_core" = some (.ref f__law_core)
  f__law_guest : Addr
  d__law_guest : FuncData
  F__law_guest : Fun K "_law_guest" "_law_guest" s__law_guest f__law_guest d__law_guest
  b__law_guest : Binds K d__law_guest ["_law_hand_here", "_law_pot", "_law_deep"] []
  g__law_guest : mg "_law_guest" = some (.ref f__law_guest)
  f__law_tree : Addr
  d__law_tree : FuncData
  F__law_tree : Fun K "_law_tree" "_law_tree" s__law_tree f__law_tree d__law_tree
  b__law_tree : Binds K d__law_tree ["_law_hand_here", "_law_most", "_law_deep"] []
  g__law_tree : mg "_law_tree" = some (.ref f__law_tree)
  f__law_inner : Addr
  d__law_inner : FuncData
  F__law_inner : Fun K "_law_inner" "_law_inner" s__law_inner f__law_inner d__law_inner
  b__law_inner : Binds K d__law_inner ["_law_core_here"] []
  g__law_inner : mg "_law_inner" = some (.ref f__law_inner)
  f__law_right : Addr
  d__law_right : FuncData
  F__law_right : Fun K "_law_right" "_law_right" s__law_right f__law_right d__law_right
  b__law_right : Binds K d__law_right ["_law_hand_here"] []
  g__law_right : mg "_law_right" = some (.ref f__law_right)
  f_law : Addr
  d_law : FuncData
  F_law : Fun K "law" "law" s_law f_law d_law
  b_law : Binds K d_law ["_law_script"] []
  g_law : mg "law" = some (.ref f_law)
  n_abs : mg "abs" = none
  n_all : mg "all" = none
  n_bool : mg "bool" = none
  n_int : mg "int" = none
  n_isinstance : mg "isinstance" = none
  n_len : mg "len" = none
  n_min : mg "min" = none
  n_range : mg "range" = none
  n_repr : mg "repr" = none
  n_tuple : mg "tuple" = none
  c_GUESTS : ∃ t, mg "GUESTS" = some (.int 4 t)
section
variable {P : Program} {w : World} {K : Fg} {mg : Str → Option Value} {base : Heap}
def wx_is_whole : WS := (wRet (wAndV (wIsi "int" (wName 0)) (wNotV (wIsi "bool" (wName 0)))))
theorem ok_is_whole (T : Tp K mg) : FnG P w K mg base 1 T.f_is_whole T.d_is_whole ["thing"] (spOf K sp_is_whole) :=
  fnv_mk T.F_is_whole sc_is_whole len_is_whole fun cdv A outer s H E hr hG => ⟨_, wx_is_whole,
    (vss_one (vs_ret (ve_and (ve_isi (T := "int") (v := .none) (by unfold IsiOk; decide +kernel) (by rfl) T.n_isinstance (ve_name 0 (pv 0)) (pe_ty (by rfl) T.n_int (by decide +kernel))) (ve_one (ve_not (ve_isi (T := "bool") (v := .none) (by unfold IsiOk; decide +kernel) (by rfl) T.n_isinstance (ve_name 0 (pv 0)) (pe_ty (by rfl) T.n_bool (by decide +kernel)))))))),
    body_is_whole⟩
def wx_path_of : WS := (wSeq (wSetT [2, 3, 4, 5] (wName 0))
    (wSeq (wSet 1 (wTup wNil))
    (wSeq (wSetT [6, 7, 8, 9, 10] (wName 3))
    (wSeq (wWhile (wBool (wOp fIsNot (wName 10) (wC .none))) (wSeq (wSet 1 (wOp fAdd (wName 1) (wTup (wCons (wName 10) wNil))))
    (wSeq (wSetT [11, 12, 13, 14] (wAt 9 fIx (wName 10)))
    (wSetT [6, 7, 8, 9, 10] (wName 11)))))
    (wRet (wName 1))))))
theorem ok_path_of (T : Tp K mg) : FnG P w K mg base 1 T.f_path_of T.d_path_of ["machine"] (spOf K sp_path_of) :=
  fnv_mk T.F_path_of sc_path_of len_path_of fun cdv A outer s H E hr hG => ⟨_, wx_path_of,
    (vss_cons (vs_tup (ve_name 0 (pv 0)) (vg_tup (is := [2, 3, 4, 5]) rfl (pgs_cons (pg_name (i := 2) sc_path_of.nd rfl (by first | exact .inl rfl | exact .inr rfl)) (pgs_cons (pg_name (i := 3) sc_path_of.nd rfl (by first | exact .inl rfl | exact .inr rfl)) (pgs_cons (pg_name (i := 4) sc_path_of.nd rfl (by first | exact .inl rfl | exact .inr rfl)) (pgs_cons (pg_name (i := 5) sc_path_of.nd rfl (by first | exact .inl rfl | exact .inr rfl)) pgs_nil)))) rfl))
      (vss_cons (vs_set (i := 1) sc_path_of.nd rfl (by first | exact .inl rfl | exact .inr rfl) (ve_tup vl_nil))
      (vss_cons (vs_tup (ve_name 3 (pv 3)) (vg_tup (is := [6, 7, 8, 9, 10]) rfl (pgs_cons (pg_name (i := 6) sc_path_of.nd rfl (by first | exact .inl rfl | exact .inr rfl)) (pgs_cons (pg_name (i := 7) sc_path_of.nd rfl (by first | exact .inl rfl | exact .inr rfl)) (pgs_cons (pg_name (i := 8) sc_path_of.nd rfl (by first | exact .inl rfl | exact .inr rfl)) (pgs_cons (pg_name (i := 9) sc_path_of.nd rfl (by first | exact .inl rfl | exact .inr rfl)) (pgs_cons (pg_name (i := 10) sc_path_of.nd rfl (by first | exact .inl rfl | exact .inr rfl)) pgs_nil))))) rfl))
      (vss_cons (vs_while PassesOwn.never (vt_cmp op_isnotA opok_isnot (ve_name 10 (pv 10)) ve_non (nomark _)) (vss_cons (vs_set (i := 1) sc_path_of.nd rfl (by first | exact .inl rfl | exact .inr rfl) (ve_op op_addA opok_add (ve_name 1 (pv 1)) (ve_tup (vl_cons (ve_name 10 (pv 10)) vl_nil))))
      (vss_cons (vs_tup (ve_ixN (hu_of hr) 9 (pv 9) (ve_name 10 (pv 10)) (fun _ _ => rfl)) (vg_tup (is := [11, 12, 13, 14]) rfl (pgs_cons (pg_name (i := 11) sc_path_of.nd rfl (by first | exact .inl rfl | exact .inr rfl)) (pgs_cons (pg_name (i := 12) sc_path_of.nd rfl (by first | exact .inl rfl | exact .inr rfl)) (pgs_cons (pg_name (i := 13) sc_path_of.nd rfl (by first | exact .inl rfl | exact .inr rfl)) (pgs_cons (pg_name (i := 14) sc_path_of.nd rfl (by first | exact .inl rfl | exact .inr rfl)) pgs_nil)))) rfl))
      (vss_one (vs_tup (ve_name 11 (pv 11)) (vg_tup (is := [6, 7, 8, 9, 10]) rfl (pgs_cons (pg_name (i := 6) sc_path_of.nd rfl (by first | exact .inl rfl | exact .inr rfl)) (pgs_cons (pg_name (i := 7) sc_path_of.nd rfl (by first | exact .inl rfl | exact .inr rfl)) (pgs_cons (pg_name (i := 8) sc_path_of.nd rfl (by first | exact .inl rfl | exact .inr rfl)) (pgs_cons (pg_name (i := 9) sc_path_of.nd rfl (by first | exact .inl rfl | exact .inr rfl)) (pgs_cons (pg_name (i := 10) sc_path_of.nd rfl (by first | exact .inl rfl | exact .inr rfl)) pgs_nil))))) rfl))))))
      (vss_one (vs_ret (ve_name 1 (pv 1)))))))),
    body_path_of⟩
def wx__law_hand : WS := (wSeq (wSet 2 (wIf (wBool (wOp (fI0 fun i j => .bool (decide (i < j))) (wName 1) (wC1 fLen (wPeek 0)))) (wAt 0 fIx (wName 1)) (wC (.int 0))))
    (wSeq (wSet 3 (wOp (fI CMulA fun i j => .int (i * j)) (wOp (fI (fun _ j => 0 < j) fun i j => .int (i % j)) (wC1 fAbs (wPeek 2)) (wOp (fI CMulA fun i j => .int (i * j)) (wOp (fI CPow fun i j => .int (i ^ j.toNat)) (wC (.int 10)) (wC (.int 60))) (wOp (fI CPow fun i j => .int (i ^ j.toNat)) (wC (.int 10)) (wC (.int 60))))) (wC1 fInt (wOp (fI0 fun i j => .bool (decide (j ≤ i))) (wC1 fAbs (wPeek 2)) (wOp (fI CPow fun i j => .int (i ^ j.toNat)) (wC (.int 10)) (wC (.int 18)))))))
    (wRetF (wLst (wCons (wName 3) (wCons (wOp fAdd (wOp fAdd (wOp (fI (fun _ j => 0 < j) fun i j => .int (i % j)) (wName 2) (wC (.int 2305843009213693951))) (wOp (fI CMulA fun i j => .int (i * j)) (wC (.int 104729)) (wName 1))) (wC (.int 7))) (wCons (wC (.int 0)) wNil)))))))
theorem ok__law_hand (T : Tp K mg) : FnG P w K mg base 1 T.f__law_hand T.d__law_hand ["_law_script", "_law_k"] (spOf K sp__law_hand) :=
  fnv_mk T.F__law_hand sc__law_hand len__law_hand fun cdv A outer s H E hr hG => ⟨_, wx__law_hand,
    (vss_cons (vs_set (i := 2) sc__law_hand.nd rfl (by first | exact .inl rfl | exact .inr rfl) (ve_if (vt_cmp op_lt (opok_I0 fun _ _ _ => .bl _) (ve_name 1 (pv 1)) (ve_b1 call_len c1_len (by rfl) T.n_len (by decide +kernel) (vb_name 0 (pv 0))) (nomark _)) (ve_ixN (hu_of hr) 0 (pv 0) (ve_name 1 (pv 1)) (fun _ _ => rfl)) ve_int))
      (vss_cons (vs_set (i := 3) sc__law_hand.nd rfl (by first | exact .inl rfl | exact .inr rfl) (ve_op op_mulA (opok_I fun _ _ _ => .int _) (ve_op op_mod (opok_I fun _ _ _ => .int _) (ve_b1 call_abs c1_abs (by rfl) T.n_abs (by decide +kernel) (vb_name 2 (pv 2))) (ve_op op_mulA (opok_I fun _ _ _ => .int _) (ve_op op_pow (opok_I fun _ _ _ => .int _) ve_int ve_int) (ve_op op_pow (opok_I fun _ _ _ => .int _) ve_int ve_int))) (ve_t1 call_int1 c1_int (by rfl) T.n_int (by decide +kernel) (VE.vb (ve_cmp op_ge (opok_I0 fun _ _ _ => .bl _) (ve_b1 call_abs c1_abs (by rfl) T.n_abs (by decide +kernel) (vb_name 2 (pv 2))) (ve_op op_pow (opok_I fun _ _ _ => .int _) ve_int ve_int) (nomark _))))))
      (vss_one (vs_retF (vf_lst (vl_cons (ve_name 3 (pv 3)) (vl_cons (ve_op op_addA opok_add (ve_op op_addA opok_add (ve_op op_mod (opok_I fun _ _ _ => .int _) (ve_name 2 (pv 2)) ve_int) (ve_op op_mulA (opok_I fun _ _ _ => .int _) ve_int (ve_name 1 (pv 1)))) ve_int) (vl_cons ve_int vl_nil)))))))),
    body__law_hand⟩
def wx__law_take : WS := (wSeq (wIfS (wBool (wOp (fI0 fun i j => .bool (decide (j < i))) (wAt 0 fIx (wC (.int 0))) (wC (.int 0)))) (wSeq (wSet 5 (wOp (fI (fun _ j => 0 < j) fun i j => .int (i % j)) (wAt 0 fIx (wC (.int 0))) (wName 1)))
    (wSeq (wPut 0 (wC (.int 0)) (wOp (fI CDivW fun i j => .int (i / j)) (wAt 0 fIx (wC (.int 0))) (wName 1)))
    (wRet (wName 5)))) wNext)
    (wSeq (wPut 0 (wC (.int 2)) (wOp fAdd (wAt 0 fIx (wC (.int 2))) (wC (.int 1))))
    (wSeq (wSetF 2 (wLst (wCons (wC (.int 2147483647)) (wCons (wC (.int 2147483629)) (wCons (wC (.int 2147483587)) (wCons (wC (.int 2147483579)) (wCons (wC (.int 2147483563)) (wCons (wC (.int 2147483549)) (wCons (wC (.int 2147483543)) (wCons (wC (.int 2147483497)) wNil))))))))))
    (wSeq (wSet 3 (wAt 2 fIx (wOp (fI (fun _ j => 0 < j) fun i j => .int (i % j)) (wAt 0 fIx (wC (.int 2))) (wC (.int 8)))))
    (wSeq (wSet 4 (wOp (fI (fun _ j => 0 < j) fun i j => .int (i % j)) (wOp (fI CPow fun i j => .int (i ^ j.toNat)) (wOp fAdd (wAt 0 fIx (wC (.int 1))) (wOp (fI CMulA fun i j => .int (i * j)) (wC (.int 7919)) (wAt 0 fIx (wC (.int 2))))) (wC (.int 5))) (wName 3)))
    (wRet (wOp (fI (fun _ j => 0 < j) fun i j => .int (i % j)) (wOp (fI CDivW fun i j => .int (i / j)) (wOp (fI (fun _ j => 0 < j) fun i j => .int (i % j)) (wOp (fI CMulA fun i j => .int (i * j)) (wName 4) (wOp fAdd (wOp (fI (fun _ j => 0 < j) fun i j => .int (i % j)) (wName 4) (wC (.int 1009))) (wAt 0 fIx (wC (.int 2))))) (wName 3)) (wC (.int 7))) (wName 1))))))))
theorem ok__law_take (T : Tp K mg) : FnG P w K mg base 1 T.f__law_take T.d__law_take ["_law_hand_here", "_law_many"] (spOf K sp__law_take) :=
  fnv_mk T.F__law_take sc__law_take len__law_take fun cdv A outer s H E hr hG => ⟨_, wx__law_take,
    (vss_cons (vs_if (vt_cmp op_gt (opok_I0 fun _ _ _ => .bl _) (ve_ixN (hu_of hr) 0 (pv 0) ve_int (fun _ _ => rfl)) ve_int (nomark _)) (vss_cons (vs_set (i := 5) sc__law_take.nd rfl (by first | exact .inl rfl | exact .inr rfl) (ve_op op_mod (opok_I fun _ _ _ => .int _) (ve_ixN (hu_of hr) 0 (pv 0) ve_int (fun _ _ => rfl)) (ve_name 1 (pv 1))))
      (vss_cons (vs_put' (hu_of hr) (pv 0) ve_int (ve_op op_fdivW (opok_I fun _ _ _ => .int _) (ve_ixN (hu_of hr) 0 (pv 0) ve_int (fun _ _ => rfl)) (ve_name 1 (pv 1))))
      (vss_one (vs_ret (ve_name 5 (pv 5)))))) vss_nil)
      (vss_cons (vs_put' (hu_of hr) (pv 0) ve_int (ve_op op_addA opok_add (ve_ixN (hu_of hr) 0 (pv 0) ve_int (fun _ _ => rfl)) ve_int))
      (vss_cons (vs_setF (i := 2) sc__law_take.nd rfl (by first | exact .inl rfl | exact .inr rfl) (vf_lst (vl_cons ve_int (vl_cons ve_int (vl_cons ve_int (vl_cons ve_int (vl_cons ve_int (vl_cons ve_int (vl_cons ve_int (vl_cons ve_int vl_nil))))))))))
      (vss_cons (vs_set (i := 3) sc__law_take.nd rfl (by first | exact .inl rfl | exact .inr rfl) (ve_ixN (hu_of hr) 2 (pv 2) (ve_op op_mod (opok_I fun _ _ _ => .int _) (ve_ixN (hu_of hr) 0 (pv 0) ve_int (fun _ _ => rfl)) ve_int) (fun _ _ => rfl)))
      (vss_cons (vs_set (i := 4) sc__law_take.nd rfl (by first | exact .inl rfl | exact .inr rfl) (ve_op op_mod (opok_I fun _ _ _ => .int _) (ve_op op_pow (opok_I fun _ _ _ => .int _) (ve_op op_addA opok_add (ve_ixN (hu_of hr) 0 (pv 0) ve_int (fun _ _ => rfl)) (ve_op op_mulA (opok_I fun _ _ _ => .int _) ve_int (ve_ixN (hu_of hr) 0 (pv 0) ve_int (fun _ _ => rfl)))) ve_int) (ve_name 3 (pv 3))))
      (vss_one (vs_ret (ve_op op_mod (opok_I fun _ _ _ => .int _) (ve_op op_fdivW (opok_I fun _ _ _ => .int _) (ve_op op_mod (opok_I fun _ _ _ => .int _) (ve_op op_mulA (opok_I fun _ _ _ => .int _) (ve_name 4 (pv 4)) (ve_op op_addA opok_add (ve_op op_mod (opok_I fun _ _ _ => .int _) (ve_name 4 (pv 4)) ve_int) (ve_ixN (hu_of hr) 0 (pv 0) ve_int (fun _ _ => rfl)))) (ve_name 3 (pv 3))) ve_int) (ve_name 1 (pv 1)))))))))),
    body__law_take⟩
def wx__law_inner : WS := (wSeq (wSetF 1 (wLst wNil))
    (wSeq (wWhile (wBool (wOp fIsNot (wAt 0 fIx (wC (.int 4))) (wC .none))) (wSeq (wDrop (wAppend 1 (wAt 0 fIx (wC (.int 4)))))
    (wSet 0 (wOp fIx (wOp fIx (wAt 0 fIx (wC (.int 3))) (wAt 0 fIx (wC (.int 4)))) (wC (.int 0))))))
    (wRet (wC1 fTup (wPeek 1)))))
theorem ok__law_inner (T : Tp K mg) : FnG P w K mg base 1 T.f__law_inner T.d__law_inner ["_law_core_here"] (spOf K sp__law_inner) :=
  fnv_mk T.F__law_inner sc__law_inner len__law_inner fun cdv A outer s H E hr hG => ⟨_, wx__law_inner,
    (vss_cons (vs_setF (i := 1) sc__law_inner.nd rfl (by first | exact .inl rfl | exact .inr rfl) (vf_lst vl_nil))
      (vss_cons (vs_while PassesOwn.never (vt_cmp op_isnotA opok_isnot (ve_ixN (hu_of hr) 0 (pv 0) ve_int (fun _ _ => rfl)) ve_non (nomark _)) (vss_cons (vs_expr (ve_app (pv 1) (ve_ixN (hu_of hr) 0 (pv 0) ve_int (fun _ _ => rfl))))
      (vss_one (vs_set (i := 0) sc__law_inner.nd rfl (by first | exact .inl rfl | exact .inr rfl) (ve_ix (hu_of hr) (ve_ix (hu_of hr) (ve_ixN (hu_of hr) 0 (pv 0) ve_int (fun _ _ => rfl)) (ve_ixN (hu_of hr) 0 (pv 0) ve_int (fun _ _ => rfl)) (fun _ _ => rfl)) ve_int (fun _ _ => rfl))))))
      (vss_one (vs_ret (ve_t1 call_tuple_of c1_tuple (by rfl) T.n_tuple (by decide +kernel) (vb_name 1 (pv 1))))))),
    body__law_inner⟩
def wx_is_number : WS := (wRet (wAndV (wCall sp_is_whole (wCons (wName 0) wNil)) (wChain (fI0 fun i j => .bool (decide (i ≤ j))) (fI0 fun i j => .bool (decide (i < j))) (wC (.int 0)) (wName 0) (wC (.int 4)))))
theorem ok_is_number (T : Tp K mg) : FnG P w K mg base 2 T.f_is_number T.d_is_number ["thing"] (spOf K sp_is_number) :=
  fnv_mk T.F_is_number sc_is_number len_is_number fun cdv A outer s H E hr hG => ⟨_, wx_is_number,
    (vss_one (vs_ret (ve_and (ve_call (ok_is_whole T) (hr.mono (by decide)) hG (by rfl) T.g_is_whole T.F_is_whole.kp T.b_is_whole (vl_cons (ve_name 0 (pv 0)) vl_nil)) (ve_one (ve_chain op_le (opok_I0 fun _ _ _ => .bl _) op_lt (opok_I0 fun _ _ _ => .bl _) ve_int (ve_name 0 (pv 0)) (ve_globI (by rfl) T.c_GUESTS)))))),
    body_is_number⟩
def wx__law_of : WS := (wRet (wAt 1 fIx (wCallIo 0 sp__law_take (wCons (wC1 fLen (wPeek 1)) wNil))))
theorem ok__law_of (T : Tp K mg) : FnG P w K mg base 2 T.f__law_of T.d__law_of ["_law_hand_here", "_law_some"] (spOf K sp__law_of) :=
  fnv_mk T.F__law_of sc__law_of len__law_of fun cdv A outer s H E hr hG => ⟨_, wx__law_of,
    (vss_one (vs_ret (ve_ixN (hu_of hr) 1 (pv 1) (ve_callIo (ok__law_take T) (hr.mono (by decide)) hG (by rfl) T.g__law_take T.F__law_take.kp T.b__law_take (pv 0) (vl_cons (ve_b1 call_len c1_len (by rfl) T.n_len (by decide +kernel) (vb_name 1 (pv 1))) vl_nil)) (fun _ _ => rfl)))),
    body__law_of⟩
def wx_is_path : WS := (wRet (wAndV (wIsi "tuple" (wName 0)) (wC1 fAll (wFz (wLc [1] (wItems (wName 0)) (bName 1) wYes (wCall sp_is_number (wCons (wName 1) wNil)))))))
theorem ok_is_path (T : Tp K mg) : FnG P w K mg base 3 T.f_is_path T.d_is_path ["thing"] (spOf K sp_is_path) :=
  fnv_mk T.F_is_path sc_is_path len_is_path fun cdv A outer s H E hr hG => ⟨_, wx_is_path,
    (vss_one (vs_ret (ve_and (ve_isi (T := "tuple") (v := .none) (by unfold IsiOk; decide +kernel) (by rfl) T.n_isinstance (ve_name 0 (pv 0)) (pe_ty (by rfl) T.n_tuple (by decide +kernel))) (ve_one (ve_b1 (cr_all rfl) c1_all (by rfl) T.n_all (by decide +kernel) (VE.vb (VF.ve (vf_lcB (own := [("one", 1)]) (js := [1]) rfl sc_is_path.nd (vi_seq (ve_name 0 (pv 0))) (blkOk_by (own := [("one", 1)]) (N := N_is_path) (sc := defScope s_is_path) (by decide +kernel)) (fun _ _ _ _ _ => (vg_name 1 (pg_name (i := 1) sc_is_path.nd rfl (by first | exact .inl rfl | exact .inr rfl)))) (fun _ _ _ _ _ => vts_nil) (fun _ _ _ _ _ => (ve_call (ok_is_number T) (hr.mono (by decide)) hG (by rfl) T.g_is_number T.F_is_number.kp T.b_is_number (vl_cons (ve_name 1 (pv 1)) vl_nil))))))))))),
    body_is_path⟩
def wx__law_word : WS := (wRet (wCallIo 0 sp__law_of (wCons (wFz (wLst (wCons (wC (.int 0)) (wCons (wC (.int 1)) (wCons (wCallIo 0 sp__law_take (wCons (wC (.int 100)) wNil)) (wCons (wC (.int 999999)) (wCons (wCallIo 0 sp__law_take (wCons (wOp (fI CPow fun i j => .int (i ^ j.toNat)) (wC (.int 10)) (wC (.int 6))) wNil)) wNil))))))) wNil)))
theorem ok__law_word (T : Tp K mg) : FnG P w K mg base 3 T.f__law_word T.d__law_word ["_law_hand_here"] (spOf K sp__law_word) :=
  fnv_mk T.F__law_word sc__law_word len__law_word fun cdv A outer s H E hr hG => ⟨_, wx__law_word,
    (vss_one (vs_ret (ve_callIo (ok__law_of T) (hr.mono (by decide)) hG (by rfl) T.g__law_of T.F__law_of.kp T.b__law_of (pv 0) (vl_cons (VF.ve (vf_lst (vl_cons ve_int (vl_cons ve_int (vl_cons (ve_callIo (ok__law_take T) (hr.mono (by decide)) hG (by rfl) T.g__law_take T.F__law_take.kp T.b__law_take (pv 0) (vl_cons ve_int vl_nil)) (vl_cons ve_int (vl_cons (ve_callIo (ok__law_take T) (hr.mono (by decide)) hG (by rfl) T.g__law_take T.F__law_take.kp T.b__law_take (pv 0) (vl_cons (ve_op op_pow (opok_I fun _ _ _ => .int _) ve_int ve_int) vl_nil)) vl_nil))))))) vl_nil)))),
    body__law_word⟩
def wx__law_table : WS := (wSeq (wParM [2, 3] (wmF (wLst wNil) (wmD (wNeg (wC (.int 1))) wmNil)))
    (wSeq (wFor (wRng1 (wCallIo 0 sp__law_of (wCons (wFz (wLst (wCons (wC (.int 0)) (wCons (wC (.int 1)) (wCons (wC (.int 2)) (wCons (wC (.int 4)) wNil)))))) wNil))) (bName 1) (wSeq (wSet 3 (wOp fAdd (wOp fAdd (wName 3) (wC (.int 1))) (wCallIo 0 sp__law_of (wCons (wFz (wLst (wCons (wC (.int 0)) (wCons (wC (.int 0)) (wCons (wC (.int 3)) (wCons (wCallIo 0 sp__law_take (wCons (wOp (fI CPow fun i j => .int (i ^ j.toNat)) (wC (.int 10)) (wC (.int 4))) wNil)) wNil)))))) wNil))))
    (wSeq (wSet 4 (wCallIo 0 sp__law_of (wCons (wFz (wLst (wCons (wName 1) (wCons (wCallIo 0 sp__law_take (wCons (wC (.int 12)) wNil)) (wCons (wC (.int 99999)) (wCons (wCallIo 0 sp__law_take (wCons (wOp (fI CPow fun i j => .int (i ^ j.toNat)) (wC (.int 10)) (wC (.int 5))) wNil)) wNil)))))) wNil)))
    (wDrop (wAppend 2 (wTup (wCons (wName 3) (wCons (wName 4) (wCons (wOp fAdd (wC (.int 1)) (wCallIo 0 sp__law_take (wCons (wC (.int 7)) wNil))) wNil)))))))))
    (wSeq (wIfS (wAndT (wBool (wOp fEq (wCallIo 0 sp__law_take (wCons (wC (.int 9)) wNil)) (wC (.int 0)))) (wBool (wOp (fI0 fun i j => .bool (decide (i < j))) (wName 3) (wC (.int 99999))))) (wDrop (wAppend 2 (wTup (wCons (wC (.int 99999)) (wCons (wC (.int 0)) (wCons (wC (.int 7)) wNil)))))) wNext)
    (wRet (wC1 fTup (wPeek 2))))))
theorem ok__law_table (T : Tp K mg) : FnG P w K mg base 3 T.f__law_table T.d__law_table ["_law_hand_here"] (spOf K sp__law_table) :=
  fnv_mk T.F__law_table sc__law_table len__law_table fun cdv A outer s H E hr hG => ⟨_, wx__law_table,
    (vss_cons (vs_parM (i := 2) (j := 3) rfl sc__law_table.nd rfl rfl (by decide) rfl rfl (vm_f (vf_lst vl_nil) (vm_d (ve_neg ve_int) vm_nil)) (by rfl))
      (vss_cons (vs_for PassesOwn.never rfl (vi_rng1 (by rfl) T.n_range (ve_callIo (ok__law_of T) (hr.mono (by decide)) hG (by rfl) T.g__law_of T.F__law_of.kp T.b__law_of (pv 0) (vl_cons (VF.ve (vf_lst (vl_cons ve_int (vl_cons ve_int (vl_cons ve_int (vl_cons ve_int vl_nil)))))) vl_nil))) (vg_name 1 (pg_name (i := 1) sc__law_table.nd rfl (by first | exact .inl rfl | exact .inr rfl))) (vss_cons (vs_set (i := 3) sc__law_table.nd rfl (by first | exact .inl rfl | exact .inr rfl) (ve_op op_addA opok_add (ve_op op_addA opok_add (ve_name 3 (pv 3)) ve_int) (ve_callIo (ok__law_of T) (hr.mono (by decide)) hG (by rfl) T.g__law_of T.F__law_of.kp T.b__law_of (pv 0) (vl_cons (VF.ve (vf_lst (vl_cons ve_int (vl_cons ve_int (vl_cons ve_int (vl_cons (ve_callIo (ok__law_take T) (hr.mono (by decide)) hG (by rfl) T.g__law_take T.F__law_take.kp T.b__law_take (pv 0) (vl_cons (ve_op op_pow (opok_I fun _ _ _ => .int _) ve_int ve_int) vl_nil)) vl_nil)))))) vl_nil))))
      (vss_cons (vs_set (i := 4) sc__law_table.nd rfl (by first | exact .inl rfl | exact .inr rfl) (ve_callIo (ok__law_of T) (hr.mono (by decide)) hG (by rfl) T.g__law_of T.F__law_of.kp T.b__law_of (pv 0) (vl_cons (VF.ve (vf_lst (vl_cons (ve_name 1 (pv 1)) (vl_cons (ve_callIo (ok__law_take T) (hr.mono (by decide)) hG (by rfl) T.g__law_take T.F__law_take.kp T.b__law_take (pv 0) (vl_cons ve_int vl_nil)) (vl_cons ve_int (vl_cons (ve_callIo (ok__law_take T) (hr.mono (by decide)) hG (by rfl) T.g__law_take T.F__law_take.kp T.b__law_take (pv 0) (vl_cons (ve_op op_pow (opok_I fun _ _ _ => .int _) ve_int ve_int) vl_nil)) vl_nil)))))) vl_nil)))
      (vss_one (vs_expr (ve_app (pv 2) (ve_tup (vl_cons (ve_name 3 (pv 3)) (vl_cons (ve_name 4 (pv 4)) (vl_cons (ve_op op_addA opok_add ve_int (ve_callIo (ok__law_take T) (hr.mono (by decide)) hG (by rfl) T.g__law_take T.F__law_take.kp T.b__law_take (pv 0) (vl_cons ve_int vl_nil))) vl_nil))))))))))
      (vss_cons (vs_if (VW.vt (vw_and (vt_cmp (op_eqA hr.units) opok_eq (ve_callIo (ok__law_take T) (hr.mono (by decide)) hG (by rfl) T.g__law_take T.F__law_take.kp T.b__law_take (pv 0) (vl_cons ve_int vl_nil)) ve_int (nomark _)) (vw_and1 (vt_cmp op_lt (opok_I0 fun _ _ _ => .bl _) (ve_name 3 (pv 3)) ve_int (nomark _))))) (vss_one (vs_expr (ve_app (pv 2) (ve_tup (vl_cons ve_int (vl_cons ve_int (vl_cons ve_int vl_nil))))))) vss_nil)
      (vss_one (vs_ret (ve_t1 call_tuple_of c1_tuple (by rfl) T.n_tuple (by decide +kernel) (vb_name 2 (pv 2)))))))),
    body__law_table⟩
def wx_chain_to : WS := (wSeq (wIfS (wNotT (wBool (wCall sp_is_path (wCons (wName 1) wNil)))) wNever wNext)
    (wSeq (wSetT [4, 5, 6, 7] (wName 0))
    (wSeq (wSetF 2 (wLst wNil))
    (wSeq (wFor (wItems (wName 1)) (bName 3) (wSeq (wSet 8 (wOp fIx (wAt 5 fIx (wC (.int 3))) (wName 3)))
    (wSeq (wIfS (wBool (wOp fIsN (wName 8) (wC .none))) wNever wNext)
    (wSeq (wDrop (wAppend 2 (wName 8)))
    (wSet 5 (wAt 8 fIx (wC (.int 0))))))))
    (wRet (wName 2))))))
theorem ok_chain_to (T : Tp K mg) : FnG P w K mg base 4 T.f_chain_to T.d_chain_to ["machine", "path"] (spOf K sp_chain_to) :=
  fnv_mk T.F_chain_to sc_chain_to len_chain_to fun cdv A outer s H E hr hG => ⟨_, wx_chain_to,
    (vss_cons (vs_if (vt_not (vt_val (ve_call (ok_is_path T) (hr.mono (by decide)) hG (by rfl) T.g_is_path T.F_is_path.kp T.b_is_path (vl_cons (ve_name 1 (pv 1)) vl_nil)))) (vss_one vs_never) vss_nil)
      (vss_cons (vs_tup (ve_name 0 (pv 0)) (vg_tup (is := [4, 5, 6, 7]) rfl (pgs_cons (pg_name (i := 4) sc_chain_to.nd rfl (by first | exact .inl rfl | exact .inr rfl)) (pgs_cons (pg_name (i := 5) sc_chain_to.nd rfl (by first | exact .inl rfl | exact .inr rfl)) (pgs_cons (pg_name (i := 6) sc_chain_to.nd rfl (by first | exact .inl rfl | exact .inr rfl)) (pgs_cons (pg_name (i := 7) sc_chain_to.nd rfl (by first | exact .inl rfl | exact .inr rfl)) pgs_nil)))) rfl))
      (vss_cons (vs_setF (i := 2) sc_chain_to.nd rfl (by first | exact .inl rfl | exact .inr rfl) (vf_lst vl_nil))
      (vss_cons (vs_for PassesOwn.never rfl (vi_seq (ve_name 1 (pv 1))) (vg_name 3 (pg_name (i := 3) sc_chain_to.nd rfl (by first | exact .inl rfl | exact .inr rfl))) (vss_cons (vs_set (i := 8) sc_chain_to.nd rfl (by first | exact .inl rfl | exact .inr rfl) (ve_ix (hu_of hr) (ve_ixN (hu_of hr) 5 (pv 5) ve_int (fun _ _ => rfl)) (ve_name 3 (pv 3)) (fun _ _ => rfl)))
      (vss_cons (vs_if (vt_cmp op_isA opok_is (ve_name 8 (pv 8)) ve_non (nomark _)) (vss_one vs_never) vss_nil)
      (vss_cons (vs_expr (ve_app (pv 2) (ve_name 8 (pv 8))))
      (vss_one (vs_set (i := 5) sc_chain_to.nd rfl (by first | exact .inl rfl | exact .inr rfl) (ve_ixN (hu_of hr) 8 (pv 8) ve_int (fun _ _ => rfl))))))))
      (vss_one (vs_ret (ve_name 2 (pv 2)))))))),
    body_chain_to⟩
def wx_core_at : WS := (wSeq (wSet 2 (wCall sp_chain_to (wCons (wName 0) (wCons (wName 1) wNil))))
    (wRet (wIf (wBool (wOp fNe (wName 2) (wFz (wLst wNil)))) (wOp fIx (wAt 2 fIx (wNeg (wC (.int 1)))) (wC (.int 0))) (wAt 0 fIx (wC (.int 1))))))
theorem ok_core_at (T : Tp K mg) : FnG P w K mg base 5 T.f_core_at T.d_core_at ["machine", "path"] (spOf K sp_core_at) :=
  fnv_mk T.F_core_at sc_core_at len_core_at fun cdv A outer s H E hr hG => ⟨_, wx_core_at,
    (vss_cons (vs_set (i := 2) sc_core_at.nd rfl (by first | exact .inl rfl | exact .inr rfl) (ve_call (ok_chain_to T) (hr.mono (by decide)) hG (by rfl) T.g_chain_to T.F_chain_to.kp T.b_chain_to (vl_cons (ve_name 0 (pv 0)) (vl_cons (ve_name 1 (pv 1)) vl_nil))))
      (vss_one (vs_ret (ve_if (vt_cmp (op_neA hr.units) opok_ne (ve_name 2 (pv 2)) (VF.ve (vf_lst vl_nil)) (nomark _)) (ve_ix (hu_of hr) (ve_ixN (hu_of hr) 2 (pv 2) (ve_neg ve_int) (fun _ _ => rfl)) ve_int (fun _ _ => rfl)) (ve_ixN (hu_of hr) 0 (pv 0) ve_int (fun _ _ => rfl)))))),
    body_core_at⟩
def wx_guest_at : WS := (wSeq (wSet 2 (wCall sp_chain_to (wCons (wName 0) (wCons (wName 1) wNil))))
    (wSeq (wIfS (wBool (wOp fEq (wName 2) (wFz (wLst wNil)))) wNever wNext)
    (wRet (wAt 2 fIx (wNeg (wC (.int 1)))))))
theorem ok_guest_at (T : Tp K mg) : FnG P w K mg base 5 T.f_guest_at T.d_guest_at ["machine", "path"] (spOf K sp_guest_at) :=
  fnv_mk T.F_guest_at sc_guest_at len_guest_at fun cdv A outer s H E hr hG => ⟨_, wx_guest_at,
    (vss_cons (vs_set (i := 2) sc_guest_at.nd rfl (by first | exact .inl rfl | exact .inr rfl) (ve_call (ok_chain_to T) (hr.mono (by decide)) hG (by rfl) T.g_chain_to T.F_chain_to.kp T.b_chain_to (vl_cons (ve_name 0 (pv 0)) (vl_cons (ve_name 1 (pv 1)) vl_nil))))
      (vss_cons (vs_if (vt_cmp (op_eqA hr.units) opok_eq (ve_name 2 (pv 2)) (VF.ve (vf_lst vl_nil)) (nomark _)) (vss_one vs_never) vss_nil)
      (vss_one (vs_ret (ve_ixN (hu_of hr) 2 (pv 2) (ve_neg ve_int) (fun _ _ => rfl)))))),
    body_guest_at⟩
def wx_core_with (n : Nat) : WS := (wSeq (wSetT [3, 4, 5, 6, 7] (wName 0))
    (wSeq (wStar [8] 11 (wName 1))
    (wSeq (wIfS (wBool (wOp fEq (wName 11) (wFz (wLst wNil)))) (wSeq (wSet 9 (wName 2))
    (wIfS (wAndT (wBool (wOp fIsN (wName 2) (wC .none))) (wBool (wOp fEq (wName 7) (wName 8)))) (wSet 7 (wC .none)) wNext)) (wSeq (wIfS (wBool (wOp fIsN (wAt 6 fIx (wName 8)) (wC .none))) (wRet (wC .none)) wNext)
    (wSeq (wSetT [10, 12, 13, 14] (wAt 6 fIx (wName 8)))
    (wSeq (wSet 10 (wCall (sp_core_with n) (wCons (wName 10) (wCons (wName 11) (wCons (wName 2) wNil)))))
    (wSeq (wIfS (wBool (wOp fIsN (wName 10) (wC .none))) (wRet (wC .none)) wNext)
    (wSet 9 (wTup (wCons (wName 10) (wCons (wName 12) (wCons (wName 13) (wCons (wName 14) wNil)))))))))))
    (wRet (wTup (wCons (wName 3) (wCons (wName 4) (wCons (wName 5) (wCons (wOp fAdd (wOp fAdd (wSlT (wName 6) wNoPart (wPart (wName 8))) (wTup (wCons (wName 9) wNil))) (wSlT (wName 6) (wPart (wOp fAdd (wName 8) (wC (.int 1)))) wNoPart)) (wCons (wName 7) wNil))))))))))
theorem rec_core_with (T : Tp K mg) : ∀ n : Nat, FnG P w K mg base (0 + n) T.f_core_with T.d_core_with ["core", "path", "guest"] (spOf K (sp_core_with n))
  | 0 => fng_zero fun as R h => zero_core_with h
  | n + 1 => by
    have ih0 := rec_core_with T n
    have ih_core_with := ih0
    · exact fnv_mk T.F_core_with sc_core_with (len_core_with _) fun cdv A outer s H E hr hG => ⟨_, wx_core_with n,
    (vss_cons (vs_tup (ve_name 0 (pv 0)) (vg_tup (is := [3, 4, 5, 6, 7]) rfl (pgs_cons (pg_name (i := 3) sc_core_with.nd rfl (by first | exact .inl rfl | exact .inr rfl)) (pgs_cons (pg_name (i := 4) sc_core_with.nd rfl (by first | exact .inl rfl | exact .inr rfl)) (pgs_cons (pg_name (i := 5) sc_core_with.nd rfl (by first | exact .inl rfl | exact .inr rfl)) (pgs_cons (pg_name (i := 6) sc_core_with.nd rfl (by first | exact .inl rfl | exact .inr rfl)) (pgs_cons (pg_name (i := 7) sc_core_with.nd rfl (by first | exact .inl rfl | exact .inr rfl)) pgs_nil))))) rfl))
      (vss_cons (vs_star (is := [8]) (j := 11) (ve_name 1 (pv 1)) rfl rfl (pgs_cons (pg_name (i := 8) sc_core_with.nd rfl (by first | exact .inl rfl | exact .inr rfl)) (pgs_star (pg_name (i := 11) sc_core_with.nd rfl (by first | exact .inl rfl | exact .inr rfl)))))
      (vss_cons (vs_if (vt_cmp (op_eqA hr.units) opok_eq (ve_name 11 (pv 11)) (VF.ve (vf_lst vl_nil)) (nomark _)) (vss_cons (vs_set (i := 9) sc_core_with.nd rfl (by first | exact .inl rfl | exact .inr rfl) (ve_name 2 (pv 2)))
      (vss_one (vs_if (VW.vt (vw_and (vt_cmp op_isA opok_is (ve_name 2 (pv 2)) ve_non (nomark _)) (vw_and1 (vt_cmp (op_eqA hr.units) opok_eq (ve_name 7 (pv 7)) (ve_name 8 (pv 8)) (nomark _))))) (vss_one (vs_set (i := 7) sc_core_with.nd rfl (by first | exact .inl rfl | exact .inr rfl) ve_non)) vss_nil))) (vss_cons (vs_if (vt_cmp op_isA opok_is (ve_ixN (hu_of hr) 6 (pv 6) (ve_name 8 (pv 8)) (fun _ _ => rfl)) ve_non (nomark _)) (vss_one (vs_ret ve_non)) vss_nil)
      (vss_cons (vs_tup (ve_ixN (hu_of hr) 6 (pv 6) (ve_name 8 (pv 8)) (fun _ _ => rfl)) (vg_tup (is := [10, 12, 13, 14]) rfl (pgs_cons (pg_name (i := 10) sc_core_with.nd rfl (by first | exact .inl rfl | exact .inr rfl)) (pgs_cons (pg_name (i := 12) sc_core_with.nd rfl (by first | exact .inl rfl | exact .inr rfl)) (pgs_cons (pg_name (i := 13) sc_core_with.nd rfl (by first | exact .inl rfl | exact .inr rfl)) (pgs_cons (pg_name (i := 14) sc_core_with.nd rfl (by first | exact .inl rfl | exact .inr rfl)) pgs_nil)))) rfl))
      (vss_cons (vs_set (i := 10) sc_core_with.nd rfl (by first | exact .inl rfl | exact .inr rfl) (ve_call ih_core_with hr hG (by rfl) T.g_core_with T.F_core_with.kp T.b_core_with (vl_cons (ve_name 10 (pv 10)) (vl_cons (ve_name 11 (pv 11)) (vl_cons (ve_name 2 (pv 2)) vl_nil)))))
      (vss_cons (vs_if (vt_cmp op_isA opok_is (ve_name 10 (pv 10)) ve_non (nomark _)) (vss_one (vs_ret ve_non)) vss_nil)
      (vss_one (vs_set (i := 9) sc_core_with.nd rfl (by first | exact .inl rfl | exact .inr rfl) (ve_tup (vl_cons (ve_name 10 (pv 10)) (vl_cons (ve_name 12 (pv 12)) (vl_cons (ve_name 13 (pv 13)) (vl_cons (ve_name 14 (pv 14)) vl_nil))))))))))))
      (vss_one (vs_ret (ve_tup (vl_cons (ve_name 3 (pv 3)) (vl_cons (ve_name 4 (pv 4)) (vl_cons (ve_name 5 (pv 5)) (vl_cons (ve_op op_addA opok_add (ve_op op_addA opok_add (ve_slT (ve_name 6 (pv 6)) vo_none (vo_some (ve_name 8 (pv 8)))) (ve_tup (vl_cons (ve_name 9 (pv 9)) vl_nil))) (ve_slT (ve_name 6 (pv 6)) (vo_some (ve_op op_addA opok_add (ve_name 8 (pv 8)) ve_int)) vo_none)) (vl_cons (ve_name 7 (pv 7)) vl_nil))))))))))),
    body_core_with n⟩
theorem ok_core_with (T : Tp K mg) : FnG P w K mg base 12 T.f_core_with T.d_core_with ["core", "path", "guest"] (spOf K (sp_core_with 12)) := rec_core_with T 12
def wx_with_guest : WS := (wSeq (wIfS (wOrT (wNotT (wBool (wCall sp_is_path (wCons (wName 1) wNil)))) (wBool (wOp fEq (wName 1) (wTup wNil)))) wNever wNext)
    (wSeq (wSetT [4, 5, 6, 7] (wName 0))
    (wSeq (wSet 3 (wCall (sp_core_with 12) (wCons (wName 5) (wCons (wName 1) (wCons (wName 2) wNil)))))
    (wSeq (wIfS (wBool (wOp fIsN (wName 3) (wC .none))) wNever wNext)
    (wRet (wTup (wCons (wName 4) (wCons (wName 3) (wCons (wName 6) (wCons (wName 7) wNil))))))))))
theorem ok_with_guest (T : Tp K mg) : FnG P w K mg base 13 T.f_with_guest T.d_with_guest ["machine", "path", "guest"] (spOf K sp_with_guest) :=
  fnv_mk T.F_with_guest sc_with_guest len_with_guest fun cdv A outer s H E hr hG => ⟨_, wx_with_guest,
    (vss_cons (vs_if (VW.vt (vw_or (vt_not (vt_val (ve_call (ok_is_path T) (hr.mono (by decide)) hG (by rfl) T.g_is_path T.F_is_path.kp T.b_is_path (vl_cons (ve_name 1 (pv 1)) vl_nil)))) (vw_or1 (vt_cmp (op_eqA hr.units) opok_eq (ve_name 1 (pv 1)) (ve_tup vl_nil) (nomark _))))) (vss_one vs_never) vss_nil)
      (vss_cons (vs_tup (ve_name 0 (pv 0)) (vg_tup (is := [4, 5, 6, 7]) rfl (pgs_cons (pg_name (i := 4) sc_with_guest.nd rfl (by first | exact .inl rfl | exact .inr rfl)) (pgs_cons (pg_name (i := 5) sc_with_guest.nd rfl (by first | exact .inl rfl | exact .inr rfl)) (pgs_cons (pg_name (i := 6) sc_with_guest.nd rfl (by first | exact .inl rfl | exact .inr rfl)) (pgs_cons (pg_name (i := 7) sc_with_guest.nd rfl (by first | exact .inl rfl | exact .inr rfl)) pgs_nil)))) rfl))
      (vss_cons (vs_set (i := 3) sc_with_guest.nd rfl (by first | exact .inl rfl | exact .inr rfl) (ve_call (ok_core_with T) (hr.mono (by decide)) hG (by rfl) T.g_core_with T.F_core_with.kp T.b_core_with (vl_cons (ve_name 5 (pv 5)) (vl_cons (ve_name 1 (pv 1)) (vl_cons (ve_name 2 (pv 2)) vl_nil)))))
      (vss_cons (vs_if (vt_cmp op_isA opok_is (ve_name 3 (pv 3)) ve_non (nomark _)) (vss_one vs_never) vss_nil)
      (vss_one (vs_ret (ve_tup (vl_cons (ve_name 4 (pv 4)) (vl_cons (ve_name 3 (pv 3)) (vl_cons (ve_name 6 (pv 6)) (vl_cons (ve_name 7 (pv 7)) vl_nil))))))))))),
    body_with_guest⟩
def wx__law_core (n : Nat) : WS := (wSeq (wParM [5, 6] (wmD (wC1 fTup (wFz (wLc [10] (wRng1 (wC (.int 8))) (bName 10) wYes (wCallIo 0 sp__law_word wNil)))) (wmF (wLst wNil) wmNil)))
    (wSeq (wPar 7 8 (wCons (wCallIo 0 sp__law_word wNil) (wCons (wCallIo 0 sp__law_of (wCons (wFz (wLst (wCons (wC (.int 0)) (wCons (wCallIo 0 sp__law_take (wCons (wC (.int 1000)) wNil)) (wCons (wOp fAdd (wOp (fI CPow fun i j => .int (i ^ j.toNat)) (wC (.int 10)) (wC (.int 11))) (wC (.int 7))) wNil))))) wNil)) wNil)))
    (wSeq (wFor (wRng1 (wC (.int 4))) (bName 3) (wSeq (wSet 9 (wAndV (wOp (fI0 fun i j => .bool (decide (j < i))) (wName 2) (wC (.int 0))) (wAndV (wOp (fI0 fun i j => .bool (decide (j < i))) (wAt 1 fIx (wC (.str "left"))) (wC (.int 0))) (wOp fEq (wCallIo 0 sp__law_take (wCons (wC (.int 2)) wNil)) (wC (.int 0))))))
    (wDrop (wAppend 6 (wIf (wBool (wName 9)) (wCallM (sp__law_guest n) (wmS 0 (wmS 1 (wmD (wOp (fI0 fun i j => .int (i - j)) (wName 2) (wC (.int 1))) wmNil)))) (wC .none))))))
    (wSeq (wSetF 4 (wCatF (wLst (wCons (wC .none) wNil)) (wLc [3] (wRng1 (wC (.int 4))) (bName 3) (wBool (wOp fIsNot (wAt 6 fIx (wName 3)) (wC .none))) (wName 3))))
    (wRet (wTup (wCons (wName 5) (wCons (wName 7) (wCons (wName 8) (wCons (wC1 fTup (wPeek 6)) (wCons (wIf (wBool (wOp fEq (wCallIo 0 sp__law_take (wCons (wC (.int 2)) wNil)) (wC (.int 0)))) (wAt 4 fIx (wNeg (wC (.int 1)))) (wCallIo 0 sp__law_of (wCons (wName 4) wNil))) wNil)))))))))))
def wx__law_guest (n : Nat) : WS := (wSeq (wPut 1 (wC (.str "left")) (wOp (fI0 fun i j => .int (i - j)) (wAt 1 fIx (wC (.str "left"))) (wC (.int 1))))
    (wSeq (wSet 3 (wCallM (sp__law_core n) (wmS 0 (wmS 1 (wmD (wName 2) wmNil)))))
    (wRet (wTup (wCons (wName 3) (wCons (wCallIo 0 sp__law_table wNil) (wCons (wCallIo 0 sp__law_of (wCons (wFz (wLst (wCons (wC (.str "own")) (wCons (wC (.str "true")) wNil)))) wNil)) (wCons (wCallIo 0 sp__law_of (wCons (wFz (wLst (wCons (wC .none) (wCons (wC (.int 0)) (wCons (wC (.int 1)) (wCons (wCallIo 0 sp__law_word wNil) wNil)))))) wNil)) wNil))))))))
theorem rec__law_core (T : Tp K mg) : ∀ n : Nat, FnG P w K mg base (3 + n) T.f__law_core T.d__law_core ["_law_hand_here", "_law_pot", "_law_deep"] (spOf K (sp__law_core n)) ∧ FnG P w K mg base (3 + n) T.f__law_guest T.d__law_guest ["_law_hand_here", "_law_pot", "_law_deep"] (spOf K (sp__law_guest n))
  | 0 => ⟨fng_zero fun as R h => zero__law_core h, fng_zero fun as R h => zero__law_guest h⟩
  | n + 1 => by
    have ih0 := rec__law_core T n
    obtain ⟨ih__law_core, ih__law_guest⟩ := ih0
    refine ⟨?_, ?_⟩
    · exact fnv_mk T.F__law_core sc__law_core (len__law_core _) fun cdv A outer s H E hr hG => ⟨_, wx__law_core n,
    (vss_cons (vs_tupM (is := [5, 6]) (vm_d (ve_t1 call_tuple_of c1_tuple (by rfl) T.n_tuple (by decide +kernel) (VE.vb (VF.ve (vf_lcB (own := [("_law_k", 10)]) (js := [10]) rfl sc__law_core.nd (vi_rng1 (by rfl) T.n_range ve_int) (blkOk_by (own := [("_law_k", 10)]) (N := N__law_core) (sc := defScope s__law_core) (by decide +kernel)) (fun _ _ _ _ _ => (vg_name 10 (pg_name (i := 10) sc__law_core.nd rfl (by first | exact .inl rfl | exact .inr rfl)))) (fun _ _ _ _ _ => vts_nil) (fun _ _ _ _ _ => (ve_callIo (ok__law_word T) (hr.mono (Nat.le_trans (by decide) (Nat.le_add_right 3 n))) hG (by rfl) T.g__law_word T.F__law_word.kp T.b__law_word (pv 0) vl_nil)))))) (vm_f (vf_lst vl_nil) vm_nil)) rfl (pgs_cons (pg_name (i := 5) sc__law_core.nd rfl (by first | exact .inl rfl | exact .inr rfl)) (pgs_cons (pg_name (i := 6) sc__law_core.nd rfl (by first | exact .inl rfl | exact .inr rfl)) pgs_nil)) (by decide) rfl rfl)
      (vss_cons (vs_par (i := 7) (j := 8) rfl sc__law_core.nd rfl rfl (by decide) rfl rfl (vl_cons (ve_callIo (ok__law_word T) (hr.mono (Nat.le_trans (by decide) (Nat.le_add_right 3 n))) hG (by rfl) T.g__law_word T.F__law_word.kp T.b__law_word (pv 0) vl_nil) (vl_cons (ve_callIo (ok__law_of T) (hr.mono (Nat.le_trans (by decide) (Nat.le_add_right 3 n))) hG (by rfl) T.g__law_of T.F__law_of.kp T.b__law_of (pv 0) (vl_cons (VF.ve (vf_lst (vl_cons ve_int (vl_cons (ve_callIo (ok__law_take T) (hr.mono (Nat.le_trans (by decide) (Nat.le_add_right 3 n))) hG (by rfl) T.g__law_take T.F__law_take.kp T.b__law_take (pv 0) (vl_cons ve_int vl_nil)) (vl_cons (ve_op op_addA opok_add (ve_op op_pow (opok_I fun _ _ _ => .int _) ve_int ve_int) ve_int) vl_nil))))) vl_nil)) vl_nil)) (by rfl))
      (vss_cons (vs_for PassesOwn.never rfl (vi_rng1 (by rfl) T.n_range ve_int) (vg_name 3 (pg_name (i := 3) sc__law_core.nd rfl (by first | exact .inl rfl | exact .inr rfl))) (vss_cons (vs_set (i := 9) sc__law_core.nd rfl (by first | exact .inl rfl | exact .inr rfl) (ve_and (ve_cmp op_gt (opok_I0 fun _ _ _ => .bl _) (ve_name 2 (pv 2)) ve_int (nomark _)) (ve_and (ve_cmp op_gt (opok_I0 fun _ _ _ => .bl _) (ve_ixN (hu_of hr) 1 (pv 1) ve_str (fun _ _ => rfl)) ve_int (nomark _)) (ve_one (ve_cmp (op_eqA hr.units) opok_eq (ve_callIo (ok__law_take T) (hr.mono (Nat.le_trans (by decide) (Nat.le_add_right 3 n))) hG (by rfl) T.g__law_take T.F__law_take.kp T.b__law_take (pv 0) (vl_cons ve_int vl_nil)) ve_int (nomark _))))))
      (vss_one (vs_expr (ve_app (pv 6) (ve_if (vt_val (ve_name 9 (pv 9))) (ve_callM ih__law_guest hr hG (by rfl) T.g__law_guest T.F__law_guest.kp T.b__law_guest (vm_s (pv 0) (vm_s (pv 1) (vm_d (ve_op op_sub (opok_I0 fun _ _ _ => .int _) (ve_name 2 (pv 2)) ve_int) vm_nil)))) ve_non))))))
      (vss_cons (vs_setF (i := 4) sc__law_core.nd rfl (by first | exact .inl rfl | exact .inr rfl) (vf_catF (vf_lst (vl_cons ve_non vl_nil)) (vf_lcB (own := [("_law_number", 3)]) (js := [3]) rfl sc__law_core.nd (vi_rng1 (by rfl) T.n_range ve_int) (blkOk_by (own := [("_law_number", 3)]) (N := N__law_core) (sc := defScope s__law_core) (by decide +kernel)) (fun _ _ _ _ _ => (vg_name 3 (pg_name (i := 3) sc__law_core.nd rfl (by first | exact .inl rfl | exact .inr rfl)))) (fun _ _ _ _ _ => (vts1 (vt_cmp op_isnotA opok_isnot (ve_ixN (hu_of hr) 6 (pv 6) (ve_name 3 (pv 3)) (fun _ _ => rfl)) ve_non (nomark _)))) (fun _ _ _ _ _ => (ve_name 3 (pv 3))))))
      (vss_one (vs_ret (ve_tup (vl_cons (ve_name 5 (pv 5)) (vl_cons (ve_name 7 (pv 7)) (vl_cons (ve_name 8 (pv 8)) (vl_cons (ve_t1 call_tuple_of c1_tuple (by rfl) T.n_tuple (by decide +kernel) (vb_name 6 (pv 6))) (vl_cons (ve_if (vt_cmp (op_eqA hr.units) opok_eq (ve_callIo (ok__law_take T) (hr.mono (Nat.le_trans (by decide) (Nat.le_add_right 3 n))) hG (by rfl) T.g__law_take T.F__law_take.kp T.b__law_take (pv 0) (vl_cons ve_int vl_nil)) ve_int (nomark _)) (ve_ixN (hu_of hr) 4 (pv 4) (ve_neg ve_int) (fun _ _ => rfl)) (ve_callIo (ok__law_of T) (hr.mono (Nat.le_trans (by decide) (Nat.le_add_right 3 n))) hG (by rfl) T.g__law_of T.F__law_of.kp T.b__law_of (pv 0) (vl_cons (ve_name 4 (pv 4)) vl_nil))) vl_nil)))))))))))),
    body__law_core n⟩
    · exact fnv_mk T.F__law_guest sc__law_guest (len__law_guest _) fun cdv A outer s H E hr hG => ⟨_, wx__law_guest n,
    (vss_cons (vs_put' (hu_of hr) (pv 1) ve_str (ve_op op_sub (opok_I0 fun _ _ _ => .int _) (ve_ixN (hu_of hr) 1 (pv 1) ve_str (fun _ _ => rfl)) ve_int))
      (vss_cons (vs_set (i := 3) sc__law_guest.nd rfl (by first | exact .inl rfl | exact .inr rfl) (ve_callM ih__law_core hr hG (by rfl) T.g__law_core T.F__law_core.kp T.b__law_core (vm_s (pv 0) (vm_s (pv 1) (vm_d (ve_name 2 (pv 2)) vm_nil)))))
      (vss_one (vs_ret (ve_tup (vl_cons (ve_name 3 (pv 3)) (vl_cons (ve_callIo (ok__law_table T) (hr.mono (Nat.le_trans (by decide) (Nat.le_add_right 3 n))) hG (by rfl) T.g__law_table T.F__law_table.kp T.b__law_table (pv 0) vl_nil) (vl_cons (ve_callIo (ok__law_of T) (hr.mono (Nat.le_trans (by decide) (Nat.le_add_right 3 n))) hG (by rfl) T.g__law_of T.F__law_of.kp T.b__law_of (pv 0) (vl_cons (VF.ve (vf_lst (vl_cons ve_str (vl_cons ve_str vl_nil)))) vl_nil)) (vl_cons (ve_callIo (ok__law_of T) (hr.mono (Nat.le_trans (by decide) (Nat.le_add_right 3 n))) hG (by rfl) T.g__law_of T.F__law_of.kp T.b__law_of (pv 0) (vl_cons (VF.ve (vf_lst (vl_cons ve_non (vl_cons ve_int (vl_cons ve_int (vl_cons (ve_callIo (ok__law_word T) (hr.mono (Nat.le_trans (by decide) (Nat.le_add_right 3 n))) hG (by rfl) T.g__law_word T.F__law_word.kp T.b__law_word (pv 0) vl_nil) vl_nil)))))) vl_nil)) vl_nil))))))))),
    body__law_guest n⟩
theorem ok__law_core (T : Tp K mg) : FnG P w K mg base 15 T.f__law_core T.d__law_core ["_law_hand_here", "_law_pot", "_law_deep"] (spOf K (sp__law_core 12)) := (rec__law_core T 12).1
theorem ok__law_guest (T : Tp K mg) : FnG P w K mg base 15 T.f__law_guest T.d__law_guest ["_law_hand_here", "_law_pot", "_law_deep"] (spOf K (sp__law_guest 12)) := (rec__law_core T 12).2
def wx__law_tree : WS := (wSeq (wSet 3 (wCallM (sp__law_core 12) (wmS 0 (wmF (wDisp (wpCons (wC (.str "left")) (wName 1) wpNil)) (wmD (wName 2) wmNil)))))
    (wSeq (wFor (wRng1 (wCallIo 0 sp__law_of (wCons (wFz (wLst (wCons (wC (.int 0)) (wCons (wC (.int 0)) (wCons (wC (.int 1)) (wCons (wName 2) wNil)))))) wNil))) (bName 4) (wSeq (wPar 8 9 (wCons (wCallIo 0 sp__law_take (wCons (wC (.int 4)) wNil)) (wCons (wCallIo 0 sp__law_of (wCons (wFz (wLst (wCons (wC (.str "own")) (wCons (wC (.str "true")) wNil)))) wNil)) wNil)))
    (wSeq (wSetF 7 (wLst (wCons (wC .none) (wCons (wC .none) (wCons (wC .none) (wCons (wC .none) wNil))))))
    (wSeq (wPut 7 (wName 8) (wTup (wCons (wName 3) (wCons (wCallIo 0 sp__law_table wNil) (wCons (wName 9) (wCons (wC .none) wNil))))))
    (wSeq (wIfS (wBool (wOp fEq (wCallIo 0 sp__law_take (wCons (wC (.int 3)) wNil)) (wC (.int 0)))) (wPut 7 (wOp (fI (fun _ j => 0 < j) fun i j => .int (i % j)) (wOp fAdd (wName 8) (wC (.int 1))) (wC (.int 4))) (wCallM (sp__law_guest 12) (wmS 0 (wmF (wDisp (wpCons (wC (.str "left")) (wC (.int 1)) wpNil)) (wmD (wC (.int 0)) wmNil))))) wNext)
    (wSet 3 (wTup (wCons (wOp fRepT (wTup (wCons (wC (.int 0)) wNil)) (wC (.int 8))) (wCons (wCallIo 0 sp__law_word wNil) (wCons (wC (.int 0)) (wCons (wC1 fTup (wPeek 7)) (wCons (wCallIo 0 sp__law_of (wCons (wFz (wLst (wCons (wName 8) (wCons (wName 8) (wCons (wC .none) wNil))))) wNil)) wNil))))))))))))
    (wSeq (wSet 5 (wC1 fTup (wFz (wLc [10] (wRng1 (wOp (fI CMulA fun i j => .int (i * j)) (wC (.int 10)) (wCallIo 0 sp__law_of (wCons (wFz (wLst (wCons (wC (.int 1)) (wCons (wC (.int 2)) (wCons (wC (.int 5)) wNil))))) wNil)))) (bName 10) wYes (wCallIo 0 sp__law_word wNil)))))
    (wSeq (wSet 6 (wC1 fTup (wFz (wLc [10] (wRng1 (wCallIo 0 sp__law_take (wCons (wC (.int 3)) wNil))) (bName 10) wYes (wCallIo 0 sp__law_word wNil)))))
    (wRet (wTup (wCons (wName 5) (wCons (wName 3) (wCons (wName 6) (wCons (wC1 fTup (wFz (wLc [10] (wRng1 (wCallIo 0 sp__law_take (wCons (wC (.int 3)) wNil))) (bName 10) wYes (wCallIo 0 sp__law_word wNil)))) wNil))))))))))
theorem ok__law_tree (T : Tp K mg) : FnG P w K mg base 16 T.f__law_tree T.d__law_tree ["_law_hand_here", "_law_most", "_law_deep"] (spOf K sp__law_tree) :=
  fnv_mk T.F__law_tree sc__law_tree len__law_tree fun cdv A outer s H E hr hG => ⟨_, wx__law_tree,
    (vss_cons (vs_set (i := 3) sc__law_tree.nd rfl (by first | exact .inl rfl | exact .inr rfl) (ve_callM (ok__law_core T) (hr.mono (by decide)) hG (by rfl) T.g__law_core T.F__law_core.kp T.b__law_core (vm_s (pv 0) (vm_f (vf_disp (vp_cons ve_str (ve_name 1 (pv 1)) vp_nil)) (vm_d (ve_name 2 (pv 2)) vm_nil)))))
      (vss_cons (vs_for PassesOwn.never rfl (vi_rng1 (by rfl) T.n_range (ve_callIo (ok__law_of T) (hr.mono (by decide)) hG (by rfl) T.g__law_of T.F__law_of.kp T.b__law_of (pv 0) (vl_cons (VF.ve (vf_lst (vl_cons ve_int (vl_cons ve_int (vl_cons ve_int (vl_cons (ve_name 2 (pv 2)) vl_nil)))))) vl_nil))) (vg_name 4 (pg_name (i := 4) sc__law_tree.nd rfl (by first | exact .inl rfl | exact .inr rfl))) (vss_cons (vs_par (i := 8) (j := 9) rfl sc__law_tree.nd rfl rfl (by decide) rfl rfl (vl_cons (ve_callIo (ok__law_take T) (hr.mono (by decide)) hG (by rfl) T.g__law_take T.F__law_take.kp T.b__law_take (pv 0) (vl_cons ve_int vl_nil)) (vl_cons (ve_callIo (ok__law_of T) (hr.mono (by decide)) hG (by rfl) T.g__law_of T.F__law_of.kp T.b__law_of (pv 0) (vl_cons (VF.ve (vf_lst (vl_cons ve_str (vl_cons ve_str vl_nil)))) vl_nil)) vl_nil)) (by rfl))
      (vss_cons (vs_setF (i := 7) sc__law_tree.nd rfl (by first | exact .inl rfl | exact .inr rfl) (vf_lst (vl_cons ve_non (vl_cons ve_non (vl_cons ve_non (vl_cons ve_non vl_nil))))))
      (vss_cons (vs_put' (hu_of hr) (pv 7) (ve_name 8 (pv 8)) (ve_tup (vl_cons (ve_name 3 (pv 3)) (vl_cons (ve_callIo (ok__law_table T) (hr.mono (by decide)) hG (by rfl) T.g__law_table T.F__law_table.kp T.b__law_table (pv 0) vl_nil) (vl_cons (ve_name 9 (pv 9)) (vl_cons ve_non vl_nil))))))
      (vss_cons (vs_if (vt_cmp (op_eqA hr.units) opok_eq (ve_callIo (ok__law_take T) (hr.mono (by decide)) hG (by rfl) T.g__law_take T.F__law_take.kp T.b__law_take (pv 0) (vl_cons ve_int vl_nil)) ve_int (nomark _)) (vss_one (vs_put' (hu_of hr) (pv 7) (ve_op op_mod (opok_I fun _ _ _ => .int _) (ve_op op_addA opok_add (ve_name 8 (pv 8)) ve_int) ve_int) (ve_callM (ok__law_guest T) (hr.mono (by decide)) hG (by rfl) T.g__law_guest T.F__law_guest.kp T.b__law_guest (vm_s (pv 0) (vm_f (vf_disp (vp_cons ve_str ve_int vp_nil)) (vm_d ve_int vm_nil)))))) vss_nil)
      (vss_one (vs_set (i := 3) sc__law_tree.nd rfl (by first | exact .inl rfl | exact .inr rfl) (ve_tup (vl_cons (ve_op op_repT opok_repT (ve_tup (vl_cons ve_int vl_nil)) ve_int) (vl_cons (ve_callIo (ok__law_word T) (hr.mono (by decide)) hG (by rfl) T.g__law_word T.F__law_word.kp T.b__law_word (pv 0) vl_nil) (vl_cons ve_int (vl_cons (ve_t1 call_tuple_of c1_tuple (by rfl) T.n_tuple (by decide +kernel) (vb_name 7 (pv 7))) (vl_cons (ve_callIo (ok__law_of T) (hr.mono (by decide)) hG (by rfl) T.g__law_of T.F__law_of.kp T.b__law_of (pv 0) (vl_cons (VF.ve (vf_lst (vl_cons (ve_name 8 (pv 8)) (vl_cons (ve_name 8 (pv 8)) (vl_cons ve_non vl_nil))))) vl_nil)) vl_nil)))))))))))))
      (vss_cons (vs_set (i := 5) sc__law_tree.nd rfl (by first | exact .inl rfl | exact .inr rfl) (ve_t1 call_tuple_of c1_tuple (by rfl) T.n_tuple (by decide +kernel) (VE.vb (VF.ve (vf_lcB (own := [("_law_k", 10)]) (js := [10]) rfl sc__law_tree.nd (vi_rng1 (by rfl) T.n_range (ve_op op_mulA (opok_I fun _ _ _ => .int _) ve_int (ve_callIo (ok__law_of T) (hr.mono (by decide)) hG (by rfl) T.g__law_of T.F__law_of.kp T.b__law_of (pv 0) (vl_cons (VF.ve (vf_lst (vl_cons ve_int (vl_cons ve_int (vl_cons ve_int vl_nil))))) vl_nil)))) (blkOk_by (own := [("_law_k", 10)]) (N := N__law_tree) (sc := defScope s__law_tree) (by decide +kernel)) (fun _ _ _ _ _ => (vg_name 10 (pg_name (i := 10) sc__law_tree.nd rfl (by first | exact .inl rfl | exact .inr rfl)))) (fun _ _ _ _ _ => vts_nil) (fun _ _ _ _ _ => (ve_callIo (ok__law_word T) (hr.mono (by decide)) hG (by rfl) T.g__law_word T.F__law_word.kp T.b__law_word (pv 0) vl_nil)))))))
      (vss_cons (vs_set (i := 6) sc__law_tree.nd rfl (by first | exact .inl rfl | exact .inr rfl) (ve_t1 call_tuple_of c1_tuple (by rfl) T.n_tuple (by decide +kernel) (VE.vb (VF.ve (vf_lcB (own := [("_law_k", 10)]) (js := [10]) rfl sc__law_tree.nd (vi_rng1 (by rfl) T.n_range (ve_callIo (ok__law_take T) (hr.mono (by decide)) hG (by rfl) T.g__law_take T.F__law_take.kp T.b__law_take (pv 0) (vl_cons ve_int vl_nil))) (blkOk_by (own := [("_law_k", 10)]) (N := N__law_tree) (sc := defScope s__law_tree) (by decide +kernel)) (fun _ _ _ _ _ => (vg_name 10 (pg_name (i := 10) sc__law_tree.nd rfl (by first | exact .inl rfl | exact .inr rfl)))) (fun _ _ _ _ _ => vts_nil) (fun _ _ _ _ _ => (ve_callIo (ok__law_word T) (hr.mono (by decide)) hG (by rfl) T.g__law_word T.F__law_word.kp T.b__law_word (pv 0) vl_nil)))))))
      (vss_one (vs_ret (ve_tup (vl_cons (ve_name 5 (pv 5)) (vl_cons (ve_name 3 (pv 3)) (vl_cons (ve_name 6 (pv 6)) (vl_cons (ve_t1 call_tuple_of c1_tuple (by rfl) T.n_tuple (by decide +kernel) (VE.vb (VF.ve (vf_lcB (own := [("_law_k", 10)]) (js := [10]) rfl sc__law_tree.nd (vi_rng1 (by rfl) T.n_range (ve_callIo (ok__law_take T) (hr.mono (by decide)) hG (by rfl) T.g__law_take T.F__law_take.kp T.b__law_take (pv 0) (vl_cons ve_int vl_nil))) (blkOk_by (own := [("_law_k", 10)]) (N := N__law_tree) (sc := defScope s__law_tree) (by decide +kernel)) (fun _ _ _ _ _ => (vg_name 10 (pg_name (i := 10) sc__law_tree.nd rfl (by first | exact .inl rfl | exact .inr rfl)))) (fun _ _ _ _ _ => vts_nil) (fun _ _ _ _ _ => (ve_callIo (ok__law_word T) (hr.mono (by decide)) hG (by rfl) T.g__law_word T.F__law_word.kp T.b__law_word (pv 0) vl_nil)))))) vl_nil))))))))))),
    body__law_tree⟩
def wx__law_right : WS := (wSeq (wSet 1 (wCallIo 0 sp__law_tree (wCons (wCallIo 0 sp__law_of (wCons (wFz (wLst (wCons (wC (.int 1)) (wCons (wC (.int 5)) (wCons (wC (.int 14)) wNil))))) wNil)) (wCons (wCallIo 0 sp__law_of (wCons (wFz (wLst (wCons (wC (.int 1)) (wCons (wC (.int 2)) (wCons (wC (.int 4)) wNil))))) wNil)) wNil))))
    (wSeq (wSet 2 (wCall sp__law_inner (wCons (wAt 1 fIx (wC (.int 1))) wNil)))
    (wSeq (wFor (wRng1 (wC (.int 9))) (bName 3) (wSeq (wIfS (wOrT (wBool (wOp fNe (wC1 fRepr (wCall sp_path_of (wCons (wName 1) wNil))) (wC1 fRepr (wPeek 2)))) (wBool (wOp fIsNot (wOp fIx (wCall sp_core_at (wCons (wName 1) (wCons (wName 2) wNil))) (wC (.int 4))) (wC .none)))) (wRet (wC (.bool false))) wNext)
    (wSeq (wIfS (wBool (wOp fEq (wName 2) (wTup wNil))) (wRet (wOp fEq (wC1 fRepr (wCall sp_core_at (wCons (wName 1) (wCons (wName 2) wNil)))) (wC1 fRepr (wAt 1 fIx (wC (.int 1)))))) wNext)
    (wSeq (wIfS (wBool (wOp fNe (wC1 fRepr (wOp fIx (wCall sp_guest_at (wCons (wName 1) (wCons (wName 2) wNil))) (wC (.int 0)))) (wC1 fRepr (wCall sp_core_at (wCons (wName 1) (wCons (wName 2) wNil)))))) (wRet (wC (.bool false))) wNext)
    (wSeq (wSet 4 (wCallIo 0 sp__law_of (wCons (wFz (wLst (wCons (wOp (fI0 fun i j => .int (i - j)) (wC1 fLen (wPeek 2)) (wC (.int 1))) (wCons (wOp (fI0 fun i j => .int (i - j)) (wC1 fLen (wPeek 2)) (wC (.int 1))) (wCons (wCallIo 0 sp__law_take (wCons (wC1 fLen (wPeek 2)) wNil)) wNil))))) wNil)))
    (wPar 1 2 (wCons (wCall sp_with_guest (wCons (wName 1) (wCons (wSlT (wName 2) wNoPart (wPart (wOp fAdd (wName 4) (wC (.int 1))))) (wCons (wC .none) wNil)))) (wCons (wSlT (wName 2) wNoPart (wPart (wName 4))) wNil))))))))
    (wRet (wC (.bool false))))))
theorem ok__law_right (T : Tp K mg) : FnG P w K mg base 17 T.f__law_right T.d__law_right ["_law_hand_here"] (spOf K sp__law_right) :=
  fnv_mk T.F__law_right sc__law_right len__law_right fun cdv A outer s H E hr hG => ⟨_, wx__law_right,
    (vss_cons (vs_set (i := 1) sc__law_right.nd rfl (by first | exact .inl rfl | exact .inr rfl) (ve_callIo (ok__law_tree T) (hr.mono (by decide)) hG (by rfl) T.g__law_tree T.F__law_tree.kp T.b__law_tree (pv 0) (vl_cons (ve_callIo (ok__law_of T) (hr.mono (by decide)) hG (by rfl) T.g__law_of T.F__law_of.kp T.b__law_of (pv 0) (vl_cons (VF.ve (vf_lst (vl_cons ve_int (vl_cons ve_int (vl_cons ve_int vl_nil))))) vl_nil)) (vl_cons (ve_callIo (ok__law_of T) (hr.mono (by decide)) hG (by rfl) T.g__law_of T.F__law_of.kp T.b__law_of (pv 0) (vl_cons (VF.ve (vf_lst (vl_cons ve_int (vl_cons ve_int (vl_cons ve_int vl_nil))))) vl_nil)) vl_nil))))
      (vss_cons (vs_set (i := 2) sc__law_right.nd rfl (by first | exact .inl rfl | exact .inr rfl) (ve_call (ok__law_inner T) (hr.mono (by decide)) hG (by rfl) T.g__law_inner T.F__law_inner.kp T.b__law_inner (vl_cons (ve_ixN (hu_of hr) 1 (pv 1) ve_int (fun _ _ => rfl)) vl_nil)))
      (vss_cons (vs_for PassesOwn.never rfl (vi_rng1 (by rfl) T.n_range ve_int) (vg_name 3 (pg_name (i := 3) sc__law_right.nd rfl (by first | exact .inl rfl | exact .inr rfl))) (vss_cons (vs_if (VW.vt (vw_or (vt_cmp (op_neA hr.units) opok_ne (ve_b1 (cr_repr hG hr.units) c1_repr (by rfl) T.n_repr (by decide +kernel) (VE.vb (ve_call (ok_path_of T) (hr.mono (by decide)) hG (by rfl) T.g_path_of T.F_path_of.kp T.b_path_of (vl_cons (ve_name 1 (pv 1)) vl_nil)))) (ve_b1 (cr_repr hG hr.units) c1_repr (by rfl) T.n_repr (by decide +kernel) (vb_name 2 (pv 2))) (nomark _)) (vw_or1 (vt_cmp op_isnotA opok_isnot (ve_ix (hu_of hr) (ve_call (ok_core_at T) (hr.mono (by decide)) hG (by rfl) T.g_core_at T.F_core_at.kp T.b_core_at (vl_cons (ve_name 1 (pv 1)) (vl_cons (ve_name 2 (pv 2)) vl_nil))) ve_int (fun _ _ => rfl)) ve_non (nomark _))))) (vss_one (vs_ret ve_bl)) vss_nil)
      (vss_cons (vs_if (vt_cmp (op_eqA hr.units) opok_eq (ve_name 2 (pv 2)) (ve_tup vl_nil) (nomark _)) (vss_one (vs_ret (ve_cmp (op_eqA hr.units) opok_eq (ve_b1 (cr_repr hG hr.units) c1_repr (by rfl) T.n_repr (by decide +kernel) (VE.vb (ve_call (ok_core_at T) (hr.mono (by decide)) hG (by rfl) T.g_core_at T.F_core_at.kp T.b_core_at (vl_cons (ve_name 1 (pv 1)) (vl_cons (ve_name 2 (pv 2)) vl_nil))))) (ve_b1 (cr_repr hG hr.units) c1_repr (by rfl) T.n_repr (by decide +kernel) (VE.vb (ve_ixN (hu_of hr) 1 (pv 1) ve_int (fun _ _ => rfl)))) (nomark _)))) vss_nil)
      (vss_cons (vs_if (vt_cmp (op_neA hr.units) opok_ne (ve_b1 (cr_repr hG hr.units) c1_repr (by rfl) T.n_repr (by decide +kernel) (VE.vb (ve_ix (hu_of hr) (ve_call (ok_guest_at T) (hr.mono (by decide)) hG (by rfl) T.g_guest_at T.F_guest_at.kp T.b_guest_at (vl_cons (ve_name 1 (pv 1)) (vl_cons (ve_name 2 (pv 2)) vl_nil))) ve_int (fun _ _ => rfl)))) (ve_b1 (cr_repr hG hr.units) c1_repr (by rfl) T.n_repr (by decide +kernel) (VE.vb (ve_call (ok_core_at T) (hr.mono (by decide)) hG (by rfl) T.g_core_at T.F_core_at.kp T.b_core_at (vl_cons (ve_name 1 (pv 1)) (vl_cons (ve_name 2 (pv 2)) vl_nil))))) (nomark _)) (vss_one (vs_ret ve_bl)) vss_nil)
      (vss_cons (vs_set (i := 4) sc__law_right.nd rfl (by first | exact .inl rfl | exact .inr rfl) (ve_callIo (ok__law_of T) (hr.mono (by decide)) hG (by rfl) T.g__law_of T.F__law_of.kp T.b__law_of (pv 0) (vl_cons (VF.ve (vf_lst (vl_cons (ve_op op_sub (opok_I0 fun _ _ _ => .int _) (ve_b1 call_len c1_len (by rfl) T.n_len (by decide +kernel) (vb_name 2 (pv 2))) ve_int) (vl_cons (ve_op op_sub (opok_I0 fun _ _ _ => .int _) (ve_b1 call_len c1_len (by rfl) T.n_len (by decide +kernel) (vb_name 2 (pv 2))) ve_int) (vl_cons (ve_callIo (ok__law_take T) (hr.mono (by decide)) hG (by rfl) T.g__law_take T.F__law_take.kp T.b__law_take (pv 0) (vl_cons (ve_b1 call_len c1_len (by rfl) T.n_len (by decide +kernel) (vb_name 2 (pv 2))) vl_nil)) vl_nil))))) vl_nil)))
      (vss_one (vs_par (i := 1) (j := 2) rfl sc__law_right.nd rfl rfl (by decide) rfl rfl (vl_cons (ve_call (ok_with_guest T) (hr.mono (by decide)) hG (by rfl) T.g_with_guest T.F_with_guest.kp T.b_with_guest (vl_cons (ve_name 1 (pv 1)) (vl_cons (ve_slT (ve_name 2 (pv 2)) vo_none (vo_some (ve_op op_addA opok_add (ve_name 4 (pv 4)) ve_int))) (vl_cons ve_non vl_nil)))) (vl_cons (ve_slT (ve_name 2 (pv 2)) vo_none (vo_some (ve_name 4 (pv 4)))) vl_nil)) (by rfl))))))))
      (vss_one (vs_ret ve_bl))))),
    body__law_right⟩
def wx_law : WS := (wRet (wC1 fAll (wFz (wLc [1] (wRng1 (wOp fAdd (wC (.int 1)) (wOp (fI0 fun i j => .int (if j < i then j else i)) (wC (.int 3)) (wC1 fLen (wPeek 0))))) (bName 1) wYes (wCallM sp__law_right (wmF (wCallF sp__law_hand (wCons (wName 0) (wCons (wName 1) wNil))) wmNil))))))
theorem ok_law (T : Tp K mg) : FnG P w K mg base 18 T.f_law T.d_law ["_law_script"] (spOf K sp_law) :=
  fnv_mk T.F_law sc_law len_law fun cdv A outer s H E hr hG => ⟨_, wx_law,
    (vss_one (vs_ret (ve_b1 (cr_all rfl) c1_all (by rfl) T.n_all (by decide +kernel) (VE.vb (VF.ve (vf_lcB (own := [("_law_k", 1)]) (js := [1]) rfl sc_law.nd (vi_rng1 (by rfl) T.n_range (ve_op op_addA opok_add ve_int (ve_b2 (call_min2 rfl) c2_min (by rfl) T.n_min (by decide +kernel) ve_int (ve_b1 call_len c1_len (by rfl) T.n_len (by decide +kernel) (vb_name 0 (pv 0)))))) (blkOk_by (own := [("_law_k", 1)]) (N := N_law) (sc := defScope s_law) (by decide +kernel)) (fun _ _ _ _ _ => (vg_name 1 (pg_name (i := 1) sc_law.nd rfl (by first | exact .inl rfl | exact .inr rfl)))) (fun _ _ _ _ _ => vts_nil) (fun _ _ _ _ _ => (ve_callM (ok__law_right T) (hr.mono (by decide)) hG (by rfl) T.g__law_right T.F__law_right.kp T.b__law_right (vm_f (vf_call (ok__law_hand T) (hr.mono (by decide)) hG (by rfl) T.g__law_hand T.F__law_hand.kp T.b__law_hand (vl_cons (ve_name 0 (pv 0)) (vl_cons (ve_name 1 (pv 1)) vl_nil))) vm_nil))))))))),
    body_law⟩
end
theorem all_mk {l : PySem.W.OpenLaw} {w : World} {K : Fg} {h : Heap} {mg : Str → Option Value} {fa : Addr} (X : K.In h) (G0 : h.Ns mainGlobals mg) (hfa : mg "law" = some (.ref fa))
    {f0 : Addr} {od0 an0 : Option Addr} {sl0 : Array (Option Value)} {oc0 kV0 dc0 pm0 cd0 ct0 : Value}
    (a0 : PySem.W.nsIn K mainGlobals "is_whole" = some (some (.ref f0))) (l0 : K.lookup f0 = some ⟨oc0, od0, .func (PySem.W.fnOf "is_whole" "is_whole" (defArgs s_is_whole) (defBody s_is_whole) (defScope s_is_whole) .none kV0 dc0 pm0 an0 cd0 ct0), sl0⟩) (c0 : PySem.W.codeIn K cd0 "is_whole" = true) (k0 : PySem.W.keepIn K (.ref f0) = true)
    {f1 : Addr} {od1 an1 : Option Addr} {sl1 : Array (Option Value)} {oc1 kV1 dc1 pm1 cd1 ct1 : Value}
    (a1 : PySem.W.nsIn K mainGlobals "is_number" = some (some (.ref f1))) (l1 : K.lookup f1 = some ⟨oc1, od1, .func (PySem.W.fnOf "is_number" "is_number" (defArgs s_is_number) (defBody s_is_number) (defScope s_is_number) .none kV1 dc1 pm1 an1 cd1 ct1), sl1⟩) (c1 : PySem.W.codeIn K cd1 "is_number" = true) (k1 : PySem.W.keepIn K (.ref f1) = true)
    {f2 : Addr} {od2 an2 : Option Addr} {sl2 : Array (Option Value)} {oc2 kV2 dc2 pm2 cd2 ct2 : Value}
    (a2 : PySem.W.nsIn K mainGlobals "path_of" = some (some (.ref f2))) (l2 : K.lookup f2 = some ⟨oc2, od2, .func (PySem.W.fnOf "path_of" "path_of" (defArgs s_path_of) (defBody s_path_of) (defScope s_path_of) .none kV2 dc2 pm2 an2 cd2 ct2), sl2⟩) (c2 : PySem.W.codeIn K cd2 "path_of" = true) (k2 : PySem.W.keepIn K (.ref f2) = true)
    {f3 : Addr} {od3 an3 : Option Addr} {sl3 : Array (Option Value)} {oc3 kV3 dc3 pm3 cd3 ct3 : Value}
    (a3 : PySem.W.nsIn K mainGlobals "is_path" = some (some (.ref f3))) (l3 : K.lookup f3 = some ⟨oc3, od3, .func (PySem.W.fnOf "is_path" "is_path" (defArgs s_is_path) (defBody s_is_path) (defScope s_is_path) .none kV3 dc3 pm3 an3 cd3 ct3), sl3⟩) (c3 : PySem.W.codeIn K cd3 "is_path" = true) (k3 : PySem.W.keepIn K (.ref f3) = true)
    {f4 : Addr} {od4 an4 : Option Addr} {sl4 : Array (Option Value)} {oc4 kV4 dc4 pm4 cd4 ct4 : Value}
    (a4 : PySem.W.nsIn K mainGlobals "chain_to" = some (some (.ref f4))) (l4 : K.lookup f4 = some ⟨oc4, od4, .func (PySem.W.fnOf "chain_to" "chain_to" (defArgs s_chain_to) (defBody s_chain_to) (defScope s_chain_to) .none kV4 dc4 pm4 an4 cd4 ct4), sl4⟩) (c4 : PySem.W.codeIn K cd4 "chain_to" = true) (k4 : PySem.W.keepIn K (.ref f4) = true)
    {f5 : Addr} {od5 an5 : Option Addr} {sl5 : Array (Option Value)} {oc5 kV5 dc5 pm5 cd5 ct5 : Value}
    (a5 : PySem.W.nsIn K mainGlobals "core_at" = some (some (.ref f5))) (l5 : K.lookup f5 = some ⟨oc5, od5, .func (PySem.W.fnOf "core_at" "core_at" (defArgs s_core_at) (defBody s_core_at) (defScope s_core_at) .none kV5 dc5 pm5 an5 cd5 ct5), sl5⟩) (c5 : PySem.W.codeIn K cd5 "core_at" = true) (k5 : PySem.W.keepIn K (.ref f5) = true)
    {f6 : Addr} {od6 an6 : Option Addr} {sl6 : Array (Option Value)} {oc6 kV6 dc6 pm6 cd6 ct6 : Value}
    (a6 : PySem.W.nsIn K mainGlobals "guest_at" = some (some (.ref f6))) (l6 : K.lookup f6 = some ⟨oc6, od6, .func (PySem.W.fnOf "guest_at" "guest_at" (defArgs s_guest_at) (defBody s_guest_at) (defScope s_guest_at) .none kV6 dc6 pm6 an6 cd6 ct6), sl6⟩) (c6 : PySem.W.codeIn K cd6 "guest_at" = true) (k6 : PySem.W.keepIn K (.ref f6) = true)
    {f7 : Addr} {od7 an7 : Option Addr} {sl7 : Array (Option Value)} {oc7 kV7 dc7 pm7 cd7 ct7 : Value}
    (a7 : PySem.W.nsIn K mainGlobals "core_with" = some (some (.ref f7))) (l7 : K.lookup f7 = some ⟨oc7, od7, .func (PySem.W.fnOf "core_with" "core_with" (defArgs s_core_with) (defBody s_core_with) (defScope s_core_with) .none kV7 dc7 pm7 an7 cd7 ct7), sl7⟩) (c7 : PySem.W.codeIn K cd7 "core_with" = true) (k7 : PySem.W.keepIn K (.ref f7) = true)
    {f8 : Addr} {od8 an8 : Option Addr} {sl8 : Array (Option Value)} {oc8 kV8 dc8 pm8 cd8 ct8 : Value}
    (a8 : PySem.W.nsIn K mainGlobals "with_guest" = some (some (.ref f8))) (l8 : K.lookup f8 = some ⟨oc8, od8, .func (PySem.W.fnOf "with_guest" "with_guest" (defArgs s_with_guest) (defBody s_with_guest) (defScope s_with_guest) .none kV8 dc8 pm8 an8 cd8 ct8), sl8⟩) (c8 : PySem.W.codeIn K cd8 "with_guest" = true) (k8 : PySem.W.keepIn K (.ref f8) = true)
    {f9 : Addr} {od9 an9 : Option Addr} {sl9 : Array (Option Value)} {oc9 kV9 dc9 pm9 cd9 ct9 : Value}
    (a9 : PySem.W.nsIn K mainGlobals "_law_hand" = some (some (.ref f9))) (l9 : K.lookup f9 = some ⟨oc9, od9, .func (PySem.W.fnOf "_law_hand" "_law_hand" (defArgs s__law_hand) (defBody s__law_hand) (defScope s__law_hand) .none kV9 dc9 pm9 an9 cd9 ct9), sl9⟩) (c9 : PySem.W.codeIn K cd9 "_law_hand" = true) (k9 : PySem.W.keepIn K (.ref f9) = true)
    {f10 : Addr} {od10 an10 : Option Addr} {sl10 : Array (Option Value)} {oc10 kV10 dc10 pm10 cd10 ct10 : Value}
    (a10 : PySem.W.nsIn K mainGlobals "_law_take" = some (some (.ref f10))) (l10 : K.lookup f10 = some ⟨oc10, od10, .func (PySem.W.fnOf "_law_take" "_law_take" (defArgs s__law_take) (defBody s__law_take) (defScope s__law_take) .none kV10 dc10 pm10 an10 cd10 ct10), sl10⟩) (c10 : PySem.W.codeIn K cd10 "_law_take" = true) (k10 : PySem.W.keepIn K (.ref f10) = true)
    {f11 : Addr} {od11 an11 : Option Addr} {sl11 : Array (Option Value)} {oc11 kV11 dc11 pm11 cd11 ct11 : Value}
    (a11 : PySem.W.nsIn K mainGlobals "_law_of" = some (some (.ref f11))) (l11 : K.lookup f11 = some ⟨oc11, od11, .func (PySem.W.fnOf "_law_of" "_law_of" (defArgs s__law_of) (defBody s__law_of) (defScope s__law_of) .none kV11 dc11 pm11 an11 cd11 ct11), sl11⟩) (c11 : PySem.W.codeIn K cd11 "_law_of" = true) (k11 : PySem.W.keepIn K (.ref f11) = true)
    {f12 : Addr} {od12 an12 : Option Addr} {sl12 : Array (Option Value)} {oc12 kV12 dc12 pm12 cd12 ct12 : Value}
    (a12 : PySem.W.nsIn K mainGlobals "_law_word" = some (some (.ref f12))) (l12 : K.lookup f12 = some ⟨oc12, od12, .func (PySem.W.fnOf "_law_word" "_law_word" (defArgs s__law_word) (defBody s__law_word) (defScope s__law_word) .none kV12 dc12 pm12 an12 cd12 ct12), sl12⟩) (c12 : PySem.W.codeIn K cd12 "_law_word" = true) (k12 : PySem.W.keepIn K (.ref f12) = true)
    {f13 : Addr} {od13 an13 : Option Addr} {sl13 : Array (Option Value)} {oc13 kV13 dc13 pm13 cd13 ct13 : Value}
    (a13 : PySem.W.nsIn K mainGlobals "_law_table" = some (some (.ref f13))) (l13 : K.lookup f13 = some ⟨oc13, od13, .func (PySem.W.fnOf "_law_table" "_law_table" (defArgs s__law_table) (defBody s__law_table) (defScope s__law_table) .none kV13 dc13 pm13 an13 cd13 ct13), sl13⟩) (c13 : PySem.W.codeIn K cd13 "_law_table" = true) (k13 : PySem.W.keepIn K (.ref f13) = true)
    {f14 : Addr} {od14 an14 : Option Addr} {sl14 : Array (Option Value)} {oc14 kV14 dc14 pm14 cd14 ct14 : Value}
    (a14 : PySem.W.nsIn K mainGlobals "_law_core" = some (some (.ref f14))) (l14 : K.lookup f14 = some ⟨oc14, od14, .func (PySem.W.fnOf "_law_core" "_law_core" (defArgs s__law_core) (defBody s__law_core) (defScope s__law_core) .none kV14 dc14 pm14 an14 cd14 ct14), sl14⟩) (c14 : PySem.W.codeIn K cd14 "_law_core" = true) (k14 : PySem.W.keepIn K (.ref f14) = true)
    {f15 : Addr} {od15 an15 : Option Addr} {sl15 : Array (Option Value)} {oc15 kV15 dc15 pm15 cd15 ct15 : Value}
    (a15 : PySem.W.nsIn K mainGlobals "_law_guest" = some (some (.ref f15))) (l15 : K.lookup f15 = some ⟨oc15, od15, .func (PySem.W.fnOf "_law_guest" "_law_guest" (defArgs s__law_guest) (defBody s__law_guest) (defScope s__law_guest) .none kV15 dc15 pm15 an15 cd15 ct15), sl15⟩) (c15 : PySem.W.codeIn K cd15 "_law_guest" = true) (k15 : PySem.W.keepIn K (.ref f15) = true)
    {f16 : Addr} {od16 an16 : Option Addr} {sl16 : Array (Option Value)} {oc16 kV16 dc16 pm16 cd16 ct16 : Value}
    (a16 : PySem.W.nsIn K mainGlobals "_law_tree" = some (some (.ref f16))) (l16 : K.lookup f16 = some ⟨oc16, od16, .func (PySem.W.fnOf "_law_tree" "_law_tree" (defArgs s__law_tree) (defBody s__law_tree) (defScope s__law_tree) .none kV16 dc16 pm16 an16 cd16 ct16), sl16⟩) (c16 : PySem.W.codeIn K cd16 "_law_tree" = true) (k16 : PySem.W.keepIn K (.ref f16) = true)
    {f17 : Addr} {od17 an17 : Option Addr} {sl17 : Array (Option Value)} {oc17 kV17 dc17 pm17 cd17 ct17 : Value}
    (a17 : PySem.W.nsIn K mainGlobals "_law_inner" = some (some (.ref f17))) (l17 : K.lookup f17 = some ⟨oc17, od17, .func (PySem.W.fnOf "_law_inner" "_law_inner" (defArgs s__law_inner) (defBody s__law_inner) (defScope s__law_inner) .none kV17 dc17 pm17 an17 cd17 ct17), sl17⟩) (c17 : PySem.W.codeIn K cd17 "_law_inner" = true) (k17 : PySem.W.keepIn K (.ref f17) = true)
    {f18 : Addr} {od18 an18 : Option Addr} {sl18 : Array (Option Value)} {oc18 kV18 dc18 pm18 cd18 ct18 : Value}
    (a18 : PySem.W.nsIn K mainGlobals "_law_right" = some (some (.ref f18))) (l18 : K.lookup f18 = some ⟨oc18, od18, .func (PySem.W.fnOf "_law_right" "_law_right" (defArgs s__law_right) (defBody s__law_right) (defScope s__law_right) .none kV18 dc18 pm18 an18 cd18 ct18), sl18⟩) (c18 : PySem.W.codeIn K cd18 "_law_right" = true) (k18 : PySem.W.keepIn K (.ref f18) = true)
    {f19 : Addr} {od19 an19 : Option Addr} {sl19 : Array (Option Value)} {oc19 kV19 dc19 pm19 cd19 ct19 : Value}
    (a19 : PySem.W.nsIn K mainGlobals "law" = some (some (.ref f19))) (l19 : K.lookup f19 = some ⟨oc19, od19, .func (PySem.W.fnOf "law" "law" (defArgs s_law) (defBody s_law) (defScope s_law) .none kV19 dc19 pm19 an19 cd19 ct19), sl19⟩) (c19 : PySem.W.codeIn K cd19 "law" = true) (k19 : PySem.W.keepIn K (.ref f19) = true)
    (z_abs : PySem.W.nsIn K mainGlobals "abs" = some none)
    (z_all : PySem.W.nsIn K mainGlobals "all" = some none)
    (z_bool : PySem.W.nsIn K mainGlobals "bool" = some none)
    (z_int : PySem.W.nsIn K mainGlobals "int" = some none)
    (z_isinstance : PySem.W.nsIn K mainGlobals "isinstance" = some none)
    (z_len : PySem.W.nsIn K mainGlobals "len" = some none)
    (z_min : PySem.W.nsIn K mainGlobals "min" = some none)
    (z_range : PySem.W.nsIn K mainGlobals "range" = some none)
    (z_repr : PySem.W.nsIn K mainGlobals "repr" = some none)
    (z_tuple : PySem.W.nsIn K mainGlobals "tuple" = some none)
    {t_GUESTS : Tok} (y_GUESTS : PySem.W.nsIn K mainGlobals "GUESTS" = some (some (.int 4 t_GUESTS))) :
    ∃ fd : FuncData, (∀ (s : Shared) (v : Value), BindsTo s fd ⟨[v], []⟩ [("_law_script", v)]) ∧ ∀ base : Heap, K.In base → base.Ns mainGlobals mg → FnG l.prog w K mg base 18 fa fd ["_law_script"] (spOf K sp_law) := by
  have e := hfa.symm.trans (PySem.W.mg_of X G0 a19)
  cases e
  let T : Tp K mg := {
    f_is_whole := f0, d_is_whole := _, F_is_whole := fun_mk (st := s_is_whole) l0 c0 k0, b_is_whole := (fun_mk (st := s_is_whole) l0 c0 k0).binds (ps := ["thing"]) (fun _ _ _ _ _ _ us hl => match us, hl with | [_], _ => rfl), g_is_whole := PySem.W.mg_of X G0 a0,
    f_is_number := f1, d_is_number := _, F_is_number := fun_mk (st := s_is_number) l1 c1 k1, b_is_number := (fun_mk (st := s_is_number) l1 c1 k1).binds (ps := ["thing"]) (fun _ _ _ _ _ _ us hl => match us, hl with | [_], _ => rfl), g_is_number := PySem.W.mg_of X G0 a1,
    f_path_of := f2, d_path_of := _, F_path_of := fun_mk (st := s_path_of) l2 c2 k2, b_path_of := (fun_mk (st := s_path_of) l2 c2 k2).binds (ps := ["machine"]) (fun _ _ _ _ _ _ us hl => match us, hl with | [_], _ => rfl), g_path_of := PySem.W.mg_of X G0 a2,
    f_is_path := f3, d_is_path := _, F_is_path := fun_mk (st := s_is_path) l3 c3 k3, b_is_path := (fun_mk (st := s_is_path) l3 c3 k3).binds (ps := ["thing"]) (fun _ _ _ _ _ _ us hl => match us, hl with | [_], _ => rfl), g_is_path := PySem.W.mg_of X G0 a3,
    f_chain_to := f4, d_chain_to := _, F_chain_to := fun_mk (st := s_chain_to) l4 c4 k4, b_chain_to := (fun_mk (st := s_chain_to) l4 c4 k4).binds (ps := ["machine", "path"]) (fun _ _ _ _ _ _ us hl => match us, hl with | [_, _], _ => rfl), g_chain_to := PySem.W.mg_of X G0 a4,
    f_core_at := f5, d_core_at := _, F_core_at := fun_mk (st := s_core_at) l5 c5 k5, b_core_at := (fun_mk (st := s_core_at) l5 c5 k5).binds (ps := ["machine", "path"]) (fun _ _ _ _ _ _ us hl => match us, hl with | [_, _], _ => rfl), g_core_at := PySem.W.mg_of X G0 a5,
    f_guest_at := f6, d_guest_at := _, F_guest_at := fun_mk (st := s_guest_at) l6 c6 k6, b_guest_at := (fun_mk (st := s_guest_at) l6 c6 k6).binds (ps := ["machine", "path"]) (fun _ _ _ _ _ _ us hl => match us, hl with | [_, _], _ => rfl), g_guest_at := PySem.W.mg_of X G0 a6,
    f_core_with := f7, d_core_with := _, F_core_with := fun_mk (st := s_core_with) l7 c7 k7, b_core_with := (fun_mk (st := s_core_with) l7 c7 k7).binds (ps := ["core", "path", "guest"]) (fun _ _ _ _ _ _ us hl => match us, hl with | [_, _, _], _ => rfl), g_core_with := PySem.W.mg_of X G0 a7,
    f_with_guest := f8, d_with_guest := _, F_with_guest := fun_mk (st := s_with_guest) l8 c8 k8, b_with_guest := (fun_mk (st := s_with_guest) l8 c8 k8).binds (ps := ["machine", "path", "guest"]) (fun _ _ _ _ _ _ us hl => match us, hl with | [_, _, _], _ => rfl), g_with_guest := PySem.W.mg_of X G0 a8,
    f__law_hand := f9, d__law_hand := _, F__law_hand := fun_mk (st := s__law_hand) l9 c9 k9, b__law_hand := (fun_mk (st := s__law_hand) l9 c9 k9).binds (ps := ["_law_script", "_law_k"]) (fun _ _ _ _ _ _ us hl => match us, hl with | [_, _], _ => rfl), g__law_hand := PySem.W.mg_of X G0 a9,
    f__law_take := f10, d__law_take := _, F__law_take := fun_mk (st := s__law_take) l10 c10 k10, b__law_take := (fun_mk (st := s__law_take) l10 c10 k10).binds (ps := ["_law_hand_here", "_law_many"]) (fun _ _ _ _ _ _ us hl => match us, hl with | [_, _], _ => rfl), g__law_take := PySem.W.mg_of X G0 a10,
    f__law_of := f11, d__law_of := _, F__law_of := fun_mk (st := s__law_of) l11 c11 k11, b__law_of := (fun_mk (st := s__law_of) l11 c11 k11).binds (ps := ["_law_hand_here", "_law_some"]) (fun _ _ _ _ _ _ us hl => match us, hl with | [_, _], _ => rfl), g__law_of := PySem.W.mg_of X G0 a11,
    f__law_word := f12, d__law_word := _, F__law_word := fun_mk (st := s__law_word) l12 c12 k12, b__law_word := (fun_mk (st := s__law_word) l12 c12 k12).binds (ps := ["_law_hand_here"]) (fun _ _ _ _ _ _ us hl => match us, hl with | [_], _ => rfl), g__law_word := PySem.W.mg_of X G0 a12,
    f__law_table := f13, d__law_table := _, F__law_table := fun_mk (st := s__law_table) l13 c13 k13, b__law_table := (fun_mk (st := s__law_table) l13 c13 k13).binds (ps := ["_law_hand_here"]) (fun _ _ _ _ _ _ us hl => match us, hl with | [_], _ => rfl), g__law_table := PySem.W.mg_of X G0 a13,
    f__law_core := f14, d__law_core := _, F__law_core := fun_mk (st := s__law_core) l14 c14 k14, b__law_core := (fun_mk (st := s__law_core) l14 c14 k14).binds (ps := ["_law_hand_here", "_law_pot", "_law_deep"]) (fun _ _ _ _ _ _ us hl => match us, hl with | [_, _, _], _ => rfl), g__law_core := PySem.W.mg_of X G0 a14,
    f__law_guest := f15, d__law_guest := _, F__law_guest := fun_mk (st := s__law_guest) l15 c15 k15, b__law_guest := (fun_mk (st := s__law_guest) l15 c15 k15).binds (ps := ["_law_hand_here", "_law_pot", "_law_deep"]) (fun _ _ _ _ _ _ us hl => match us, hl with | [_, _, _], _ => rfl), g__law_guest := PySem.W.mg_of X G0 a15,
    f__law_tree := f16, d__law_tree := _, F__law_tree := fun_mk (st := s__law_tree) l16 c16 k16, b__law_tree := (fun_mk (st := s__law_tree) l16 c16 k16).binds (ps := ["_law_hand_here", "_law_most", "_law_deep"]) (fun _ _ _ _ _ _ us hl => match us, hl with | [_, _, _], _ => rfl), g__law_tree := PySem.W.mg_of X G0 a16,
    f__law_inner := f17, d__law_inner := _, F__law_inner := fun_mk (st := s__law_inner) l17 c17 k17, b__law_inner := (fun_mk (st := s__law_inner) l17 c17 k17).binds (ps := ["_law_core_here"]) (fun _ _ _ _ _ _ us hl => match us, hl with | [_], _ => rfl), g__law_inner := PySem.W.mg_of X G0 a17,
    f__law_right := f18, d__law_right := _, F__law_right := fun_mk (st := s__law_right) l18 c18 k18, b__law_right := (fun_mk (st := s__law_right) l18 c18 k18).binds (ps := ["_law_hand_here"]) (fun _ _ _ _ _ _ us hl => match us, hl with | [_], _ => rfl), g__law_right := PySem.W.mg_of X G0 a18,
    f_law := fa, d_law := _, F_law := fun_mk (st := s_law) l19 c19 k19, b_law := (fun_mk (st := s_law) l19 c19 k19).binds (ps := ["_law_script"]) (fun _ _ _ _ _ _ us hl => match us, hl with | [_], _ => rfl), g_law := PySem.W.mg_of X G0 a19,
    n_abs := PySem.W.mg_none_of X G0 z_abs,
    n_all := PySem.W.mg_none_of X G0 z_all,
    n_bool := PySem.W.mg_none_of X G0 z_bool,
    n_int := PySem.W.mg_none_of X G0 z_int,
    n_isinstance := PySem.W.mg_none_of X G0 z_isinstance,
    n_len := PySem.W.mg_none_of X G0 z_len,
    n_min := PySem.W.mg_none_of X G0 z_min,
    n_range := PySem.W.mg_none_of X G0 z_range,
    n_repr := PySem.W.mg_none_of X G0 z_repr,
    n_tuple := PySem.W.mg_none_of X G0 z_tuple,
    c_GUESTS := ⟨_, PySem.W.mg_of X G0 y_GUESTS⟩ }
  exact ⟨T.d_law, fun s v => .of_eq rfl, fun base _ _ => ok_law T⟩
end K23
open PySem PySem.W PyProof.Rows
set_option maxHeartbeats 0 in
theorem PySem.Challenge.cw_threemachines_k23_which_core_runs_holds : PySem.Challenge.rw_threemachines_k23_which_core_runs.Holds := by
  w_on; o_law; k_head; (case hw => w_witness2)
  k_fill
  refine G.walk_g (l := PySem.Challenge.rw_threemachines_k23_which_core_runs) (n := 63) (k := 18) (x := "_law_script") (spec := K23.sp_law) rfl (by decide) rfl ⟨rfl, by decide, by decide⟩ (fun w h Y => PySem.W.kIn_of Y) ?F K23.law_ok
  case F =>
    intro w mg fa h KX G hmg
    refine' K23.all_mk KX G hmg ?a0 ?l0 ?c0 ?k0 ?a1 ?l1 ?c1 ?k1 ?a2 ?l2 ?c2 ?k2 ?a3 ?l3 ?c3 ?k3 ?a4 ?l4 ?c4 ?k4 ?a5 ?l5 ?c5 ?k5 ?a6 ?l6 ?c6 ?k6 ?a7 ?l7 ?c7 ?k7 ?a8 ?l8 ?c8 ?k8 ?a9 ?l9 ?c9 ?k9 ?a10 ?l10 ?c10 ?k10 ?a11 ?l11 ?c11 ?k11 ?a12 ?l12 ?c12 ?k12 ?a13 ?l13 ?c13 ?k13 ?a14 ?l14 ?c14 ?k14 ?a15 ?l15 ?c15 ?k15 ?a16 ?l16 ?c16 ?k16 ?a17 ?l17 ?c17 ?k17 ?a18 ?l18 ?c18 ?k18 ?a19 ?l19 ?c19 ?k19 ?z_abs ?z_all ?z_bool ?z_int ?z_isinstance ?z_len ?z_min ?z_range ?z_repr ?z_tuple ?y_GUESTS
    (case a0 => k_is); (case l0 => k_is); (case c0 => k_is); (case k0 => k_is); (case a1 => k_is); (case l1 => k_is); (case c1 => k_is); (case k1 => k_is); (case a2 => k_is); (case l2 => k_is); (case c2 => k_is); (case k2 => k_is); (case a3 => k_is); (case l3 => k_is); (case c3 => k_is); (case k3 => k_is); (case a4 => k_is); (case l4 => k_is); (case c4 => k_is); (case k4 => k_is); (case a5 => k_is); (case l5 => k_is); (case c5 => k_is); (case k5 => k_is); (case a6 => k_is); (case l6 => k_is); (case c6 => k_is); (case k6 => k_is); (case a7 => k_is); (case l7 => k_is); (case c7 => k_is); (case k7 => k_is); (case a8 => k_is); (case l8 => k_is); (case c8 => k_is); (case k8 => k_is); (case a9 => k_is); (case l9 => k_is); (case c9 => k_is); (case k9 => k_is); (case a10 => k_is); (case l10 => k_is); (case c10 => k_is); (case k10 => k_is); (case a11 => k_is); (case l11 => k_is); (case c11 => k_is); (case k11 => k_is); (case a12 => k_is); (case l12 => k_is); (case c12 => k_is); (case k12 => k_is); (case a13 => k_is); (case l13 => k_is); (case c13 => k_is); (case k13 => k_is); (case a14 => k_is); (case l14 => k_is); (case c14 => k_is); (case k14 => k_is); (case a15 => k_is); (case l15 => k_is); (case c15 => k_is); (case k15 => k_is); (case a16 => k_is); (case l16 => k_is); (case c16 => k_is); (case k16 => k_is); (case a17 => k_is); (case l17 => k_is); (case c17 => k_is); (case k17 => k_is); (case a18 => k_is); (case l18 => k_is); (case c18 => k_is); (case k18 => k_is); (case a19 => k_is); (case l19 => k_is); (case c19 => k_is); (case k19 => k_is); (case z_abs => k_is); (case z_all => k_is); (case z_bool => k_is); (case z_int => k_is); (case z_isinstance => k_is); (case z_len => k_is); (case z_min => k_is); (case z_range => k_is); (case z_repr => k_is); (case z_tuple => k_is); (case y_GUESTS => k_is)
