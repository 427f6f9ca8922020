import PyProof.Rows.All
import Wide.All
import OpenK.AllK
import Wide.FinOn
import HandS.ForMost
import HandS.Exc
import HandS.TryOnly
import HandS.ExcOwn
import HandS.WordsExc
import HandS.Defaults
import HandS.CallSlots
import HandS.Style
import HandS.TupAny
import HandS.IsInst
import HandS.FStr
import HandS.RaiseMore
import HandS.Ends
import HandS.Codes
import HandS.Iter
import HandS.Walk
import KE.GoesMore
import PyProof.EnumMake
import HandS.Conv
import KE.KSuper
import KE.KExcSuper
import HandS.ExcInit
import HandS.ExcField
import HandS.ExcIs
import KE.KExcIs
import PySem.Challenge.RW_hastypage_k17_weavings_refused
set_option Elab.async false
set_option linter.all false
set_option maxRecDepth 100000
set_option maxHeartbeats 2000000
namespace Tr
open PySem L2

/-- plain data: what a value is, whatever stands where in the heap -/
inductive D where
  | non
  | bl (b : Bool)
  | int (i : Int)
  | str (s : Str)
  | lst (ds : List D)
  | tup (ds : List D)
  | dic (ks : List Key) (ds : List D)
  | ins (C : Addr) (ns : List Str) (ds : List D)
  | raw (v : V)

mutual
/-- the value v is the datum d -/
def Rep (K : W.Frag) (H : Hp) : D → V → Prop
  | .non, v => v = .non
  | .bl b, v => v = .bl b
  | .int i, v => v = .int i
  | .str s, v => v = .str s
  | .lst ds, v => ∃ a vs, v = .ref a ∧ SqL K H a vs ∧ Reps K H ds vs
  | .tup ds, v => ∃ a vs, v = .ref a ∧ SqT K H a vs ∧ Reps K H ds vs
  | .dic ks ds, v => ∃ a vs, v = .ref a ∧ Rd H a (.dK (ks.zip vs)) ∧ ks.length = vs.length ∧ Reps K H ds vs
  | .ins C ns ds, v => ∃ a dx vs, v = .ref a ∧ H a = some (.ins C dx (ns.zip vs)) ∧ ns.length = vs.length ∧ Reps K H ds vs
  | .raw w, v => v = w
def Reps (K : W.Frag) (H : Hp) : List D → List V → Prop
  | [], vs => vs = []
  | d :: ds, vs => ∃ v r, vs = v :: r ∧ Rep K H d v ∧ Reps K H ds r
end

theorem Same.rd {H H' : Hp} {a : Addr} {u : HO} (e : Same H H') (h : Rd H a u) : Rd H' a u := by
  rcases h with h | ⟨o, h⟩
  · exact .inl (e _ _ h)
  · exact .inr ⟨o, e _ _ h⟩
theorem Same.sqL {K : W.Frag} {H H' : Hp} {a : Addr} {xs : List V} (e : Same H H') (h : SqL K H a xs) : SqL K H' a xs := e.seq h
theorem Same.sqT {K : W.Frag} {H H' : Hp} {a : Addr} {xs : List V} (e : Same H H') (h : SqT K H a xs) : SqT K H' a xs := by
  rcases h with h | h
  · exact .inl (Same.rd e h)
  · exact .inr h

mutual
theorem Rep.mono {K : W.Frag} {H H' : Hp} (e : Same H H') : ∀ {d : D} {v : V}, Rep K H d v → Rep K H' d v
  | .non, _, h => h
  | .bl _, _, h => h
  | .int _, _, h => h
  | .str _, _, h => h
  | .lst _, _, ⟨a, vs, h1, h2, h3⟩ => ⟨a, vs, h1, Same.sqL e h2, Reps.mono e h3⟩
  | .tup _, _, ⟨a, vs, h1, h2, h3⟩ => ⟨a, vs, h1, Same.sqT e h2, Reps.mono e h3⟩
  | .dic _ _, _, ⟨a, vs, h1, h2, h4, h3⟩ => ⟨a, vs, h1, Same.rd e h2, h4, Reps.mono e h3⟩
  | .ins _ _ _, _, ⟨a, dx, vs, h1, h2, h4, h3⟩ => ⟨a, dx, vs, h1, e _ _ h2, h4, Reps.mono e h3⟩
  | .raw _, _, h => h
theorem Reps.mono {K : W.Frag} {H H' : Hp} (e : Same H H') : ∀ {ds : List D} {vs : List V}, Reps K H ds vs → Reps K H' ds vs
  | [], _, h => h
  | _ :: _, _, ⟨v, r, h1, h2, h3⟩ => ⟨v, r, h1, Rep.mono e h2, Reps.mono e h3⟩
end

section
variable {K : W.Frag} {H H' : Hp}
theorem Reps.nil : Reps K H [] [] := rfl
theorem Reps.cons {d : D} {v : V} {ds : List D} {vs : List V} (h : Rep K H d v) (t : Reps K H ds vs) : Reps K H (d :: ds) (v :: vs) := ⟨v, vs, rfl, h, t⟩
theorem Reps.length : ∀ {ds : List D} {vs : List V}, Reps K H ds vs → ds.length = vs.length
  | [], _, h => by cases h; rfl
  | _ :: _, _, ⟨_, _, h1, _, h3⟩ => by subst h1; simp [Reps.length h3]
theorem Reps.append : ∀ {ds es : List D} {vs ws : List V}, Reps K H ds vs → Reps K H es ws → Reps K H (ds ++ es) (vs ++ ws)
  | [], _, _, _, h, t => by cases h; exact t
  | _ :: _, _, _, _, ⟨v, r, h1, h2, h3⟩, t => by subst h1; exact ⟨v, _, rfl, h2, Reps.append h3 t⟩
theorem Reps.get : ∀ {ds : List D} {vs : List V} {i : Nat} {d : D}, Reps K H ds vs → ds[i]? = some d → ∃ v, vs[i]? = some v ∧ Rep K H d v
  | [], _, _, _, _, e => by simp at e
  | _ :: _, _, 0, _, ⟨v, r, h1, h2, h3⟩, e => by subst h1; simp at e; subst e; exact ⟨v, rfl, h2⟩
  | _ :: _, _, i + 1, _, ⟨v, r, h1, h2, h3⟩, e => by
    subst h1
    obtain ⟨u, q1, q2⟩ := Reps.get (i := i) h3 (by simpa using e)
    exact ⟨u, by simpa using q1, q2⟩
theorem Reps.getV {ds : List D} {vs : List V} {i : Nat} {v : V} (h : Reps K H ds vs) (e : vs[i]? = some v) : ∃ d, ds[i]? = some d ∧ Rep K H d v := by
  have hl := h.length
  have hi : i < ds.length := by rw [hl]; exact (List.getElem?_eq_some_iff.mp e).1
  obtain ⟨u, q1, q2⟩ := h.get (i := i) (d := ds[i]) (by simp [hi])
  rw [e] at q1; cases q1
  exact ⟨_, by simp [hi], q2⟩
theorem Reps.take : ∀ {ds : List D} {vs : List V} (n : Nat), Reps K H ds vs → Reps K H (ds.take n) (vs.take n)
  | _, _, 0, _ => by simp; exact Reps.nil
  | [], _, n + 1, h => by cases h; exact Reps.nil
  | _ :: _, _, n + 1, ⟨v, r, h1, h2, h3⟩ => by subst h1; exact ⟨v, _, rfl, h2, Reps.take n h3⟩
theorem Reps.drop : ∀ {ds : List D} {vs : List V} (n : Nat), Reps K H ds vs → Reps K H (ds.drop n) (vs.drop n)
  | _, _, 0, h => by simpa using h
  | [], _, n + 1, h => by cases h; exact Reps.nil
  | _ :: _, _, n + 1, ⟨v, r, h1, h2, h3⟩ => by subst h1; exact Reps.drop n h3
theorem Reps.set {d : D} {v : V} (h : Rep K H d v) : ∀ {ds : List D} {vs : List V} (i : Nat), Reps K H ds vs → Reps K H (ds.set i d) (vs.set i v)
  | [], _, _, q => by cases q; exact Reps.nil
  | _ :: _, _, 0, ⟨_, _, h1, _, h3⟩ => by subst h1; exact ⟨_, _, rfl, h, h3⟩
  | _ :: _, _, i + 1, ⟨_, _, h1, h2, h3⟩ => by subst h1; exact ⟨_, _, rfl, h2, Reps.set h i h3⟩
theorem Reps.one {d : D} {vs : List V} (h : Reps K H [d] vs) : ∃ v, vs = [v] ∧ Rep K H d v := by
  obtain ⟨v, r, h1, h2, h3⟩ := h
  cases h3; exact ⟨v, h1, h2⟩
theorem Reps.two {d e : D} {vs : List V} (h : Reps K H [d, e] vs) : ∃ v w, vs = [v, w] ∧ Rep K H d v ∧ Rep K H e w := by
  obtain ⟨v, r, h1, h2, w, r2, h3, h4, h5⟩ := h
  cases h5; subst h3; exact ⟨v, w, h1, h2, h4⟩
theorem Reps.split : ∀ {ds es : List D} {ws : List V}, Reps K H (ds ++ es) ws → ∃ a b, ws = a ++ b ∧ Reps K H ds a ∧ Reps K H es b
  | [], _, ws, h => ⟨[], ws, rfl, Reps.nil, h⟩
  | _ :: _, _, _, ⟨v, r, h1, h2, h3⟩ => by
    obtain ⟨a, b, e1, e2, e3⟩ := Reps.split h3
    exact ⟨v :: a, b, by rw [h1, e1]; rfl, Reps.cons h2 e2, e3⟩
/-- ints, strs -/
theorem Reps.ints : ∀ (xs : List Int), Reps K H (xs.map D.int) (xs.map V.int)
  | [] => rfl
  | x :: r => ⟨_, _, rfl, rfl, Reps.ints r⟩
theorem Reps.strs : ∀ (xs : List Str), Reps K H (xs.map D.str) (xs.map V.str)
  | [] => rfl
  | x :: r => ⟨_, _, rfl, rfl, Reps.strs r⟩
theorem Reps.of_ints : ∀ {xs : List Int} {vs : List V}, Reps K H (xs.map D.int) vs → vs = xs.map V.int
  | [], _, h => h
  | x :: r, _, ⟨_, _, h1, h2, h3⟩ => by subst h1; rw [Reps.of_ints h3, h2]; rfl
theorem Reps.of_strs : ∀ {xs : List Str} {vs : List V}, Reps K H (xs.map D.str) vs → vs = xs.map V.str
  | [], _, h => h
  | x :: r, _, ⟨_, _, h1, h2, h3⟩ => by subst h1; rw [Reps.of_strs h3, h2]; rfl
end

/-! ### cells: what may still change -/
inductive Cell where
  | lst (ds : List D)
  | dK (ks : List Key) (ds : List D)
  | ins (C : Addr) (ns : List Str) (ds : List D)
abbrev Cells := List (Addr × Cell)
def CellOk (K : W.Frag) (H0 H : Hp) (a : Addr) : Cell → Prop
  | .lst ds => ∃ vs, H a = some (.lst vs) ∧ Reps K H0 ds vs
  | .dK ks ds => ∃ vs, H a = some (.dK (ks.zip vs)) ∧ ks.length = vs.length ∧ Reps K H0 ds vs
  | .ins C ns ds => ∃ dx vs, H a = some (.ins C dx (ns.zip vs)) ∧ ns.length = vs.length ∧ Reps K H0 ds vs
def Dom (C : Cells) (a : Addr) : Prop := ∃ c, (a, c) ∈ C
/-- H0: what stands still; C: what may change -/
structure CellsR (K : W.Frag) (H0 : Hp) (C : Cells) (H : Hp) : Prop where
  same : Same H0 H
  free : ∀ a, Dom C a → H0 a = none
  ok : ∀ a c, (a, c) ∈ C → CellOk K H0 H a c
  nd : (C.map (·.1)).Nodup
theorem CellOk.some {K : W.Frag} {H0 H : Hp} {a : Addr} {c : Cell} (h : CellOk K H0 H a c) : H a ≠ none := by
  cases c with
  | lst ds => obtain ⟨_, e, _⟩ := h; rw [e]; simp
  | dK ks ds => obtain ⟨_, e, _⟩ := h; rw [e]; simp
  | ins C ns ds => obtain ⟨_, _, e, _⟩ := h; rw [e]; simp
theorem CellOk.mono {K : W.Frag} {H0 H0' H H' : Hp} {a : Addr} {c : Cell} (h : CellOk K H0 H a c) (e : Same H0 H0') (ha : H' a = H a) : CellOk K H0' H' a c := by
  cases c with
  | lst ds => obtain ⟨vs, q, r⟩ := h; exact ⟨vs, ha.trans q, r.mono e⟩
  | dK ks ds => obtain ⟨vs, q, l, r⟩ := h; exact ⟨vs, ha.trans q, l, r.mono e⟩
  | ins C ns ds => obtain ⟨dx, vs, q, l, r⟩ := h; exact ⟨dx, vs, ha.trans q, l, r.mono e⟩
/-- a step: what stands still grows, nothing changes but the cells -/
structure Stp (H0 : Hp) (C : Cells) (H : Hp) (H0' : Hp) (C' : Cells) (H' : Hp) : Prop where
  base : Same H0 H0'
  fr : ∀ a o, H a = some o → ¬ Dom C a → H' a = some o
  own : ∀ a, H a ≠ none → H0 a = none → ¬ Dom C a → H0' a = none ∧ ¬ Dom C' a
theorem Stp.refl (H0 : Hp) (C : Cells) (H : Hp) : Stp H0 C H H0 C H := ⟨Same.refl _, fun _ _ h _ => h, fun _ _ h n => ⟨h, n⟩⟩
theorem Stp.trans {K : W.Frag} {H0 H1 H2 HA HB HC : Hp} {C0 C1 C2 : Cells} (a : Stp H0 C0 HA H1 C1 HB) (r : CellsR K H1 C1 HB) (b : Stp H1 C1 HB H2 C2 HC) : Stp H0 C0 HA H2 C2 HC where
  base := a.base.trans b.base
  fr := fun x o h n => by
    have h1 := a.fr x o h n
    refine b.fr x o h1 fun d => ?_
    by_cases e : H0 x = none
    · exact (a.own x (by rw [h]; simp) e n).2 d
    · obtain ⟨u, hu⟩ := Option.ne_none_iff_exists'.mp e
      have := r.free x d
      rw [a.base x u hu] at this; cases this
  own := fun x h e n => by
    obtain ⟨q1, q2⟩ := a.own x h e n
    obtain ⟨o, ho⟩ := Option.ne_none_iff_exists'.mp h
    exact b.own x (by rw [a.fr x o ho n]; simp) q1 q2

/-! the three small steps -/
section
variable {K : W.Frag} {H0 H : Hp} {C : Cells} {p : Addr} {o : HO}
theorem CellsR.nn (r : CellsR K H0 C H) (hp : H p = Option.none) : H0 p = Option.none := r.same.free hp
theorem CellsR.notDom (r : CellsR K H0 C H) (hp : H p = none) : ¬ Dom C p := fun ⟨c, hc⟩ => (r.ok p c hc).some hp
/-- something new that will stand still -/
theorem stp_new (r : CellsR K H0 C H) (hp : H p = none) : Stp H0 C H (upd H0 p o) C (upd H p o) ∧ CellsR K (upd H0 p o) C (upd H p o) := by
  have n0 := r.nn hp
  have s0 : Same H0 (upd H0 p o) := fun a u h => by rw [upd_ne (ne_of_none h n0)]; exact h
  refine ⟨⟨s0, fun a u h _ => by rw [upd_ne (ne_of_none h hp)]; exact h, fun a h e n => ⟨?_, n⟩⟩, ⟨fun a u h => ?_, fun a d => ?_, fun a c hc => ?_, r.nd⟩⟩
  · rw [upd_ne (show a ≠ p from fun z => h (by rw [z]; exact hp))]; exact e
  · by_cases q : a = p
    · subst q; rw [upd_same] at h ⊢; exact h
    · rw [upd_ne q] at h ⊢; exact r.same a u h
  · rw [upd_ne (show a ≠ p from fun z => r.notDom hp (by rw [← z]; exact d))]; exact r.free a d
  · exact (r.ok a c hc).mono s0 (upd_ne fun z => (r.ok a c hc).some (z ▸ hp))
/-- a new cell -/
theorem stp_cell {c : Cell} (r : CellsR K H0 C H) (hp : H p = none) (ok : CellOk K H0 (upd H p o) p c) : Stp H0 C H H0 ((p, c) :: C) (upd H p o) ∧ CellsR K H0 ((p, c) :: C) (upd H p o) := by
  have n0 := r.nn hp
  refine ⟨⟨Same.refl _, fun a u h _ => by rw [upd_ne (ne_of_none h hp)]; exact h, fun a h e n => ⟨e, fun ⟨c', hc⟩ => ?_⟩⟩, ⟨fun a u h => ?_, fun a d => ?_, fun a c' hc => ?_, ?_⟩⟩
  · rcases List.mem_cons.mp hc with z | z
    · injection z with z1 _; exact h (z1 ▸ hp)
    · exact n ⟨c', z⟩
  · rw [upd_ne (ne_of_none h n0)]; exact r.same a u h
  · obtain ⟨c', hc⟩ := d
    rcases List.mem_cons.mp hc with z | z
    · injection z with z1 _; subst z1; exact n0
    · exact r.free a ⟨c', z⟩
  · rcases List.mem_cons.mp hc with z | z
    · injection z with z1 z2; subst z1; subst z2; exact ok
    · exact (r.ok a c' z).mono (Same.refl _) (upd_ne fun q => (r.ok a c' z).some (q ▸ hp))
  · rw [List.map_cons, List.nodup_cons]
    refine ⟨fun hm => ?_, r.nd⟩
    obtain ⟨⟨a, c'⟩, h1, h2⟩ := List.mem_map.mp hm
    simp only at h2; subst h2
    exact r.notDom hp ⟨c', h1⟩
theorem dom_set {i : Nat} {c c' : Cell} {a : Addr} (hi : C[i]? = some (p, c)) : Dom (C.set i (p, c')) a ↔ Dom C a := by
  constructor
  · rintro ⟨x, hx⟩
    obtain ⟨j, hj⟩ := List.mem_iff_getElem?.mp hx
    rw [List.getElem?_set] at hj
    split at hj
    · split at hj
      · cases hj; exact ⟨c, List.mem_iff_getElem?.mpr ⟨i, hi⟩⟩
      · cases hj
    · exact ⟨x, List.mem_iff_getElem?.mpr ⟨j, hj⟩⟩
  · rintro ⟨x, hx⟩
    obtain ⟨j, hj⟩ := List.mem_iff_getElem?.mp hx
    by_cases e : i = j
    · subst e; rw [hi] at hj; cases hj
      exact ⟨c', List.mem_iff_getElem?.mpr ⟨i, by rw [List.getElem?_set_self (List.getElem?_eq_some_iff.mp hi).1]⟩⟩
    · exact ⟨x, List.mem_iff_getElem?.mpr ⟨j, by rw [List.getElem?_set_ne e]; exact hj⟩⟩
/-- a cell is written -/
theorem stp_write {i : Nat} {c c' : Cell} (r : CellsR K H0 C H) (hi : C[i]? = some (p, c)) (ok : CellOk K H0 (upd H p o) p c') :
    Stp H0 C H H0 (C.set i (p, c')) (upd H p o) ∧ CellsR K H0 (C.set i (p, c')) (upd H p o) := by
  have hm : (p, c) ∈ C := List.mem_iff_getElem?.mpr ⟨i, hi⟩
  have n0 := r.free p ⟨c, hm⟩
  refine ⟨⟨Same.refl _, fun a u h n => by rw [upd_ne (show a ≠ p from fun z => n ⟨c, by rw [z]; exact hm⟩)]; exact h, fun a h e n => ⟨e, fun d => n ((dom_set hi).mp d)⟩⟩, ⟨fun a u h => ?_, fun a d => r.free a ((dom_set hi).mp d), fun a c2 hc => ?_, ?_⟩⟩
  · rw [upd_ne (ne_of_none h n0)]; exact r.same a u h
  · obtain ⟨j, hj⟩ := List.mem_iff_getElem?.mp hc
    rw [List.getElem?_set] at hj
    split at hj
    · split at hj
      · cases hj; exact ok
      · cases hj
    · rename_i hne
      have hc2 : (a, c2) ∈ C := List.mem_iff_getElem?.mpr ⟨j, hj⟩
      refine (r.ok a c2 hc2).mono (Same.refl _) (upd_ne fun z => hne ?_)
      subst z
      have h1 : (C.map (·.1))[i]? = some a := by rw [List.getElem?_map, hi]; rfl
      have h2 : (C.map (·.1))[j]? = some a := by rw [List.getElem?_map, hj]; rfl
      obtain ⟨l1, e1⟩ := List.getElem?_eq_some_iff.mp h1
      obtain ⟨l2, e2⟩ := List.getElem?_eq_some_iff.mp h2
      exact (List.getElem_inj r.nd).mp (e1.trans e2.symm)
  · have : (C.set i (p, c')).map (·.1) = C.map (·.1) := by
      rw [List.map_set]
      apply List.ext_getElem?
      intro j
      rw [List.getElem?_set]
      split
      · rename_i e; subst e
        rw [List.getElem?_map, hi]
        have := (List.getElem?_eq_some_iff.mp hi).1
        simp [this]
      · rfl
    rw [this]; exact r.nd
end
end Tr

set_option maxHeartbeats 2000000
namespace Tr
open PySem L2 PySem.Spec PyProof.Rows

abbrev Rho := List (Option D)
abbrev SlotsR (K : W.Frag) (H0 : Hp) (ρ : Rho) (σ : L2.St) : Prop := ∀ (i : Nat) (d : D), ρ[i]? = some (some d) → ∃ v, σ[i]? = some (some v) ∧ Rep K H0 d v
theorem SlotsR.mono {K : W.Frag} {H0 H0' : Hp} {ρ : Rho} {σ : L2.St} (h : SlotsR K H0 ρ σ) (e : Same H0 H0') : SlotsR K H0' ρ σ := fun i d q => let ⟨v, a, b⟩ := h i d q; ⟨v, a, b.mono e⟩
theorem SlotsR.set {K : W.Frag} {H0 : Hp} {ρ : Rho} {σ : L2.St} {d : D} {v : V} (i : Nat) (h : SlotsR K H0 ρ σ) (r : Rep K H0 d v) (hl : ρ.length = σ.length) : SlotsR K H0 (ρ.set i (some d)) (σ.set i (some v)) := fun j e q => by
  rw [List.getElem?_set] at q
  split at q
  · rename_i hij; subst hij
    split at q
    · cases q
      rename_i hlt
      refine ⟨v, ?_, r⟩
      rw [List.getElem?_set_self (by omega)]
    · cases q
  · rename_i hij
    rw [List.getElem?_set_ne hij]
    exact h j e q
theorem SlotsR.unset {K : W.Frag} {H0 : Hp} {ρ : Rho} {σ : L2.St} (i : Nat) (h : SlotsR K H0 ρ σ) : SlotsR K H0 (ρ.set i none) (σ.set i none) := fun j e q => by
  rw [List.getElem?_set] at q
  split at q
  · split at q <;> cases q
  · rename_i hij
    rw [List.getElem?_set_ne hij]
    exact h j e q

/-- the fields of an exception -/
abbrev XF := Option (List Str × List D)
def ExcR (K : W.Frag) (H0 H : Hp) : Option Addr → XF → Prop
  | none, none => True
  | some dd, some (ns, ds) => ∃ vs, H dd = some (.xd (ns.zip vs)) ∧ ns.length = vs.length ∧ Reps K H0 ds vs
  | _, _ => False

/-- where one stands: A is kept by every step; XQ is what is wanted of an exception -/
structure TX (X : Cx) where
  A : Hp → Cells → Hp → Prop
  up : ∀ {H0 C H H0' C' H'}, A H0 C H → CellsR X.K H0 C H → Stp H0 C H H0' C' H' → CellsR X.K H0' C' H' → A H0' C' H'
  XQ : Value → XF → Rho → Cells → Prop
  tk : Takes X (fun cls d σ H => ∃ fs ρ C H0, A H0 C H ∧ CellsR X.K H0 C H ∧ SlotsR X.K H0 ρ σ ∧ ρ.length = σ.length ∧ ExcR X.K H0 H d fs ∧ XQ cls fs ρ C)
  pass : PassesOwn (model X.prog X.w) X.A X.env X.xe

section
variable {X : Cx}
/-- the state as trees -/
structure At (T : TX X) (H0 : Hp) (ρ : Rho) (C : Cells) (σ : L2.St) (H : Hp) : Prop where
  a : T.A H0 C H
  c : CellsR X.K H0 C H
  s : SlotsR X.K H0 ρ σ
  l : ρ.length = σ.length
theorem At.step {T : TX X} {H0 H0' H H' : Hp} {ρ : Rho} {C C' : Cells} {σ : L2.St} (h : At T H0 ρ C σ H) (p : Stp H0 C H H0' C' H') (c : CellsR X.K H0' C' H') : At T H0' ρ C' σ H' :=
  ⟨T.up h.a h.c p c, c, h.s.mono p.base, h.l⟩
abbrev QE := D → Cells → Prop
abbrev QA := List D → Cells → Prop
abbrev QT := Bool → Cells → Prop
abbrev Cont (X : Cx) (H0 : Hp) (C : Cells) (H : Hp) (Q : QE) (R : VK) : Prop := ∀ v d C' H' H0', Stp H0 C H H0' C' H' → CellsR X.K H0' C' H' → Rep X.K H0' d v → Q d C' → R v H'
abbrev ContA (X : Cx) (H0 : Hp) (C : Cells) (H : Hp) (Q : QA) (R : List V → Hp → Prop) : Prop := ∀ vs ds C' H' H0', Stp H0 C H H0' C' H' → CellsR X.K H0' C' H' → Reps X.K H0' ds vs → Q ds C' → R vs H'
abbrev ContT (X : Cx) (H0 : Hp) (C : Cells) (H : Hp) (Q : QT) (R : Bool → Hp → Prop) : Prop := ∀ b C' H' H0', Stp H0 C H H0' C' H' → CellsR X.K H0' C' H' → Q b C' → R b H'
theorem Cont.here {H0 H : Hp} {C : Cells} {Q : QE} {R : VK} (k : Cont X H0 C H Q R) (c : CellsR X.K H0 C H) {d : D} {v : V} (r : Rep X.K H0 d v) (q : Q d C) : R v H := k v d C H H0 (Stp.refl _ _ _) c r q
theorem Cont.after {H0 H0' H H' : Hp} {C C' : Cells} {Q Q' : QE} {R : VK} (k : Cont X H0 C H Q R) (p : Stp H0 C H H0' C' H') (c : CellsR X.K H0' C' H') (e : ∀ d C2, Q' d C2 → Q d C2) : Cont X H0' C' H' Q' R :=
  fun v d C2 H2 H02 p2 c2 r q => k v d C2 H2 H02 (p.trans c p2) c2 r (e d C2 q)

/-! ### expressions -/
def TEx (T : TX X) (ρ : Rho) (C : Cells) (Q : QE) : TE := fun σ H R => ∃ H0, At T H0 ρ C σ H ∧ Cont X H0 C H Q R
def TAx (T : TX X) (ρ : Rho) (C : Cells) (Q : QA) : TA := fun σ H R => ∃ H0, At T H0 ρ C σ H ∧ ContA X H0 C H Q R
def TTx (T : TX X) (ρ : Rho) (C : Cells) (Q : QT) : TT := fun σ H R => ∃ H0, At T H0 ρ C σ H ∧ ContT X H0 C H Q R
def WE (T : TX X) (e : Expr) (ρ : Rho) (C : Cells) (Q : QE) : Prop := PE X e (TEx T ρ C Q)
def WA (T : TX X) (es : List Expr) (ρ : Rho) (C : Cells) (Q : QA) : Prop := PA X es (TAx T ρ C Q)
def WT (T : TX X) (e : Expr) (ρ : Rho) (C : Cells) (Q : QT) : Prop := PT X e (TTx T ρ C Q)
def WP (T : TX X) (e : Expr) (ρ : Rho) (C : Cells) (Q : QT) : Prop := PW X e (TTx T ρ C Q)

theorem PE.imp {e : Expr} {t t' : TE} (h : PE X e t) (i : ∀ σ H R, t' σ H R → t σ H R) : PE X e t' := ⟨fun pins s σ H Q I q => h.run pins s σ H Q I (i σ H Q q)⟩
theorem PA.imp {e : List Expr} {t t' : TA} (h : PA X e t) (i : ∀ σ H R, t' σ H R → t σ H R) : PA X e t' := ⟨fun pos pins s σ H Q I q => h.run pos pins s σ H Q I (i σ H Q q)⟩
theorem PT.imp {e : Expr} {t t' : TT} (h : PT X e t) (i : ∀ σ H R, t' σ H R → t σ H R) : PT X e t' := ⟨fun pins s σ H Q I q => h.run pins s σ H Q I (i σ H Q q)⟩
theorem PW.imp {e : Expr} {t t' : TT} (h : PW X e t) (i : ∀ σ H R, t' σ H R → t σ H R) : PW X e t' := ⟨fun wh pins s σ H Q I q => h.run wh pins s σ H Q I (i σ H Q q)⟩
theorem PS.imp {e : Stmt} {t t' : TS} (h : PS X e t) (i : ∀ D σ H, t' D σ H → t D σ H) : PS X e t' := ⟨fun pins s σ H Q I q => h.run pins s σ H Q I (i Q σ H q)⟩
theorem PSs.imp {e : List Stmt} {t t' : TS} (h : PSs X e t) (i : ∀ D σ H, t' D σ H → t D σ H) : PSs X e t' := ⟨fun pins s σ H Q I q => h.run pins s σ H Q I (i Q σ H q)⟩
theorem OpR.imp {f : Value → Value → Sem Value} {r r' : R2} (h : OpR X f r) (i : ∀ x y H R, r' x y H R → r x y H R) : OpR X f r' := fun pins s σ H x y v u Q I rx ry q => h pins s σ H x y v u Q I rx ry (i _ _ _ _ q)

/-- some state from which e does what is wanted -/
def someE (T : TX X) (ρ : Rho) (e : Expr) : TE := fun σ H R => ∃ C Q, WE T e ρ C Q ∧ TEx T ρ C Q σ H R
theorem pe_some (T : TX X) (ρ : Rho) (e : Expr) : PE X e (someE T ρ e) := ⟨fun pins s σ H Q I ⟨C, q, h, t⟩ => h.run pins s σ H Q I t⟩
def someA (T : TX X) (ρ : Rho) (e : List Expr) : TA := fun σ H R => ∃ C Q, WA T e ρ C Q ∧ TAx T ρ C Q σ H R
theorem pa_some (T : TX X) (ρ : Rho) (e : List Expr) : PA X e (someA T ρ e) := ⟨fun pos pins s σ H Q I ⟨C, q, h, t⟩ => h.run pos pins s σ H Q I t⟩
def someT (T : TX X) (ρ : Rho) (e : Expr) : TT := fun σ H R => ∃ C Q, WT T e ρ C Q ∧ TTx T ρ C Q σ H R
theorem pt_some (T : TX X) (ρ : Rho) (e : Expr) : PT X e (someT T ρ e) := ⟨fun pins s σ H Q I ⟨C, q, h, t⟩ => h.run pins s σ H Q I t⟩
def someP (T : TX X) (ρ : Rho) (e : Expr) : TT := fun σ H R => ∃ C Q, WP T e ρ C Q ∧ TTx T ρ C Q σ H R
theorem pw_some (T : TX X) (ρ : Rho) (e : Expr) : PW X e (someP T ρ e) := ⟨fun wh pins s σ H Q I ⟨C, q, h, t⟩ => h.run wh pins s σ H Q I t⟩

variable {T : TX X} {ρ : Rho} {C : Cells} {Q : QE} {e a b c : Expr} {pos : Pos} {es : List Expr}
theorem WE.mono {Q' : QE} (h : WE T e ρ C Q) (i : ∀ d C', Q d C' → Q' d C') : WE T e ρ C Q' :=
  PE.imp h fun σ H R ⟨H0, a, k⟩ => ⟨H0, a, fun v d C' H' H0' p c r q => k v d C' H' H0' p c r (i d C' q)⟩
theorem WT.mono {Q Q' : QT} (h : WT T e ρ C Q) (i : ∀ d C', Q d C' → Q' d C') : WT T e ρ C Q' :=
  PT.imp h fun σ H R ⟨H0, a, k⟩ => ⟨H0, a, fun v C' H' H0' p c q => k v C' H' H0' p c (i v C' q)⟩

/-- from a reading that only looks -/
theorem we_look {t : TE} {d : D} (h : PE X e t) (i : ∀ σ H H0, At T H0 ρ C σ H → ∃ v, Rep X.K H0 d v ∧ ∀ R : VK, R v H → t σ H R) (q : Q d C) : WE T e ρ C Q :=
  PE.imp h fun σ H R ⟨H0, a, k⟩ => let ⟨v, r, j⟩ := i σ H H0 a; j R (k.here a.c r q)
theorem we_int {i j} (q : Q (.int i) C) : WE T (.Constant (.int i) j pos) ρ C Q := we_look (d := .int i) pe_int (fun _ _ _ _ => ⟨.int i, rfl, fun _ r => r⟩) q
theorem we_bl {i j} (q : Q (.bl i) C) : WE T (.Constant (.bool i) j pos) ρ C Q := we_look (d := .bl i) pe_bl (fun _ _ _ _ => ⟨.bl i, rfl, fun _ r => r⟩) q
theorem we_non {j} (q : Q .non C) : WE T (.Constant .none j pos) ρ C Q := we_look (d := .non) pe_non (fun _ _ _ _ => ⟨.non, rfl, fun _ r => r⟩) q
theorem we_str {i j} (q : Q (.str i) C) : WE T (.Constant (.str i) j pos) ρ C Q := we_look (d := .str i) pe_str (fun _ _ _ _ => ⟨.str i, rfl, fun _ r => r⟩) q
/-- a name of the def -/
theorem we_var (i : Nat) {x : Str} {d : D} (hd : ρ[i]? = some (some d)) (q : Q d C) (h : PE X (.Name x pos) (tVar i)) : WE T (.Name x pos) ρ C Q :=
  we_look h (fun σ H H0 a => let ⟨v, e, r⟩ := a.s i d hd; ⟨v, r, fun R k => ⟨v, e, k⟩⟩) q
/-- a module's name by its value -/
theorem we_glob {x : Str} {v : V} {d : D} (h : PE X (.Name x pos) (tC v)) (r : ∀ H0 : Hp, Rep X.K H0 d v) (q : Q d C) : WE T (.Name x pos) ρ C Q :=
  we_look h (fun σ H H0 a => ⟨v, r H0, fun R k => k⟩) q

/-! ### two-place operations -/
def OW (T : TX X) (f : Value → Value → Sem Value) (d1 d2 : D) (C : Cells) (Q : QE) : Prop :=
  OpR X f fun x y H R => ∃ H0, CellsR X.K H0 C H ∧ Rep X.K H0 d1 x ∧ Rep X.K H0 d2 y ∧ Cont X H0 C H Q R
def someO (T : TX X) (f : Value → Value → Sem Value) : R2 := fun x y H R => ∃ d1 d2 C Q, OW T f d1 d2 C Q ∧ ∃ H0, CellsR X.K H0 C H ∧ Rep X.K H0 d1 x ∧ Rep X.K H0 d2 y ∧ Cont X H0 C H Q R
theorem op_some (T : TX X) (f : Value → Value → Sem Value) : OpR X f (someO T f) := fun pins s σ H x y v u Q I rx ry ⟨d1, d2, C, q, h, k⟩ => h pins s σ H x y v u Q I rx ry k
theorem ow_look {f : Value → Value → Sem Value} {r : R2} {d1 d2 d : D} (h : OpR X f r) (i : ∀ x y H H0, CellsR X.K H0 C H → Rep X.K H0 d1 x → Rep X.K H0 d2 y → ∃ v, Rep X.K H0 d v ∧ ∀ R : VK, R v H → r x y H R) (q : Q d C) : OW T f d1 d2 C Q :=
  OpR.imp h fun x y H R ⟨H0, c, r1, r2, k⟩ => let ⟨v, rr, j⟩ := i x y H H0 c r1 r2; j R (k.here c rr q)
/-- both sides, then the operation: what the three readings have in common -/
theorem both {r : R2} {f : Value → Value → Sem Value} (h : WE T a ρ C fun d1 C1 => WE T b ρ C1 fun d2 C2 => OW T f d1 d2 C2 Q) (hr : ∀ x y H R, someO T f x y H R → r x y H R) :
    ∀ σ H R, TEx T ρ C Q σ H R → tOp r (TEx T ρ C fun d1 C1 => WE T b ρ C1 fun d2 C2 => OW T f d1 d2 C2 Q) (someE T ρ b) σ H R := fun σ H R ⟨H0, at_, k⟩ => by
  refine ⟨H0, at_, fun v1 d1 C1 H1 H01 p1 c1 r1 q1 => ?_⟩
  have at1 := at_.step p1 c1
  refine ⟨C1, _, q1, H01, at1, fun v2 d2 C2 H2 H02 p2 c2 r2 q2 => ?_⟩
  exact hr _ _ _ _ ⟨d1, d2, C2, Q, q2, H02, c2, r1.mono p2.base, r2, k.after (p1.trans c1 p2) c2 fun _ _ z => z⟩
theorem we_bin {op : Operator} (h : WE T a ρ C fun d1 C1 => WE T b ρ C1 fun d2 C2 => OW T (binaryOp op) d1 d2 C2 Q) : WE T (.BinOp a op b pos) ρ C Q :=
  PE.imp (pe_op (op_some T (binaryOp op)) h (pe_some T ρ b)) (both h fun _ _ _ _ z => z)
theorem we_cmp {op : CmpOp} (h : WE T a ρ C fun d1 C1 => WE T b ρ C1 fun d2 C2 => OW T (compareOp op) d1 d2 C2 Q) (hm : behindInMarks op b = false) : WE T (.Compare a [op] [b] pos) ρ C Q :=
  PE.imp (pe_cmpR (op_some T (compareOp op)) h (pe_some T ρ b) hm) (both h fun _ _ _ _ z => z)
theorem wt_cmp {op : CmpOp} {Q : QT} (h : WE T a ρ C fun d1 C1 => WE T b ρ C1 fun d2 C2 => OW T (compareOp op) d1 d2 C2 fun d C3 => ∃ k, d = .bl k ∧ Q k C3) (hm : behindInMarks op b = false) : WT T (.Compare a [op] [b] pos) ρ C Q :=
  PT.imp (pt_cmpR (op_some T (compareOp op)) h (pe_some T ρ b) hm) fun σ H R ⟨H0, at_, k⟩ => both (Q := fun d C3 => ∃ k, d = .bl k ∧ Q k C3) h (fun _ _ _ _ z => z) σ H _ ⟨H0, at_, fun v d C' H' H0' p c r ⟨j, e, q⟩ => by
    subst e; cases r; exact ⟨j, rfl, k j C' H' H0' p c q⟩⟩

/-! ### tests -/
/-- the truth of a datum -/
def TruD (C : Cells) : D → Bool → Prop
  | .non, b => b = false
  | .bl k, b => b = k
  | .int i, b => b = decide (i ≠ 0)
  | .str s, b => b = decide (s.length ≠ 0)
  | .lst ds, b => b = !ds.isEmpty
  | .tup ds, b => b = !ds.isEmpty
  | .dic ks _, b => b = !ks.isEmpty
  | _, _ => False
theorem wt_tB {Q : QT} {t : TE → TT} (ht : ∀ ta, PE X e ta → PT X e (t ta)) (hm : ∀ ta σ H R, tTest ta σ H R → t ta σ H R) (h : WE T e ρ C fun d C1 => ∃ k, d = .bl k ∧ Q k C1) : WT T e ρ C Q :=
  PT.imp (ht _ h) fun σ H R ⟨H0, at_, k⟩ => hm _ σ H R ⟨H0, at_, fun v d C' H' H0' p c r ⟨j, e, q⟩ => by subst e; cases r; exact ⟨j, rfl, k j C' H' H0' p c q⟩⟩
/-- an expression whose value is a bool -/
theorem wt_val {Q : QT} (h : WE T e ρ C fun d C1 => ∃ k, d = .bl k ∧ Q k C1) (he : ∀ whole, isTrue e X.env whole = (do let v ← whole; standAt e.pos; holding [v] (truthy v)) := by intro _; rfl) : WT T e ρ C Q :=
  wt_tB (t := tB) (fun _ z => pt_val z he) (fun _ _ _ _ z => z) h
theorem wt_not {Q : QT} (h : WT T a ρ C fun k C1 => Q (!k) C1) : WT T (.UnaryOp .Not a pos) ρ C Q :=
  PT.imp (pt_not h) fun σ H R ⟨H0, at_, k⟩ => ⟨H0, at_, fun j C' H' H0' p c q => k _ C' H' H0' p c q⟩
theorem wt_p {Q : QT} (h : WP T a ρ C Q) : WT T a ρ C Q := PW.pt h
theorem wp_and1 {Q : QT} (h : WT T a ρ C Q) : WP T (.BoolOp .And [a] pos) ρ C Q := pw_and1 h
theorem wp_or1 {Q : QT} (h : WT T a ρ C Q) : WP T (.BoolOp .Or [a] pos) ρ C Q := pw_or1 h
theorem wp_and {Q : QT} (h : WT T a ρ C fun k C1 => if k = true then WP T (.BoolOp .And (b :: es) pos) ρ C1 Q else Q false C1) : WP T (.BoolOp .And (a :: b :: es) pos) ρ C Q :=
  PW.imp (pw_and h (pw_some T ρ _)) fun σ H R ⟨H0, at_, k⟩ => ⟨H0, at_, fun j C' H' H0' p c q => by
    cases j with
    | true => exact ⟨C', Q, q, H0', at_.step p c, fun j C2 H2 H02 p2 c2 q2 => k j C2 H2 H02 (p.trans c p2) c2 q2⟩
    | false => exact k false C' H' H0' p c q⟩
theorem wp_or {Q : QT} (h : WT T a ρ C fun k C1 => if k = true then Q true C1 else WP T (.BoolOp .Or (b :: es) pos) ρ C1 Q) : WP T (.BoolOp .Or (a :: b :: es) pos) ρ C Q :=
  PW.imp (pw_or h (pw_some T ρ _)) fun σ H R ⟨H0, at_, k⟩ => ⟨H0, at_, fun j C' H' H0' p c q => by
    cases j with
    | false => exact ⟨C', Q, q, H0', at_.step p c, fun j C2 H2 H02 p2 c2 q2 => k j C2 H2 H02 (p.trans c p2) c2 q2⟩
    | true => exact k true C' H' H0' p c q⟩
/-- and, or, not as values that are bools -/
theorem we_one {op} (h : WE T a ρ C Q) : WE T (.BoolOp op [a] pos) ρ C Q := pe_one h
theorem we_and (h : WE T a ρ C fun d C1 => ∃ k, d = .bl k ∧ if k = true then WE T (.BoolOp .And (b :: es) pos) ρ C1 Q else Q (.bl false) C1) : WE T (.BoolOp .And (a :: b :: es) pos) ρ C Q :=
  PE.imp (pe_and h (pe_some T ρ _)) fun σ H R ⟨H0, at_, k⟩ => ⟨H0, at_, fun v d C' H' H0' p c r ⟨j, e, q⟩ => by
    subst e; cases r
    refine ⟨j, rfl, ?_⟩
    cases j with
    | true => exact ⟨C', Q, q, H0', at_.step p c, k.after p c fun _ _ z => z⟩
    | false => exact k _ (.bl false) C' H' H0' p c rfl q⟩
theorem we_or (h : WE T a ρ C fun d C1 => ∃ k, d = .bl k ∧ if k = true then Q (.bl true) C1 else WE T (.BoolOp .Or (b :: es) pos) ρ C1 Q) : WE T (.BoolOp .Or (a :: b :: es) pos) ρ C Q :=
  PE.imp (pe_or h (pe_some T ρ _)) fun σ H R ⟨H0, at_, k⟩ => ⟨H0, at_, fun v d C' H' H0' p c r ⟨j, e, q⟩ => by
    subst e; cases r
    refine ⟨j, rfl, ?_⟩
    cases j with
    | false => exact ⟨C', Q, q, H0', at_.step p c, k.after p c fun _ _ z => z⟩
    | true => exact k _ (.bl true) C' H' H0' p c rfl q⟩
theorem we_not (h : WE T a ρ C fun d C1 => ∃ k, d = .bl k ∧ Q (.bl (!k)) C1) : WE T (.UnaryOp .Not a pos) ρ C Q :=
  PE.imp (pe_not h) fun σ H R ⟨H0, at_, k⟩ => ⟨H0, at_, fun v d C' H' H0' p c r ⟨j, e, q⟩ => by
    subst e; cases r; exact ⟨j, rfl, k _ (.bl (!j)) C' H' H0' p c rfl q⟩⟩
/-- a if c else b -/
theorem we_ifExp (h : WT T c ρ C fun k C1 => if k = true then WE T a ρ C1 Q else WE T b ρ C1 Q) : WE T (.IfExp c a b pos) ρ C Q :=
  PE.imp (pe_ifExp h (pe_some T ρ a) (pe_some T ρ b)) fun σ H R ⟨H0, at_, k⟩ => ⟨H0, at_, fun j C' H' H0' p c q => by
    cases j with
    | true => exact ⟨C', Q, q, H0', at_.step p c, k.after p c fun _ _ z => z⟩
    | false => exact ⟨C', Q, q, H0', at_.step p c, k.after p c fun _ _ z => z⟩⟩

/-! ### argument lists, displays -/
theorem wa_nil {Q : QA} (q : Q [] C) : WA T [] ρ C Q := PA.imp pa_nil fun σ H R ⟨H0, at_, k⟩ => k [] [] C H H0 (Stp.refl _ _ _) at_.c Reps.nil q
theorem wa_cons {Q : QA} (h : WE T a ρ C fun d C1 => WA T es ρ C1 fun ds C2 => Q (d :: ds) C2) (hs : starEach (a :: es) X.env = (false, eval a X.env) :: starEach es X.env := by rfl) : WA T (a :: es) ρ C Q :=
  PA.imp (pa_cons h (pa_some T ρ es) hs) fun σ H R ⟨H0, at_, k⟩ => ⟨H0, at_, fun v d C1 H1 H01 p1 c1 r1 q1 => ⟨C1, _, q1, H01, at_.step p1 c1, fun vs ds C2 H2 H02 p2 c2 r2 q2 =>
    k _ _ C2 H2 H02 (p1.trans c1 p2) c2 (Reps.cons (r1.mono p2.base) r2) q2⟩⟩
/-- a new tuple, a new list that stand still -/
theorem we_tup {x1} (h : WA T es ρ C fun ds C1 => ds.length ≤ 100000 ∧ Q (.tup ds) C1) : WE T (.Tuple es x1 pos) ρ C Q :=
  PE.imp (pe_tup h) fun σ H R ⟨H0, at_, k⟩ => ⟨H0, at_, fun vs ds C1 H1 H01 p1 c1 r1 ⟨z, q⟩ => ⟨Nat.le_trans (by rw [← r1.length]; exact z) (by decide), fun p hp => by
    obtain ⟨p2, c2⟩ := stp_new (o := .tup vs) c1 hp
    exact k _ (.tup ds) C1 _ _ (p1.trans c1 p2) c2 ⟨p, vs, rfl, .inl (.inl upd_same), r1.mono p2.base⟩ q⟩⟩
theorem we_lst (h : WA T es ρ C fun ds C1 => ds.length ≤ 100000 ∧ Q (.lst ds) C1) : WE T (.List es pos) ρ C Q :=
  PE.imp (pe_lst h) fun σ H R ⟨H0, at_, k⟩ => ⟨H0, at_, fun vs ds C1 H1 H01 p1 c1 r1 ⟨z, q⟩ => ⟨Nat.le_trans (by rw [← r1.length]; exact z) (by decide), fun p hp => by
    obtain ⟨p2, c2⟩ := stp_new (o := .lst vs) c1 hp
    exact k _ (.lst ds) C1 _ _ (p1.trans c1 p2) c2 ⟨p, vs, rfl, .inl (.inl upd_same), r1.mono p2.base⟩ q⟩⟩
/-- a new list that may change -/
theorem we_lstC (h : WA T es ρ C fun ds C1 => ds.length ≤ 100000 ∧ ∀ p, Q (.raw (.ref p)) ((p, .lst ds) :: C1)) : WE T (.List es pos) ρ C Q :=
  PE.imp (pe_lst h) fun σ H R ⟨H0, at_, k⟩ => ⟨H0, at_, fun vs ds C1 H1 H01 p1 c1 r1 ⟨z, q⟩ => ⟨Nat.le_trans (by rw [← r1.length]; exact z) (by decide), fun p hp => by
    obtain ⟨p2, c2⟩ := stp_cell (o := .lst vs) (c := .lst ds) c1 hp ⟨vs, upd_same, r1⟩
    exact k _ (.raw (.ref p)) _ _ _ (p1.trans c1 p2) c2 rfl (q p)⟩⟩

/-! ### calls of what is known by its values -/
def CW (T : TX X) (f : Value) (ds : List D) (C : Cells) (Q : QE) : Prop := CallR X f fun xs H R => ∃ H0, CellsR X.K H0 C H ∧ Reps X.K H0 ds xs ∧ Cont X H0 C H Q R
def someC (T : TX X) (f : Value) : List V → Hp → VK → Prop := fun xs H R => ∃ ds C Q, CW T f ds C Q ∧ ∃ H0, CellsR X.K H0 C H ∧ Reps X.K H0 ds xs ∧ Cont X H0 C H Q R
theorem call_some (T : TX X) (f : Value) : CallR X f (someC T f) := fun pins s σ H vs us Q I r ⟨ds, C, q, h, k⟩ => h pins s σ H vs us Q I r k
theorem CallR.imp {f : Value} {r r' : List V → Hp → VK → Prop} (h : CallR X f r) (i : ∀ xs H R, r' xs H R → r xs H R) : CallR X f r' := fun pins s σ H vs us Q I rv q => h pins s σ H vs us Q I rv (i _ _ _ q)
theorem cw_look {f : Value} {r : List V → Hp → VK → Prop} {ds : List D} {d : D} (h : CallR X f r) (i : ∀ xs H H0, CellsR X.K H0 C H → Reps X.K H0 ds xs → ∃ v, Rep X.K H0 d v ∧ ∀ R : VK, R v H → r xs H R) (q : Q d C) : CW T f ds C Q :=
  CallR.imp h fun xs H R ⟨H0, c, r1, k⟩ => let ⟨v, rr, j⟩ := i xs H H0 c r1; j R (k.here c rr q)
theorem args_some {t : List V → Hp → VK → Prop} {es : List Expr} {f : Value} (i : ∀ xs H R, someC T f xs H R → t xs H R) : ∀ σ H R, TEx T ρ C Q σ H R → tCB t (TAx T ρ C fun ds C1 => CW T f ds C1 Q) σ H R :=
  fun σ H R ⟨H0, at_, k⟩ => ⟨H0, at_, fun vs ds C1 H1 H01 p1 c1 r1 q1 => i _ _ _ ⟨ds, C1, Q, q1, H01, c1, r1, k.after p1 c1 fun _ _ z => z⟩⟩
theorem we_callB {x : Str} {p : Pos} {id : String} (hg : Gl X x) (hm : X.mg x = none) (hv : bootBuiltins x = some (.builtin id)) (h : WA T (a :: es) ρ C fun ds C1 => CW T (.builtin id) ds C1 Q)
    (hn : x ≠ "__name__" := by decide) (hdb : (x == ("__debug__" : Str)) = false := by decide) (he : starEach (a :: es) X.env = (false, eval a X.env) :: starEach es X.env := by rfl) (hpl : (backTo pos (starEach es X.env)).any (·.1) = false := by rfl) :
    WE T (.Call (.Name x p) (a :: es) [] pos) ρ C Q := PE.imp (pe_callB (call_some T _) hg hm hv h hn hdb he hpl) (args_some (es := es) fun _ _ _ z => z)
theorem we_callTy {x : Str} {p : Pos} {id : String} (hg : Gl X x) (hm : X.mg x = none) (hv : bootBuiltins x = some (.type id)) (h : WA T (a :: es) ρ C fun ds C1 => CW T (.type id) ds C1 Q)
    (hn : x ≠ "__name__" := by decide) (hdb : (x == ("__debug__" : Str)) = false := by decide) (he : starEach (a :: es) X.env = (false, eval a X.env) :: starEach es X.env := by rfl) (hpl : (backTo pos (starEach es X.env)).any (·.1) = false := by rfl) :
    WE T (.Call (.Name x p) (a :: es) [] pos) ρ C Q := PE.imp (pe_callTy (call_some T _) hg hm hv h hn hdb he hpl) (args_some (es := es) fun _ _ _ z => z)
end
end Tr

set_option maxHeartbeats 2000000
namespace Tr
open PySem L2 PySem.Spec PyProof.Rows
section
variable {X : Cx}
abbrev QS := Rho → Cells → Prop
/-- what is wanted behind a statement -/
structure TEnds where
  nx : QS
  rt : QE
  bk : QS := fun _ _ => False
  ct : QS := fun _ _ => False
abbrev ContS (X : Cx) (H0 : Hp) (C : Cells) (H : Hp) (Q : QS) (R : L2.St → Hp → Prop) : Prop :=
  ∀ (ρ' : Rho) (σ' : L2.St) C' H' H0', Stp H0 C H H0' C' H' → CellsR X.K H0' C' H' → SlotsR X.K H0' ρ' σ' → ρ'.length = σ'.length → Q ρ' C' → R σ' H'
structure Tail (X : Cx) (H0 : Hp) (C : Cells) (H : Hp) (N : TEnds) (Dn : Ends) : Prop where
  nx : ContS X H0 C H N.nx Dn.nx
  rt : Cont X H0 C H N.rt Dn.rt
  bk : ContS X H0 C H N.bk Dn.bk
  ct : ContS X H0 C H N.ct Dn.ct
theorem ContS.after {H0 H0' H H' : Hp} {C C' : Cells} {Q : QS} {R : L2.St → Hp → Prop} (k : ContS X H0 C H Q R) (p : Stp H0 C H H0' C' H') (c : CellsR X.K H0' C' H') : ContS X H0' C' H' Q R :=
  fun ρ σ C2 H2 H02 p2 c2 s l q => k ρ σ C2 H2 H02 (p.trans c p2) c2 s l q
theorem Tail.after {H0 H0' H H' : Hp} {C C' : Cells} {N : TEnds} {Dn : Ends} (k : Tail X H0 C H N Dn) (p : Stp H0 C H H0' C' H') (c : CellsR X.K H0' C' H') : Tail X H0' C' H' N Dn :=
  ⟨ContS.after k.nx p c, k.rt.after p c fun _ _ z => z, ContS.after k.bk p c, ContS.after k.ct p c⟩
def TSx (T : TX X) (ρ : Rho) (C : Cells) (N : TEnds) : TS := fun Dn σ H => ∃ H0, At T H0 ρ C σ H ∧ Tail X H0 C H N Dn
def WS (T : TX X) (st : Stmt) (ρ : Rho) (C : Cells) (N : TEnds) : Prop := PS X st (TSx T ρ C N)
def WSs (T : TX X) (st : List Stmt) (ρ : Rho) (C : Cells) (N : TEnds) : Prop := PSs X st (TSx T ρ C N)
def someS (T : TX X) (st : List Stmt) : TS := fun Dn σ H => ∃ ρ C N, WSs T st ρ C N ∧ TSx T ρ C N Dn σ H
theorem pss_some (T : TX X) (st : List Stmt) : PSs X st (someS T st) := ⟨fun pins s σ H D I ⟨ρ, C, N, h, t⟩ => h.run pins s σ H D I t⟩

variable {T : TX X} {ρ : Rho} {C : Cells} {N : TEnds} {e a b c : Expr} {pos : Pos} {es : List Expr} {st : Stmt} {rest body : List Stmt}
theorem ContS.here {H0 H : Hp} {Q : QS} {R : L2.St → Hp → Prop} {σ : L2.St} (k : ContS X H0 C H Q R) (at_ : At T H0 ρ C σ H) (q : Q ρ C) : R σ H := k ρ σ C H H0 (Stp.refl _ _ _) at_.c at_.s at_.l q

theorem wss_nil (h : N.nx ρ C) : WSs T [] ρ C N := PSs.imp pss_nil fun Dn σ H ⟨H0, at_, k⟩ => ContS.here k.nx at_ h
theorem wss_cons (h : WS T st ρ C { N with nx := fun ρ1 C1 => WSs T rest ρ1 C1 N }) : WSs T (st :: rest) ρ C N :=
  PSs.imp (pss_cons h (pss_some T rest)) fun Dn σ H ⟨H0, at_, k⟩ => ⟨H0, at_, ⟨fun ρ' σ' C' H' H0' p c s l q => ⟨ρ', C', N, q, H0', ⟨T.up at_.a at_.c p c, c, s, l⟩, k.after p c⟩, k.rt, k.bk, k.ct⟩⟩
theorem wss_one (h : WS T st ρ C N) : WSs T [st] ρ C N := pss_one h
theorem ws_pass (h : N.nx ρ C) : WS T (.Pass pos) ρ C N := PS.imp ps_pass fun Dn σ H ⟨H0, at_, k⟩ => ContS.here k.nx at_ h
theorem ws_break (h : N.bk ρ C) : WS T (.Break pos) ρ C N := PS.imp ps_break fun Dn σ H ⟨H0, at_, k⟩ => ContS.here k.bk at_ h
theorem ws_continue (h : N.ct ρ C) : WS T (.Continue pos) ρ C N := PS.imp ps_continue fun Dn σ H ⟨H0, at_, k⟩ => ContS.here k.ct at_ h
theorem ws_expr (h : WE T e ρ C fun _ C1 => N.nx ρ C1) (hs : swapsWith e none pos.line X.env = pure false := by rfl) : WS T (.Expr e pos) ρ C N :=
  PS.imp (ps_expr h hs) fun Dn σ H ⟨H0, at_, k⟩ => ⟨H0, at_, fun v d C1 H1 H01 p c r q => ContS.here (k.after p c).nx (at_.step p c) q⟩
theorem ws_ret (h : WE T e ρ C N.rt) : WS T (.Return (some e) pos) ρ C N := PS.imp (ps_ret h) fun Dn σ H ⟨H0, at_, k⟩ => ⟨H0, at_, k.rt⟩
theorem ws_retN (h : N.rt .non C) : WS T (.Return none pos) ρ C N := PS.imp ps_retN fun Dn σ H ⟨H0, at_, k⟩ => k.rt.here (d := .non) at_.c rfl h
theorem ws_if {tb fb : List Stmt} (h : WT T c ρ C fun k C1 => if k = true then WSs T tb ρ C1 N else WSs T fb ρ C1 N) : WS T (.If c tb fb pos) ρ C N :=
  PS.imp (ps_if h (pss_some T tb) (pss_some T fb)) fun Dn σ H ⟨H0, at_, k⟩ => ⟨H0, at_, fun b C1 H1 H01 p c q => by
    cases b with
    | true => exact ⟨ρ, C1, N, q, H01, at_.step p c, k.after p c⟩
    | false => exact ⟨ρ, C1, N, q, H01, at_.step p c, k.after p c⟩⟩

/-! ### targets -/
def TGx (T : TX X) (d : D) (ρ : Rho) (C : Cells) (Q : QS) : TG := fun v σ H R => ∃ H0, At T H0 ρ C σ H ∧ Rep X.K H0 d v ∧ ContS X H0 C H Q R
def TGsx (T : TX X) (ds : List D) (ρ : Rho) (C : Cells) (Q : QS) : TGs := fun vs σ H R => ∃ H0, At T H0 ρ C σ H ∧ Reps X.K H0 ds vs ∧ ContS X H0 C H Q R
def WG (T : TX X) (tg : Expr) (d : D) (ρ : Rho) (C : Cells) (Q : QS) : Prop := PG X tg (TGx T d ρ C Q)
def WGs (T : TX X) (tg : List Expr) (ds : List D) (ρ : Rho) (C : Cells) (Q : QS) : Prop := PGs X tg (TGsx T ds ρ C Q)
theorem PG.imp {e : Expr} {t t' : TG} (h : PG X e t) (i : ∀ v σ H R, t' v σ H R → t v σ H R) : PG X e t' := ⟨fun pins s σ H v u Q I r q => h.run pins s σ H v u Q I r (i v σ H Q q)⟩
theorem PGs.imp {e : List Expr} {t t' : TGs} (h : PGs X e t) (i : ∀ v σ H R, t' v σ H R → t v σ H R) : PGs X e t' := ⟨fun pins s σ H v u Q I r q => h.run pins s σ H v u Q I r (i v σ H Q q)⟩
def someG (T : TX X) (tg : Expr) : TG := fun v σ H R => ∃ d ρ C Q, WG T tg d ρ C Q ∧ TGx T d ρ C Q v σ H R
theorem pg_some (T : TX X) (tg : Expr) : PG X tg (someG T tg) := ⟨fun pins s σ H v u Q I r ⟨d, ρ, C, q, h, t⟩ => h.run pins s σ H v u Q I r t⟩
def someGs (T : TX X) (tg : List Expr) : TGs := fun v σ H R => ∃ d ρ C Q, WGs T tg d ρ C Q ∧ TGsx T d ρ C Q v σ H R
theorem pgs_some (T : TX X) (tg : List Expr) : PGs X tg (someGs T tg) := ⟨fun pins s σ H v u Q I r ⟨d, ρ, C, q, h, t⟩ => h.run pins s σ H v u Q I r t⟩
theorem wg_name {d : D} {Q : QS} (i : Nat) {x : Str} (q : Q (ρ.set i (some d)) C) (h : PG X (.Name x pos) (gName i)) : WG T (.Name x pos) d ρ C Q :=
  PG.imp h fun v σ H R ⟨H0, at_, r, k⟩ => k _ _ C H H0 (Stp.refl _ _ _) at_.c (SlotsR.set i at_.s r at_.l) (by rw [List.length_set, List.length_set]; exact at_.l) q
theorem wgs_nil {Q : QS} (q : Q ρ C) : WGs T [] [] ρ C Q := PGs.imp pgs_nil fun v σ H R ⟨H0, at_, r, k⟩ => ⟨r, ContS.here k at_ q⟩
theorem wgs_cons {tg : Expr} {tgs : List Expr} {d : D} {ds : List D} {Q : QS} (h : WG T tg d ρ C fun ρ1 C1 => WGs T tgs ds ρ1 C1 Q)
    (hs : (assignEach (tg :: tgs) X.env).map (·.2) = assign tg X.env :: (assignEach tgs X.env).map (·.2) := by rfl) : WGs T (tg :: tgs) (d :: ds) ρ C Q :=
  PGs.imp (pgs_cons h (pgs_some T tgs) hs) fun v σ H R ⟨H0, at_, ⟨v1, r, e1, r1, r2⟩, k⟩ => ⟨v1, r, e1, H0, at_, r1, fun ρ' σ' C' H' H0' p c s l q =>
    ⟨ds, ρ', C', Q, q, H0', ⟨T.up at_.a at_.c p c, c, s, l⟩, r2.mono p.base, ContS.after k p c⟩⟩
theorem wg_tup {tgs : List Expr} {k : Nat} {ds : List D} {Q : QS} {n : Nat} (hc : X.calm = true) (h : WGs T tgs ds ρ C Q) (hl : ds.length = n)
    (hn : (assignEach tgs X.env).length = n := by rfl) (hst : (assignEach tgs X.env).findIdx? (·.1) = none := by rfl) : WG T (.Tuple tgs k pos) (.tup ds) ρ C Q :=
  PG.imp (pg_tup hc h hn hst) fun v σ H R ⟨H0, at_, ⟨a, vs, e1, q1, r1⟩, k⟩ => ⟨a, vs, e1, Same.sqT at_.c.same q1, by rw [← r1.length]; exact hl, H0, at_, r1, k⟩
/-- target = value -/
theorem ws_asg {tg : Expr} (h : WE T e ρ C fun d C1 => WG T tg d ρ C1 N.nx) (hs : swapsWithSole [tg] e pos.line X.env = pure false := by rfl) (hw : swappedStores [tg] e X.env = pure none := by rfl)
    (h1 : (assignEach [tg] X.env).map (·.2) = [assign tg X.env] := by rfl) : WS T (.Assign [tg] e pos) ρ C N :=
  PS.imp (ps_asg h (pg_some T tg) hs hw h1) fun Dn σ H ⟨H0, at_, k⟩ => ⟨H0, at_, fun v d C1 H1 H01 p c r q => ⟨d, ρ, C1, N.nx, q, H01, at_.step p c, r, (k.after p c).nx⟩⟩
/-- name = value -/
theorem ws_set (i : Nat) {x : Str} {pos' : Pos} (hN : X.N.Nodup) (hi : X.N[i]? = some x) (hx : Loc X.env.scope x) (h : WE T e ρ C fun d C1 => N.nx (ρ.set i (some d)) C1) (hs : swapsWith e (some (.Name x pos')) pos.line X.env = pure false := by rfl)
    (hf : X.fn x = true ∨ X.env.scope.names.lookup x = some .local := by first | exact .inl rfl | exact .inr rfl | assumption) : WS T (.Assign [.Name x pos'] e pos) ρ C N :=
  PS.imp (ps_set hN hi hx h hs hf) fun Dn σ H ⟨H0, at_, k⟩ => ⟨H0, at_, fun v d C1 H1 H01 p c r q =>
    (k.after p c).nx _ _ C1 H1 H01 (Stp.refl _ _ _) c (SlotsR.set i (at_.step p c).s r at_.l) (by rw [List.length_set, List.length_set]; exact at_.l) q⟩

/-! ### what a loop walks -/
structure Yields (K : W.Frag) (J : It) (H0 : Hp) (P : Cells → Prop) (ds : List D) : Prop where
  go : ∀ (i : Nat) H0' C H, Same H0 H0' → CellsR K H0' C H → P C → i < ds.length → J.go i H
  stop : ∀ (i : Nat) H0' C H, Same H0 H0' → CellsR K H0' C H → P C → ds.length ≤ i → J.stop i H
  yld : ∀ (i : Nat) H0' C H x H' d, Same H0 H0' → CellsR K H0' C H → P C → ds[i]? = some d → J.yld i H x H' → ∃ H0'', Stp H0' C H H0'' C H' ∧ CellsR K H0'' C H' ∧ Rep K H0'' d x
abbrev QI := List D → (Cells → Prop) → Cells → Prop
def TIx (T : TX X) (ρ : Rho) (C : Cells) (Q : QI) : TI := fun σ H R => ∃ H0, At T H0 ρ C σ H ∧ ∀ J ds P C' H' H0', Stp H0 C H H0' C' H' → CellsR X.K H0' C' H' → Yields X.K J H0' P ds → Q ds P C' → R J H'
def WI (T : TX X) (tg iter : Expr) (ρ : Rho) (C : Cells) (Q : QI) : Prop := PI X tg iter (TIx T ρ C Q)
theorem PI.imp {tg e : Expr} {t t' : TI} (h : PI X tg e t) (i : ∀ σ H R, t' σ H R → t σ H R) : PI X tg e t' := ⟨fun pins s σ H R I q => h.run pins s σ H R I (i σ H R q)⟩
theorem yields_list {K : W.Frag} {H0 : Hp} {a : Addr} {vs : List V} {ds : List D} (hs : SqL K H0 a vs) (r : Reps K H0 ds vs) : Yields K (Itl K a) H0 (fun _ => True) ds where
  go := fun i H0' C H e c _ hi => ⟨vs, vs[i]'(by rw [← r.length]; exact hi), Same.sqL (e.trans c.same) hs, by simp⟩
  stop := fun i H0' C H e c _ hi => ⟨vs, Same.sqL (e.trans c.same) hs, by rw [← r.length]; exact hi⟩
  yld := fun i H0' C H x H' d e c _ hd ⟨e1, y⟩ => by
    subst e1
    refine ⟨H0', Stp.refl _ _ _, c, ?_⟩
    have := y vs (Same.sqL (e.trans c.same) hs)
    obtain ⟨v, h1, h2⟩ := r.get hd
    rw [this] at h1; cases h1
    exact h2.mono e
/-- the loop over what is to come -/
def ForW (T : TX X) (tg : Expr) (body : List Stmt) (P : Cells → Prop) (N : TEnds) : List D → Rho → Cells → Prop
  | [], ρ, C => P C ∧ N.nx ρ C
  | d :: r, ρ, C => P C ∧ WG T tg d ρ C fun ρ1 C1 => WSs T body ρ1 C1 { nx := ForW T tg body P N r, ct := ForW T tg body P N r, bk := N.nx, rt := N.rt }
theorem ForW.p {tg : Expr} {P : Cells → Prop} {ds : List D} (h : ForW T tg body P N ds ρ C) : P C := by
  cases ds with
  | nil => exact h.1
  | cons d r => exact h.1
theorem ws_for {tg iter : Expr} (hc : X.calm = true) (h : WI T tg iter ρ C fun ds P C1 => ForW T tg body P N ds ρ C1) (hs : ∀ x, foldedSetIterable iter X.env x = pure x := by intro _; rfl) : WS T (.For tg iter body [] pos) ρ C N := by
  refine PS.imp (ps_for T.pass hc h (pg_some T tg) (pss_some T body) hs) fun Dn σ H ⟨H0, at_, k⟩ => ⟨H0, at_, fun J ds P C1 H1 H01 p1 c1 y1 q1 => ?_⟩
  refine ⟨fun i m σ2 H2 => m = ds.length - i ∧ i ≤ ds.length ∧ ∃ ρ2 C2 H02, At T H02 ρ2 C2 σ2 H2 ∧ Stp H01 C1 H1 H02 C2 H2 ∧ ForW T tg body P N (ds.drop i) ρ2 C2, ⟨_, rfl, Nat.zero_le _, ρ, C1, H01, at_.step p1 c1, Stp.refl _ _ _, q1⟩, ?_⟩
  rintro i m σ2 H2 ⟨rfl, hi, ρ2, C2, H02, at2, p2, q2⟩
  have hP : P C2 := ForW.p q2
  by_cases hlt : i < ds.length
  · refine .inr ⟨y1.go i _ _ _ p2.base at2.c hP hlt, fun σ3 H3 => ∃ ρ3 C3 H03, At T H03 ρ3 C3 σ3 H3 ∧ Stp H01 C1 H1 H03 C3 H3 ∧ ForW T tg body P N (ds.drop (i + 1)) ρ3 C3, fun σ3 H3 ⟨ρ3, C3, H03, at3, p3, q3⟩ => ⟨_, by omega, rfl, hlt, ρ3, C3, H03, at3, p3, q3⟩, fun x H3 hy => ?_⟩
    obtain ⟨H03, p3, c3, r3⟩ := y1.yld i _ _ _ x H3 ds[i] p2.base at2.c hP (by simp [hlt]) hy
    rw [List.drop_eq_getElem_cons hlt] at q2
    have at3 := at2.step p3 c3
    refine ⟨ds[i], ρ2, C2, _, q2.2, H03, at3, r3, fun ρ4 σ4 C4 H4 H04 p4 c4 s4 l4 q4 => ⟨ρ4, C4, _, q4, H04, ⟨T.up at3.a at3.c p4 c4, c4, s4, l4⟩, ?_⟩⟩
    have at4 : At T H04 ρ4 C4 σ4 H4 := ⟨T.up at3.a at3.c p4 c4, c4, s4, l4⟩
    have p14 : Stp H01 C1 H1 H04 C4 H4 := (p2.trans at2.c p3).trans at3.c p4
    have again : ContS X H04 C4 H4 (ForW T tg body P N (ds.drop (i + 1))) fun σ3 H3 => ∃ ρ3 C3 H03, At T H03 ρ3 C3 σ3 H3 ∧ Stp H01 C1 H1 H03 C3 H3 ∧ ForW T tg body P N (ds.drop (i + 1)) ρ3 C3 :=
      fun ρ5 σ5 C5 H5 H05 p5 c5 s5 l5 q5 => ⟨ρ5, C5, H05, ⟨T.up at4.a at4.c p5 c5, c5, s5, l5⟩, p14.trans c4 p5, q5⟩
    have tail := (k.after p1 c1).after p14 c4
    exact ⟨again, tail.rt, tail.nx, again⟩
  · have e : i = ds.length := by omega
    subst e
    rw [List.drop_length] at q2
    exact .inl ⟨y1.stop _ _ _ _ p2.base at2.c hP (Nat.le_refl _), ContS.here ((k.after p1 c1).after p2 at2.c).nx at2 q2.2⟩

/-! ### while: by a word and a measure -/
theorem ws_while {cond : Expr} (W : Nat → Rho → Cells → Prop) (m0 : Nat) (h0 : W m0 ρ C)
    (turn : ∀ m ρ C, W m ρ C → WT T cond ρ C fun k C1 => if k = true then WSs T body ρ C1 { nx := fun ρ' C' => ∃ m', m' < m ∧ W m' ρ' C', ct := fun ρ' C' => ∃ m', m' < m ∧ W m' ρ' C', bk := N.nx, rt := N.rt } else N.nx ρ C1) :
    WS T (.While cond body [] pos) ρ C N := by
  have hcond : PT X cond (fun σ H R => ∃ ρ C Q, WT T cond ρ C Q ∧ TTx T ρ C Q σ H R) := ⟨fun pins s σ H Q I ⟨ρ, C, q, h, t⟩ => h.run pins s σ H Q I t⟩
  refine PS.imp (ps_while T.pass hcond (pss_some T body)) fun Dn σ H ⟨H0, at_, k⟩ => ?_
  refine ⟨fun m σ2 H2 => ∃ ρ2 C2 H02, At T H02 ρ2 C2 σ2 H2 ∧ Stp H0 C H H02 C2 H2 ∧ W m ρ2 C2, ⟨m0, ρ, C, H0, at_, Stp.refl _ _ _, h0⟩, ?_⟩
  rintro m σ2 H2 ⟨ρ2, C2, H02, at2, p2, w2⟩
  refine ⟨ρ2, C2, _, turn m ρ2 C2 w2, H02, at2, fun b C3 H3 H03 p3 c3 q3 => ?_⟩
  have at3 := at2.step p3 c3
  have tail := (k.after p2 at2.c).after p3 c3
  cases b with
  | false => exact ContS.here tail.nx at3 q3
  | true =>
    refine ⟨fun σ4 H4 => ∃ m', m' < m ∧ ∃ ρ4 C4 H04, At T H04 ρ4 C4 σ4 H4 ∧ Stp H0 C H H04 C4 H4 ∧ W m' ρ4 C4, fun σ4 H4 ⟨m', hm, z⟩ => ⟨m', hm, z⟩, ρ2, C3, _, q3, H03, at3, ?_⟩
    have again : ContS X H03 C3 H3 (fun ρ' C' => ∃ m', m' < m ∧ W m' ρ' C') fun σ4 H4 => ∃ m', m' < m ∧ ∃ ρ4 C4 H04, At T H04 ρ4 C4 σ4 H4 ∧ Stp H0 C H H04 C4 H4 ∧ W m' ρ4 C4 :=
      fun ρ5 σ5 C5 H5 H05 p5 c5 s5 l5 ⟨m', hm, w5⟩ => ⟨m', hm, ρ5, C5, H05, ⟨T.up at3.a at3.c p5 c5, c5, s5, l5⟩, (p2.trans at2.c p3).trans at3.c p5, w5⟩
    exact ⟨again, tail.rt, tail.nx, again⟩
end
end Tr

set_option maxHeartbeats 2000000
namespace Tr
open PySem L2 PySem.Spec PyProof.Rows

/-! ### what a def promises, over trees -/
abbrev QX := Value → XF → Cells → Prop
abbrev FS := List D → Cells → QE → QX → Prop
abbrev ContX (K : W.Frag) (H0 : Hp) (C : Cells) (H : Hp) (Qx : QX) (E : XK) : Prop := ∀ cls dd fs C' H' H0', Stp H0 C H H0' C' H' → CellsR K H0' C' H' → ExcR K H0' H' dd fs → Qx cls fs C' → E cls dd H'
abbrev ContK (K : W.Frag) (H0 : Hp) (C : Cells) (H : Hp) (Q : QE) (R : VK) : Prop := ∀ v d C' H' H0', Stp H0 C H H0' C' H' → CellsR K H0' C' H' → Rep K H0' d v → Q d C' → R v H'
def spT (K : W.Frag) (F : FS) : Sp := fun vs H R E => ∃ H0 ds C Q Qx, CellsR K H0 C H ∧ Reps K H0 ds vs ∧ F ds C Q Qx ∧ ContK K H0 C H Q R ∧ ContX K H0 C H Qx E
/-- the trees at a body's entry -/
def rho0 (N : List Str) (ds : List D) : Rho := ds.map some ++ List.replicate (N.length - ds.length) none
theorem slots_start {K : W.Frag} {H0 : Hp} {N : List Str} {ds : List D} {vs : List V} (r : Reps K H0 ds vs) : SlotsR K H0 (rho0 N ds) (L2.start N vs) ∧ (rho0 N ds).length = (L2.start N vs).length := by
  have hl := r.length
  refine ⟨fun i d h => ?_, by simp [rho0, L2.start, hl]⟩
  unfold rho0 at h
  by_cases hi : i < ds.length
  · rw [List.getElem?_append_left (by simpa using hi), List.getElem?_map] at h
    cases e : ds[i]? with
    | none => rw [e] at h; cases h
    | some d' =>
      rw [e] at h; cases h
      obtain ⟨v, h1, h2⟩ := r.get e
      refine ⟨v, ?_, h2⟩
      unfold L2.start
      rw [List.getElem?_append_left (by simp [← hl, hi]), List.getElem?_map, h1]; rfl
  · rw [List.getElem?_append_right (by simpa using hi), List.getElem?_replicate] at h
    split at h <;> cases h

section
variable {P : Program} {w : World} {K : W.Frag} {mg : Str → Option Value} {base : Heap}
/-- the context of a body over trees -/
def bodyT {N : List Str} {qual : Str} {scope : Scope} {f : Addr} {cdv : Value} {A : Around} {outer : List Env} {s : Shared} {H : Hp} {E : XK} {H0 : Hp} {C : Cells} {Qx : QX} (hE : ContX K H0 C H Qx E) :
    TX (cxOf (L2.CX P w) P w K mg base N qual scope f cdv A outer s H E) where
  A := fun H0' C' H' => Stp H0 C H H0' C' H'
  up := fun a c p c' => a.trans c p
  XQ := fun cls fs _ C' => Qx cls fs C'
  tk := (takes_of (X := cxOf (L2.CX P w) P w K mg base N qual scope f cdv A outer s H E) rfl rfl rfl rfl).imp fun cls d σ H' ⟨fs, ρ, C', H0', a, c, _, _, x, q⟩ => hE cls d fs C' H' H0' a c x q
  pass := passes_of rfl
/-- room for k calls, and no repr is under way -/
structure RoomG (k : Nat) (A : Around) : Prop where
  rm : Room k A
  gd : A.guards = some []
theorem RoomG.mono {j k : Nat} {A : Around} (r : RoomG k A) (h : j ≤ k) : RoomG j A := ⟨r.rm.mono h, r.gd⟩
theorem RoomG.deeper {k : Nat} {A : Around} (r : RoomG (k + 1) A) (env : Env) : RoomG k (A.deeper env) := ⟨r.rm.deeper env, r.gd⟩
theorem RoomG.make {k : Nat} {A : Around} (r : RoomG (k + 1) A) (C : Addr) (us : List Value) (kw : List (Str × Value)) : RoomG k (A.under (.builtin "type.__call__" ⟨.ref C :: us, kw⟩)) := by
  refine ⟨r.rm.make C us kw, ?_⟩
  show pushGuards (Code.guards (.builtin "type.__call__" ⟨.ref C :: us, kw⟩)) A.guards = some []
  have e : Code.guards (.builtin "type.__call__" ⟨.ref C :: us, kw⟩) = [] := by
    have n : guardIds.contains "type.__call__" = false := by decide
    unfold Code.guards Code.isGuard
    simp only [n, Bool.false_eq_true, if_false]
  rw [e]; exact r.gd
/-- the def at f keeps the promise F, wherever there is room for it -/
structure FnG (P : Program) (w : World) (K : W.Frag) (mg : Str → Option Value) (base : Heap) (k : Nat) (f : Addr) (fd : FuncData) (ps : List Str) (F : FS) : Prop where
  len : ∀ ds C Q Qx, F ds C Q Qx → ds.length = ps.length
  run : ∀ (A : Around) (outer : List Env) (s : Shared) (H : Hp) (args : Args) (us : List Value) (vs : List V) (R : VK) (E : XK), RoomG k A → Env0 P w K mg base A outer s H → BindsTo s fd args (ps.zip us) → Vals vs us → spT K F vs H R E →
    codeAny (model P w) A (.call (.ref f) args) (CR (L2.CX P w) outer P w H s R E) s
theorem FnG.mono {P : Program} {w : World} {K : W.Frag} {mg : Str → Option Value} {base : Heap} {j k : Nat} {f : Addr} {fd : FuncData} {ps : List Str} {F : FS} (h : FnG P w K mg base j f fd ps F) (e : j ≤ k) : FnG P w K mg base k f fd ps F :=
  ⟨h.len, fun A outer s H args us vs R E hr => h.run A outer s H args us vs R E (hr.mono e)⟩
theorem FnG.imp {P : Program} {w : World} {K : W.Frag} {mg : Str → Option Value} {base : Heap} {k : Nat} {f : Addr} {fd : FuncData} {ps : List Str} {F F' : FS} (h : FnG P w K mg base k f fd ps F) (i : ∀ ds C Q Qx, F' ds C Q Qx → F ds C Q Qx) : FnG P w K mg base k f fd ps F' :=
  ⟨fun ds C Q Qx z => h.len _ _ _ _ (i _ _ _ _ z), fun A outer s H args us vs R E hr e0 hb rv ⟨H0, ds, C, Q, Qx, c, r, z, k1, k2⟩ => h.run A outer s H args us vs R E hr e0 hb rv ⟨H0, ds, C, Q, Qx, c, r, i _ _ _ _ z, k1, k2⟩⟩
/-- THE RULE for a def: its body over trees -/
theorem fnT {x qual : Str} {params : Arguments} {body : List Stmt} {scope : Scope} {dvs : List V} {kws : List (Str × V)} {f : Addr} {fd : FuncData} {N ps : List Str} {k : Nat} {F : FS}
    (Fd : FunD K x qual params body scope dvs kws f fd) (S : FnScope N ps scope) (len : ∀ ds C Q Qx, F ds C Q Qx → ds.length = ps.length)
    (hbody : ∀ (cdv : Value) (A : Around) (outer : List Env) (s : Shared) (H : Hp) (E : XK) (T : TX (cxOf (L2.CX P w) P w K mg base N qual scope f cdv A outer s H E)) (ds : List D) (C : Cells) (Q : QE),
      RoomG k (cxOf (L2.CX P w) P w K mg base N qual scope f cdv A outer s H E).A → F ds C Q (fun cls fs C' => ∀ ρ, T.XQ cls fs ρ C') → WSs T body (rho0 N ds) C { nx := fun _ C' => Q .non C', rt := Q }) :
    FnG P w K mg base (k + 1) f fd ps F := by
  obtain ⟨oc, od, dV, kV, doc, pm, an, cdv, ct, osl, efd, lk, hcd, _, _⟩ := Fd.ex
  subst efd
  refine ⟨len, fun A outer s H args us vs R E hr e0 hb rv ⟨H0, ds, C, Q, Qx, c, r, h, kR, kE⟩ => ?_⟩
  have nvs : vs.length = ps.length := r.length.symm.trans (len _ _ _ _ h)
  have keepB := fun (b : Addr) (o : Obj) (e : base.get? b = some o) => (e0.bs b o e).1
  have inHeap := e0.mod.kin.keeps keepB
  have quiet := e0.mod.nolimit.keeps keepB
  have cellsOk : ∀ y ∈ ps.zip us, scope.names.lookup y.1 = some .local ∨ (scope.names.lookup y.1 = some .cell ∧ ((cellsFrom (s.heap.objs.size + 1) scope.names []).lookup y.1).isSome = true) := by
    rintro ⟨n, v⟩ hy
    exact (S.par n (List.of_mem_zip hy).1).imp id fun q => ⟨q, W.cellsFrom_some _ _ _ (.inl q)⟩
  refine codeAny_call_function hr.rm.depth (inHeap _ _ lk) rfl S.co S.gen rfl (W.codeRec_of inHeap hcd) (hb _ _ _ _ (wpAny_newFunctionEnv_cells S.kind cellsOk ?_))
  intro env he s1 entered
  subst he
  refine ⟨quiet.keeps entered.toInCall.keep, codeAny_func ?_⟩
  have I := inv_start (CX := L2.CX P w) (N := N) (E := E) (H := H) S hr.rm.hd e0 nvs rv entered
  obtain ⟨sl, ln⟩ := slots_start (N := N) r
  have hb2 := hbody cdv A outer s H E (bodyT kE) ds C Q (hr.deeper _) (by
    have same : (fun cls fs C' => ∀ ρ : Rho, (bodyT (P := P) (w := w) (K := K) (mg := mg) (base := base) (N := N) (qual := qual) (scope := scope) (f := f) (cdv := cdv) (A := A) (outer := outer) (s := s) kE).XQ cls fs ρ C') = Qx := by
      funext cls fs C'
      exact propext ⟨fun z => z [], fun z _ => z⟩
    rw [same]; exact h)
  have went := hb2.run [] s1 _ H { nx := fun _ H' => R .non H', rt := R } I ⟨H0, ⟨Stp.refl _ _ _, c, sl, ln⟩, ⟨fun _ _ C' H' H0' p c' _ _ q => kR .non .non C' H' H0' p c' rfl q, kR, fun _ _ _ _ _ _ _ _ _ q => False.elim q, fun _ _ _ _ _ _ _ _ _ q => False.elim q⟩⟩
  refine wpAny_mono went ?_ fun _ _ z => z
  rintro (_ | _ | _ | u) s' hs
  · obtain ⟨_, H', J, q⟩ := hs
    exact ⟨.non, H', J.os, J.bare, J.base, J.hok, rfl, q⟩
  · exact False.elim (let ⟨_, _, _, q⟩ := hs; q)
  · exact False.elim (let ⟨_, _, _, q⟩ := hs; q)
  · obtain ⟨v, _, H', J, rv', q⟩ := hs
    exact ⟨v, H', J.os, J.bare, J.base, J.hok, rv', q⟩
end

/-! ### a callee sees a part of the cells -/
theorem CellsR.part {K : W.Frag} {H0 H : Hp} {C μ r : Cells} (c : CellsR K H0 C H) (p : C.Perm (μ ++ r)) : CellsR K H0 μ H :=
  ⟨c.same, fun a ⟨x, hx⟩ => c.free a ⟨x, p.mem_iff.mpr (List.mem_append_left _ hx)⟩, fun a x hx => c.ok a x (p.mem_iff.mpr (List.mem_append_left _ hx)),
    (List.nodup_append.mp (by have := (p.map (·.1)).nodup_iff.mp c.nd; rwa [List.map_append] at this)).1⟩
theorem CellsR.back {K : W.Frag} {H0 H H0' H' : Hp} {C μ r μ' : Cells} (c : CellsR K H0 C H) (p : C.Perm (μ ++ r)) (st : Stp H0 μ H H0' μ' H') (c' : CellsR K H0' μ' H') :
    Stp H0 C H H0' (μ' ++ r) H' ∧ CellsR K H0' (μ' ++ r) H' := by
  have nd := (p.map (·.1)).nodup_iff.mp c.nd
  rw [List.map_append, List.nodup_append] at nd
  have off : ∀ a, Dom r a → ¬ Dom μ a := fun a ⟨x, hx⟩ ⟨y, hy⟩ => nd.2.2 a (List.mem_map.mpr ⟨_, hy, rfl⟩) a (List.mem_map.mpr ⟨_, hx, rfl⟩) rfl
  have inC : ∀ a, Dom r a → Dom C a := fun a ⟨x, hx⟩ => ⟨x, p.mem_iff.mpr (List.mem_append_right _ hx)⟩
  have rest : ∀ a, Dom r a → H0' a = none ∧ ¬ Dom μ' a ∧ H' a = H a := fun a d => by
    obtain ⟨x, hx⟩ := id d
    have ne := (c.ok a x (p.mem_iff.mpr (List.mem_append_right _ hx))).some
    obtain ⟨q1, q2⟩ := st.own a ne (c.free a (inC a d)) (off a d)
    obtain ⟨o, ho⟩ := Option.ne_none_iff_exists'.mp ne
    exact ⟨q1, q2, by rw [ho]; exact st.fr a o ho (off a d)⟩
  have domC : ∀ a, Dom C a ↔ Dom μ a ∨ Dom r a := fun a => by
    constructor
    · rintro ⟨x, hx⟩
      rcases List.mem_append.mp (p.mem_iff.mp hx) with h | h
      · exact .inl ⟨x, h⟩
      · exact .inr ⟨x, h⟩
    · rintro (⟨x, hx⟩ | h)
      · exact ⟨x, p.mem_iff.mpr (List.mem_append_left _ hx)⟩
      · exact inC a h
  refine ⟨⟨st.base, fun a o h n => st.fr a o h fun d => n ((domC a).mpr (.inl d)), fun a h e n => ?_⟩, ⟨c'.same, fun a d => ?_, fun a x hx => ?_, ?_⟩⟩
  · obtain ⟨q1, q2⟩ := st.own a h e fun d => n ((domC a).mpr (.inl d))
    refine ⟨q1, fun ⟨x, hx⟩ => ?_⟩
    rcases List.mem_append.mp hx with hx | hx
    · exact q2 ⟨x, hx⟩
    · exact n ((domC a).mpr (.inr ⟨x, hx⟩))
  · obtain ⟨x, hx⟩ := d
    rcases List.mem_append.mp hx with hx | hx
    · exact c'.free a ⟨x, hx⟩
    · exact (rest a ⟨x, hx⟩).1
  · rcases List.mem_append.mp hx with hx | hx
    · exact c'.ok a x hx
    · exact (c.ok a x (p.mem_iff.mpr (List.mem_append_right _ hx))).mono st.base (rest a ⟨x, hx⟩).2.2
  · rw [List.map_append, List.nodup_append]
    refine ⟨c'.nd, nd.2.1, fun a ha b hb e => ?_⟩
    subst e
    obtain ⟨⟨a1, x⟩, h1, h2⟩ := List.mem_map.mp ha
    obtain ⟨⟨a2, y⟩, h3, h4⟩ := List.mem_map.mp hb
    simp only at h2 h4
    subst h2; subst h4
    exact (rest _ ⟨y, h3⟩).2.1 ⟨x, h1⟩

section
variable {X : Cx} {T : TX X} {ρ : Rho} {C : Cells} {Q : QE} {e a b o : Expr} {pos p apos : Pos} {es : List Expr} {k : Nat} {f Cl : Addr} {fd : FuncData} {ps : List Str} {F : FS} {dvs : List V} {dds : List D} {dus : List Value} {x m : Str}
/-- what a call asks: its part of the cells, the def's promise there -/
def Asks (T : TX X) (F : FS) (ρ : Rho) (ds : List D) (C : Cells) (Q : QE) : Prop :=
  ∃ μ r, C.Perm (μ ++ r) ∧ F ds μ (fun d μ' => Q d (μ' ++ r)) fun cls fs μ' => T.XQ cls fs ρ (μ' ++ r)
theorem asks_sp {H0 H : Hp} {ds : List D} {vs : List V} {R : VK} {σ : L2.St} (h : Asks T F ρ ds C Q) (at_ : At T H0 ρ C σ H) (r : Reps X.K H0 ds vs) (k : Cont X H0 C H Q R) :
    spT X.K F vs H R (L2.WE (fun cls d σ H => ∃ fs ρ C H0, T.A H0 C H ∧ CellsR X.K H0 C H ∧ SlotsR X.K H0 ρ σ ∧ ρ.length = σ.length ∧ ExcR X.K H0 H d fs ∧ T.XQ cls fs ρ C) σ) := by
  obtain ⟨μ, rr, pm, h⟩ := h
  refine ⟨H0, ds, μ, _, _, at_.c.part pm, r, h, fun v d C' H' H0' p c r' q => ?_, fun cls dd fs C' H' H0' p c x q => ?_⟩
  · obtain ⟨p2, c2⟩ := at_.c.back pm p c
    exact k v d _ H' H0' p2 c2 r' q
  · obtain ⟨p2, c2⟩ := at_.c.back pm p c
    have a2 := at_.step p2 c2
    exact ⟨fs, ρ, _, H0', a2.a, a2.c, a2.s, a2.l, x, q⟩
/-- the callee runs -/
theorem run_T {pins : List (Addr × Obj)} {σ : L2.St} {H H0 : Hp} {s : Shared} {R : VK} {us : List Value} {vs : List V} {ds : List D} (Fk : FnG X.prog X.w X.K X.mg X.base k f fd ps F) (hr : RoomG k X.A) (hb : Binds X.K fd ps dus) (hd : Vals dvs dus) (hdd : ∀ H, Reps X.K H dds dvs)
    (I : Inv X pins σ H s) (rv : Vals vs us) (at_ : At T H0 ρ C σ H) (r : Reps X.K H0 ds vs) (h : Asks T F ρ (ds ++ dds) C Q) (k : Cont X H0 C H Q R) : wpAny (model X.prog X.w) X.A (call (.ref f) us) (EP X pins σ R) X.xe s := by
  have all := asks_sp h at_ (r.append (hdd H0)) k
  have nlen : (us ++ dus).length = ps.length := by
    obtain ⟨_, ds', _, _, _, _, r', h', _⟩ := id all
    rw [← (rv.append hd).length, ← r'.length]
    exact Fk.len _ _ _ _ h'
  have went := Fk.run X.A X.stack s H ⟨us, []⟩ (us ++ dus) (vs ++ dvs) R _ hr I.env0 (hb s us I.kIn nlen) (rv.append hd) all
  refine wpAny_call (codeAny_mono went ?_)
  rintro (e | (_ | _ | _ | u)) s' hq
  · exact passAt T.tk σ pins H s e s' I hq
  · exact False.elim hq
  · exact False.elim hq
  · exact False.elim hq
  · exact I.after hq
/-- f(a, ..) -/
theorem we_call (Fk : FnG X.prog X.w X.K X.mg X.base k f fd ps F) (hr : RoomG k X.A) (hg : Gl X x) (hm : X.mg x = some (.ref f)) (hk : W.keepIn X.K (.ref f) = true) (hb : Binds X.K fd ps dus) (hd : Vals dvs dus) (hdd : ∀ H, Reps X.K H dds dvs)
    (h : WA T (a :: es) ρ C fun ds C1 => Asks T F ρ (ds ++ dds) C1 Q) (hdb : (x == ("__debug__" : Str)) = false := by decide) (he : starEach (a :: es) X.env = (false, eval a X.env) :: starEach es X.env := by rfl) (hpl : (backTo pos (starEach es X.env)).any (·.1) = false := by rfl) :
    WE T (.Call (.Name x p) (a :: es) [] pos) ρ C Q := by
  refine ⟨fun pins s σ H R I ⟨H0, at_, k⟩ => wpAny_Call_Name_kw (ld_glob I hg hm (W.callWith_K (h₀ := X.base) I.ok.mod.kin hk ?_ he hpl) hdb)⟩
  refine thn (h.run pos pins s σ H (fun vs H1 => ∃ ds C1 H01, At T H01 ρ C1 σ H1 ∧ Cont X H01 C1 H1 Q R ∧ Reps X.K H01 ds vs ∧ Asks T F ρ (ds ++ dds) C1 Q) I ⟨H0, at_, fun vs ds C1 H1 H01 p1 c1 r1 q1 => ⟨ds, C1, H01, at_.step p1 c1, k.after p1 c1 fun _ _ z => z, r1, q1⟩⟩) ?_
  exact fun us s1 ⟨vs, H1, I1, rv, ds, C1, H01, at1, k1, r1, q1⟩ => ⟨I1.kIn, run_T Fk hr hb hd hdd I1 rv at1 r1 q1 k1⟩
/-- f() -/
theorem we_call0 (Fk : FnG X.prog X.w X.K X.mg X.base k f fd ps F) (hr : RoomG k X.A) (hg : Gl X x) (hm : X.mg x = some (.ref f)) (hk : W.keepIn X.K (.ref f) = true) (hb : Binds X.K fd ps dus) (hd : Vals dvs dus) (hdd : ∀ H, Reps X.K H dds dvs)
    (h : Asks T F ρ dds C Q) (hdb : (x == ("__debug__" : Str)) = false := by decide) : WE T (.Call (.Name x p) [] [] pos) ρ C Q :=
  ⟨fun pins s σ H R I ⟨H0, at_, k⟩ => wpAny_Call_Name_kw (ld_glob I hg hm (W.callWith_K0 I.kIn hk (run_T (us := []) (vs := []) (ds := []) Fk hr hb hd hdd I .nil at_ Reps.nil h k)) hdb)⟩

/-! ### instances -/
/-- d is an instance: one that stands still, or a cell -/
def InsD (C : Cells) (d : D) (Cl : Addr) (ns : List Str) (ds : List D) : Prop := d = .ins Cl ns ds ∨ ∃ a, d = .raw (.ref a) ∧ (a, Cell.ins Cl ns ds) ∈ C
theorem ins_at {H0 H : Hp} {d : D} {v : V} {ns : List Str} {ds : List D} (c : CellsR X.K H0 C H) (r : Rep X.K H0 d v) (h : InsD C d Cl ns ds) : ∃ a dx vs, v = .ref a ∧ H a = some (.ins Cl dx (ns.zip vs)) ∧ ns.length = vs.length ∧ Reps X.K H0 ds vs := by
  rcases h with rfl | ⟨a, rfl, hm⟩
  · obtain ⟨a, dx, vs, h1, h2, h3, h4⟩ := r
    exact ⟨a, dx, vs, h1, c.same _ _ h2, h3, h4⟩
  · obtain ⟨dx, vs, h2, h3, h4⟩ := c.ok a _ hm
    exact ⟨a, dx, vs, r, h2, h3, h4⟩
theorem lookup_zip {K : W.Frag} {H0 : Hp} {f : Str} {d : D} : ∀ {ns : List Str} {ds : List D} {vs : List V}, Reps K H0 ds vs → ns.length = vs.length → (ns.zip ds).lookup f = some d → ∃ v, (ns.zip vs).lookup f = some v ∧ Rep K H0 d v
  | [], _, _, _, _, h => by simp at h
  | n :: ns, [], _, _, _, h => by simp at h
  | n :: ns, d0 :: ds, vs, ⟨v, r, h1, h2, h3⟩, hl, h => by
    subst h1
    rw [List.zip_cons_cons, List.lookup_cons] at h ⊢
    cases e : f == n with
    | true => rw [e] at h; cases h; exact ⟨v, rfl, h2⟩
    | false => rw [e] at h; exact lookup_zip h3 (by simpa using hl) h
theorem lookup_zip_none {f : Str} : ∀ {ns : List Str} {vs : List V}, ns.contains f = false → (ns.zip vs).lookup f = none
  | [], _, _ => by simp
  | n :: ns, [], _ => by simp
  | n :: ns, v :: vs, h => by
    rw [List.contains_cons, Bool.or_eq_false_iff] at h
    rw [List.zip_cons_cons, List.lookup_cons, h.1]
    exact lookup_zip_none h.2
/-- e.f -/
theorem we_fld (hb : attributeBase e m X.env (eval e X.env) = eval e X.env) (h : WE T e ρ C fun d C1 => ∃ Cl ns ds d', InsD C1 d Cl ns ds ∧ Cls X.K Cl ∧ NoAttr X.K Cl m ∧ (ns.zip ds).lookup m = some d' ∧ Q d' C1) : WE T (.Attribute e m pos) ρ C Q :=
  PE.imp (pe_fld h hb) fun σ H R ⟨H0, at_, k⟩ => ⟨H0, at_, fun v d C1 H1 H01 p1 c1 r1 ⟨Cl, ns, ds, d', hi, hc, hn, hl, q⟩ => by
    obtain ⟨a, dx, vs, e1, e2, e3, e4⟩ := ins_at c1 r1 hi
    obtain ⟨v', g1, g2⟩ := lookup_zip e4 e3 hl
    exact ⟨a, Cl, dx, _, v', e1, e2, hc, hn, g1, k _ d' C1 H1 H01 p1 c1 g2 q⟩⟩
/-- where a method is found -/
theorem meth_T {pins : List (Addr × Obj)} {σ : L2.St} {H H0 : Hp} {s : Shared} {R : Value × List Value → Shared → Prop} {E : Value → Shared → Prop} {pl : Sem Bool} {g : Addr} {d : D} {v : V} {u : Value} {ns : List Str} {fds : List D} (c : Cls X.K Cl) (hm : Meth X.K Cl m g) (I : Inv X pins σ H s) (rv : RelV v u) (cr : CellsR X.K H0 C H) (r : Rep X.K H0 d v)
    (hi : InsD C d Cl ns fds) (hno : ns.contains m = false) (q : ∀ ad, u = .ref ad → v = .ref ad → R (.ref g, [.ref ad]) s) : wpAny (model X.prog X.w) X.A (getMethod u m pl) R E s := by
  obtain ⟨ad, dx, vs, e1, e2, e3, e4⟩ := ins_at cr r hi
  subst e1
  obtain rfl : u = Value.ref ad := rv
  exact getmeth_ok I e2 c hm (lookup_zip_none hno) (q ad rfl rfl)
/-- o.m(a, ..) -/
theorem we_meth {pl : Sem Bool} {g : Addr} (c : Cls X.K Cl) (hm : Meth X.K Cl m g) (Fk : FnG X.prog X.w X.K X.mg X.base k g fd ps F) (hr : RoomG k X.A) (hb : Binds X.K fd ps dus) (hd : Vals dvs dus) (hdd : ∀ H, Reps X.K H dds dvs)
    (h : WE T o ρ C fun d C1 => ∃ ns fds, InsD C1 d Cl ns fds ∧ ns.contains m = false ∧ WA T (a :: es) ρ C1 fun ds C2 => Asks T F ρ (d :: (ds ++ dds)) C2 Q)
    (hst : starEach (a :: es) X.env = (false, eval a X.env) :: starEach es X.env := by rfl) (hpl : (backTo pos (starEach es X.env)).any (·.1) = false := by rfl)
    (ht : eval (.Call (.Attribute o m apos) (a :: es) [] pos) X.env = (do
      let ov ← eval o X.env
      standAt apos.atName
      let (f, first) ← holding [ov] (getMethod ov m pl)
      callWith pos f first (backTo pos (starEach (a :: es) X.env)) (backToKw pos (keywordEach [] X.env))) := by rfl) :
    WE T (.Call (.Attribute o m apos) (a :: es) [] pos) ρ C Q := by
  refine ⟨fun pins s σ H R I ⟨H0, at_, k⟩ => W.methodCall_KW (pl := pl) ?_ ht⟩
  refine thn (h.run pins s σ H (fun v H1 => ∃ d C1 H01 ns fds, At T H01 ρ C1 σ H1 ∧ Cont X H01 C1 H1 Q R ∧ Rep X.K H01 d v ∧ InsD C1 d Cl ns fds ∧ ns.contains m = false ∧ WA T (a :: es) ρ C1 fun ds C2 => Asks T F ρ (d :: (ds ++ dds)) C2 Q) I
    ⟨H0, at_, fun v d C1 H1 H01 p1 c1 r1 ⟨ns, fds, hi, hno, q⟩ => ⟨d, C1, H01, ns, fds, at_.step p1 c1, k.after p1 c1 fun _ _ z => z, r1, hi, hno, q⟩⟩) ?_
  rintro u s1 ⟨v, H1, I1, rv, d, C1, H01, ns, fds, at1, k1, r1, hi, hno, hw⟩
  refine meth_T c hm I1 rv at1.c r1 hi hno fun ad eu ev => ?_
  subst ev
  refine W.callWith_K (first := [.ref ad]) (h₀ := X.base) I1.ok.mod.kin hm.kp (thn (hw.run pos pins s1 σ H1 (fun vs H2 => ∃ ds C2 H02, At T H02 ρ C2 σ H2 ∧ Cont X H02 C2 H2 Q R ∧ Rep X.K H02 d (.ref ad) ∧ Reps X.K H02 ds vs ∧ Asks T F ρ (d :: (ds ++ dds)) C2 Q) I1
    ⟨H01, at1, fun vs ds C2 H2 H02 p2 c2 r2 q2 => ⟨ds, C2, H02, at1.step p2 c2, k1.after p2 c2 fun _ _ z => z, r1.mono p2.base, r2, q2⟩⟩) ?_) hst hpl
  rintro us s2 ⟨vs, H2, I2, rvs, ds, C2, H02, at2, k2, rd, rds, q2⟩
  exact ⟨I2.kIn, run_T (us := .ref ad :: us) (vs := .ref ad :: vs) (ds := d :: ds) Fk hr hb hd hdd I2 (.cons rfl rvs) at2 (Reps.cons rd rds) q2 k2⟩
/-- o.m() -/
theorem we_meth0 {pl : Sem Bool} {g : Addr} (c : Cls X.K Cl) (hm : Meth X.K Cl m g) (Fk : FnG X.prog X.w X.K X.mg X.base k g fd ps F) (hr : RoomG k X.A) (hb : Binds X.K fd ps dus) (hd : Vals dvs dus) (hdd : ∀ H, Reps X.K H dds dvs)
    (h : WE T o ρ C fun d C1 => ∃ ns fds, InsD C1 d Cl ns fds ∧ ns.contains m = false ∧ Asks T F ρ (d :: dds) C1 Q)
    (ht : eval (.Call (.Attribute o m apos) [] [] pos) X.env = (do
      let ov ← eval o X.env
      standAt apos.atName
      let (f, first) ← holding [ov] (getMethod ov m pl)
      callWith pos f first (backTo pos (starEach [] X.env)) (backToKw pos (keywordEach [] X.env))) := by rfl) :
    WE T (.Call (.Attribute o m apos) [] [] pos) ρ C Q := by
  refine ⟨fun pins s σ H R I ⟨H0, at_, k⟩ => W.methodCall_KW (pl := pl) ?_ ht⟩
  refine thn (h.run pins s σ H (fun v H1 => ∃ d C1 H01 ns fds, At T H01 ρ C1 σ H1 ∧ Cont X H01 C1 H1 Q R ∧ Rep X.K H01 d v ∧ InsD C1 d Cl ns fds ∧ ns.contains m = false ∧ Asks T F ρ (d :: dds) C1 Q) I
    ⟨H0, at_, fun v d C1 H1 H01 p1 c1 r1 ⟨ns, fds, hi, hno, q⟩ => ⟨d, C1, H01, ns, fds, at_.step p1 c1, k.after p1 c1 fun _ _ z => z, r1, hi, hno, q⟩⟩) ?_
  rintro u s1 ⟨v, H1, I1, rv, d, C1, H01, ns, fds, at1, k1, r1, hi, hno, hw⟩
  refine meth_T c hm I1 rv at1.c r1 hi hno fun ad eu ev => ?_
  subst ev
  exact W.callWith_K0 (first := [.ref ad]) I1.kIn hm.kp (run_T (us := [.ref ad]) (vs := [.ref ad]) (ds := [d]) Fk hr hb hd hdd I1 (.cons rfl .nil) at1 (Reps.cons r1 Reps.nil) hw k1)
end
end Tr

set_option maxHeartbeats 2000000
namespace Tr
open PySem L2 PySem.Spec PyProof.Rows

/-! ### a new instance -/
section
variable {X : Cx} {T : TX X} {ρ : Rho} {C : Cells} {Q : QE} {e a b o : Expr} {pos p apos : Pos} {es : List Expr} {k : Nat} {f Cl : Addr} {fd : FuncData} {ps : List Str} {F : FS} {dvs : List V} {dds : List D} {dus : List Value} {x m : Str}
/-- what the making of an instance asks -/
def AsksM (T : TX X) (F : FS) (Cl : Addr) (ρ : Rho) (ds : List D) (C : Cells) (Q : QE) : Prop :=
  ∃ μ r, C.Perm (μ ++ r) ∧ ∀ z, F (.raw (.ref z) :: ds) ((z, .ins Cl [] []) :: μ) (fun d μ' => d = .non ∧ Q (.raw (.ref z)) (μ' ++ r)) fun cls fs μ' => T.XQ cls fs ρ (μ' ++ r)
theorem stp_made {K : W.Frag} {H0 H : Hp} {C : Cells} {z dz Cl : Addr} (c : CellsR K H0 C H) (hz : H z = none) (hdz : H dz = none) (ne : dz ≠ z) :
    Stp H0 C H (upd H0 dz (.own z)) ((z, .ins Cl [] []) :: C) (upd (upd H dz (.own z)) z (.ins Cl dz [])) ∧ CellsR K (upd H0 dz (.own z)) ((z, .ins Cl [] []) :: C) (upd (upd H dz (.own z)) z (.ins Cl dz [])) := by
  obtain ⟨p1, c1⟩ := stp_new (o := .own z) c hdz
  have hz1 : (upd H dz (.own z)) z = none := by rw [upd_ne (Ne.symm ne)]; exact hz
  obtain ⟨p2, c2⟩ := stp_cell (o := .ins Cl dz []) (c := .ins Cl [] []) c1 hz1 ⟨dz, [], by rw [upd_same]; rfl, rfl, Reps.nil⟩
  exact ⟨p1.trans c1 p2, c2⟩
theorem asksM_sp {H0 H : Hp} {ds : List D} {vs : List V} {R : VK} {σ : L2.St} (h : AsksM T F Cl ρ ds C Q) (at_ : At T H0 ρ C σ H) (r : Reps X.K H0 ds vs) (k : Cont X H0 C H Q R) {z dz : Addr} (hz : H z = none) (hdz : H dz = none) (ne : dz ≠ z) :
    spT X.K F (.ref z :: vs) (upd (upd H dz (.own z)) z (.ins Cl dz [])) (fun v H2 => v = .non ∧ R (.ref z) H2) (L2.WE (fun cls d σ H => ∃ fs ρ C H0, T.A H0 C H ∧ CellsR X.K H0 C H ∧ SlotsR X.K H0 ρ σ ∧ ρ.length = σ.length ∧ ExcR X.K H0 H d fs ∧ T.XQ cls fs ρ C) σ) := by
  obtain ⟨μ, rr, pm, h⟩ := h
  obtain ⟨p1, c1⟩ := stp_made (Cl := Cl) at_.c hz hdz ne
  have at1 := at_.step p1 c1
  have pm1 : ((z, Cell.ins Cl [] []) :: C).Perm (((z, Cell.ins Cl [] []) :: μ) ++ rr) := by rw [List.cons_append]; exact pm.cons _
  refine ⟨upd H0 dz (.own z), .raw (.ref z) :: ds, (z, .ins Cl [] []) :: μ, _, _, c1.part pm1, Reps.cons rfl (r.mono p1.base), h z, fun v d C' H' H0' p c r' ⟨q1, q2⟩ => ?_, fun cls dd fs C' H' H0' p c xr q => ?_⟩
  · subst q1
    obtain ⟨p2, c2⟩ := c1.back pm1 p c
    exact ⟨r', k (.ref z) (.raw (.ref z)) _ H' H0' (p1.trans c1 p2) c2 rfl q2⟩
  · obtain ⟨p2, c2⟩ := c1.back pm1 p c
    have a3 := at_.step (p1.trans c1 p2) c2
    exact ⟨fs, ρ, _, H0', a3.a, a3.c, a3.s, a3.l, xr, q⟩
/-- the making runs -/
theorem run_makeT {pins : List (Addr × Obj)} {σ : L2.St} {H H0 : Hp} {s : Shared} {R : VK} {us : List Value} {vs : List V} {ds : List D} (M : Mk X.K Cl f) (Fk : FnG X.prog X.w X.K X.mg X.base k f fd ps F) (hr : RoomG (k + 1) X.A) (hb : Binds X.K fd ps dus) (hd : Vals dvs dus) (hdd : ∀ H, Reps X.K H dds dvs)
    (I : Inv X pins σ H s) (rv : Vals vs us) (at_ : At T H0 ρ C σ H) (r : Reps X.K H0 ds vs) (h : AsksM T F Cl ρ (ds ++ dds) C Q) (k : Cont X H0 C H Q R) : wpAny (model X.prog X.w) X.A (call (.ref Cl) us) (EP X pins σ R) X.xe s := by
  have J := Inv.made (C := Cl) I
  have all := asksM_sp h at_ (r.append (hdd H0)) k (z := s.heap.objs.size + 1) (dz := s.heap.objs.size) (I.hok.fresh (Nat.le_succ _)) (I.hok.fresh (Nat.le_refl _)) (Nat.ne_of_lt (Nat.lt_succ_self _))
  have rall : Vals (V.ref (s.heap.objs.size + 1) :: (vs ++ dvs)) (Value.ref (s.heap.objs.size + 1) :: (us ++ dus)) := .cons rfl (rv.append hd)
  have nlen : ((Value.ref (s.heap.objs.size + 1) :: us) ++ dus).length = ps.length := by
    obtain ⟨_, ds', _, _, _, _, r', h', _⟩ := id all
    have e1 := Fk.len _ _ _ _ h'
    rw [r'.length, rall.length] at e1
    exact e1
  have went := Fk.run _ X.stack _ _ ⟨Value.ref (s.heap.objs.size + 1) :: us, []⟩ _ _ _ _ (hr.make Cl us []) (J.env0.make Cl us []) (hb _ (Value.ref (s.heap.objs.size + 1) :: us) J.kIn nlen) rall all
  refine wpAny_call (make_map (f := f) I.kIn M.makes M.init (beq_iff_eq.mp M.fn) (codeAny_mono went ?_))
  rintro (e | (_ | _ | _ | u)) s' hq
  · exact passAt T.tk σ pins _ _ e s' J hq
  · exact False.elim hq
  · exact False.elim hq
  · exact False.elim hq
  · obtain ⟨v, H', I', rv', ev, q⟩ := J.after hq
    subst ev
    exact ⟨rv', .ref (s.heap.objs.size + 1), H', I', rfl, q⟩
/-- C(a, ..) -/
theorem we_make (M : Mk X.K Cl f) (Fk : FnG X.prog X.w X.K X.mg X.base k f fd ps F) (hr : RoomG (k + 1) X.A) (hg : Gl X x) (hm : X.mg x = some (.ref Cl)) (hb : Binds X.K fd ps dus) (hd : Vals dvs dus) (hdd : ∀ H, Reps X.K H dds dvs)
    (h : WA T (a :: es) ρ C fun ds C1 => AsksM T F Cl ρ (ds ++ dds) C1 Q) (hdb : (x == ("__debug__" : Str)) = false := by decide) (he : starEach (a :: es) X.env = (false, eval a X.env) :: starEach es X.env := by rfl) (hpl : (backTo pos (starEach es X.env)).any (·.1) = false := by rfl) :
    WE T (.Call (.Name x p) (a :: es) [] pos) ρ C Q := by
  refine ⟨fun pins s σ H R I ⟨H0, at_, k⟩ => wpAny_Call_Name_kw (ld_glob I hg hm (W.callWith_K (h₀ := X.base) I.ok.mod.kin M.kp ?_ he hpl) hdb)⟩
  refine thn (h.run pos pins s σ H (fun vs H1 => ∃ ds C1 H01, At T H01 ρ C1 σ H1 ∧ Cont X H01 C1 H1 Q R ∧ Reps X.K H01 ds vs ∧ AsksM T F Cl ρ (ds ++ dds) C1 Q) I
    ⟨H0, at_, fun vs ds C1 H1 H01 p1 c1 r1 q1 => ⟨ds, C1, H01, at_.step p1 c1, k.after p1 c1 fun _ _ z => z, r1, q1⟩⟩) ?_
  exact fun us s1 ⟨vs, H1, I1, rv, ds, C1, H01, at1, k1, r1, q1⟩ => ⟨I1.kIn, run_makeT M Fk hr hb hd hdd I1 rv at1 r1 q1 k1⟩
theorem we_make0 (M : Mk X.K Cl f) (Fk : FnG X.prog X.w X.K X.mg X.base k f fd ps F) (hr : RoomG (k + 1) X.A) (hg : Gl X x) (hm : X.mg x = some (.ref Cl)) (hb : Binds X.K fd ps dus) (hd : Vals dvs dus) (hdd : ∀ H, Reps X.K H dds dvs)
    (h : AsksM T F Cl ρ dds C Q) (hdb : (x == ("__debug__" : Str)) = false := by decide) : WE T (.Call (.Name x p) [] [] pos) ρ C Q :=
  ⟨fun pins s σ H R I ⟨H0, at_, k⟩ => wpAny_Call_Name_kw (ld_glob I hg hm (W.callWith_K0 I.kIn M.kp (run_makeT (us := []) (vs := []) (ds := []) M Fk hr hb hd hdd I .nil at_ Reps.nil h k)) hdb)⟩

/-! ### cells that stand still from now on -/
def Cell.toD : Cell → D
  | .lst ds => .lst ds
  | .dK ks ds => .dic ks ds
  | .ins Cl ns ds => .ins Cl ns ds
theorem stp_freeze {K : W.Frag} {H0 H : Hp} {C : Cells} {i : Nat} {z : Addr} {c : Cell} (r : CellsR K H0 C H) (hi : C[i]? = some (z, c)) :
    ∃ o, H z = some o ∧ Stp H0 C H (upd H0 z o) (C.eraseIdx i) H ∧ CellsR K (upd H0 z o) (C.eraseIdx i) H ∧ Rep K (upd H0 z o) c.toD (.ref z) := by
  have hm : (z, c) ∈ C := List.mem_iff_getElem?.mpr ⟨i, hi⟩
  have ok := r.ok z c hm
  obtain ⟨o, ho⟩ := Option.ne_none_iff_exists'.mp ok.some
  have n0 := r.free z ⟨c, hm⟩
  have s0 : Same H0 (upd H0 z o) := fun a u h => by rw [upd_ne (ne_of_none h n0)]; exact h
  have er : ∀ a x, (a, x) ∈ C.eraseIdx i → (a, x) ∈ C ∧ a ≠ z := fun a x h => by
    have h' := List.mem_of_mem_eraseIdx h
    refine ⟨h', fun e => ?_⟩
    subst e
    obtain ⟨j, hj⟩ := List.mem_iff_getElem?.mp h
    rw [List.getElem?_eraseIdx] at hj
    have nd := r.nd
    have key : ∀ j', C[j']? = some (a, x) → j' = i := fun j' hj' => by
      have h1 : (C.map (·.1))[i]? = some a := by rw [List.getElem?_map, hi]; rfl
      have h2 : (C.map (·.1))[j']? = some a := by rw [List.getElem?_map, hj']; rfl
      obtain ⟨l1, e1⟩ := List.getElem?_eq_some_iff.mp h1
      obtain ⟨l2, e2⟩ := List.getElem?_eq_some_iff.mp h2
      exact ((List.getElem_inj nd).mp (e1.trans e2.symm)).symm
    split at hj
    · have := key _ hj; omega
    · have := key _ hj; omega
  refine ⟨o, ho, ⟨s0, fun a u h _ => h, fun a h e n => ⟨?_, fun ⟨x, hx⟩ => n ⟨x, (er a x hx).1⟩⟩⟩, ⟨fun a u h => ?_, fun a ⟨x, hx⟩ => ?_, fun a x hx => (r.ok a x (er a x hx).1).mono s0 rfl, ?_⟩, ?_⟩
  · rw [upd_ne (show a ≠ z from fun q => n ⟨c, by rw [q]; exact hm⟩)]; exact e
  · by_cases q : a = z
    · subst q; rw [upd_same] at h; cases h; exact ho
    · rw [upd_ne q] at h; exact r.same a u h
  · rw [upd_ne (er a x hx).2]; exact r.free a ⟨x, (er a x hx).1⟩
  · exact r.nd.sublist ((List.eraseIdx_sublist _ _).map _)
  · cases c with
    | lst ds =>
      obtain ⟨vs, q1, q2⟩ := ok
      rw [ho] at q1; cases q1
      exact ⟨z, vs, rfl, .inl (.inl upd_same), q2.mono s0⟩
    | dK ks ds =>
      obtain ⟨vs, q1, q3, q2⟩ := ok
      rw [ho] at q1; cases q1
      exact ⟨z, vs, rfl, .inl upd_same, q3, q2.mono s0⟩
    | ins Cl ns ds =>
      obtain ⟨dx, vs, q1, q3, q2⟩ := ok
      rw [ho] at q1; cases q1
      exact ⟨z, dx, vs, rfl, upd_same, q3, q2.mono s0⟩
/-- a result that is a cell, as a tree -/
theorem we_frz (h : WE T e ρ C fun d C1 => ∃ (i : Nat) (z : Addr) (c : Cell), d = .raw (.ref z) ∧ C1[i]? = some (z, c) ∧ Q c.toD (C1.eraseIdx i)) : WE T e ρ C Q :=
  PE.imp h fun σ H R ⟨H0, at_, k⟩ => ⟨H0, at_, fun v d C1 H1 H01 p1 c1 r1 ⟨i, z, c, e1, hi, q⟩ => by
    subst e1
    obtain rfl : v = .ref z := r1
    obtain ⟨o, ho, p2, c2, r2⟩ := stp_freeze c1 hi
    exact k _ _ _ H1 _ (p1.trans c1 p2) c2 r2 q⟩
/-- a slot that is a cell, as a tree -/
theorem wss_frz {N : TEnds} {st : List Stmt} (j i : Nat) {z : Addr} {c : Cell} (hj : ρ[j]? = some (some (.raw (.ref z)))) (hi : C[i]? = some (z, c)) (h : WSs T st (ρ.set j (some c.toD)) (C.eraseIdx i) N) : WSs T st ρ C N :=
  PSs.imp h fun Dn σ H ⟨H0, at_, k⟩ => by
    obtain ⟨o, ho, p2, c2, r2⟩ := stp_freeze at_.c hi
    have at2 := at_.step p2 c2
    obtain ⟨v, hv, rv⟩ := at_.s j _ hj
    obtain rfl : v = .ref z := rv
    refine ⟨_, ⟨at2.a, at2.c, fun i' d hd => ?_, by rw [List.length_set]; exact at2.l⟩, k.after p2 c2⟩
    rw [List.getElem?_set] at hd
    split at hd
    · rename_i e; subst e
      split at hd
      · cases hd; exact ⟨_, hv, r2⟩
      · cases hd
    · exact at2.s i' d hd


/-! ### a field is stored -/
def putN (f : Str) (d : D) : List Str → List D → List Str × List D
  | n :: ns, x :: ds => if n = f then (n :: ns, d :: ds) else (n :: (putN f d ns ds).1, x :: (putN f d ns ds).2)
  | _, _ => ([f], [d])
theorem reps_put {K : W.Frag} {H0 : Hp} {f : Str} {d : D} {v : V} (r : Rep K H0 d v) : ∀ {ns : List Str} {ds : List D} {vs : List V}, Reps K H0 ds vs → ns.length = vs.length →
    ∃ vs', putF f v (ns.zip vs) = (putN f d ns ds).1.zip vs' ∧ (putN f d ns ds).1.length = vs'.length ∧ Reps K H0 (putN f d ns ds).2 vs'
  | [], ds, vs, h, hl => by
    cases vs with
    | nil => cases ds with
      | nil => exact ⟨[v], rfl, rfl, Reps.cons r Reps.nil⟩
      | cons d0 ds => obtain ⟨_, _, q, _⟩ := h; cases q
    | cons v0 vs => cases hl
  | n :: ns, [], vs, h, hl => by cases h; cases hl
  | n :: ns, d0 :: ds, vs, ⟨v0, vr, h1, h2, h3⟩, hl => by
    subst h1
    rw [List.zip_cons_cons]
    unfold putN
    by_cases e : n = f
    · subst e
      rw [if_pos rfl]
      exact ⟨v :: vr, by unfold putF; rw [if_pos rfl]; rfl, by simpa using hl, Reps.cons r h3⟩
    · rw [if_neg e]
      obtain ⟨vs', q1, q2, q3⟩ := reps_put r h3 (by simpa using hl)
      exact ⟨v0 :: vs', by unfold putF; rw [if_neg e, q1]; rfl, by simp [q2], Reps.cons h2 q3⟩
theorem ws_fld {N : TEnds} {pos' : Pos} (i : Nat) (h : WE T e ρ C fun d C1 => WE T o ρ C1 fun od C2 => ∃ z Cl ns ds, od = .raw (.ref z) ∧ C2[i]? = some (z, .ins Cl ns ds) ∧ Cls X.K Cl ∧ NoAttr X.K Cl m ∧ ns.length < 1000 ∧
      N.nx ρ (C2.set i (z, .ins Cl (putN m d ns ds).1 (putN m d ns ds).2)))
    (hs : swapsWith e (some (.Attribute o m pos')) pos.line X.env = pure false := by rfl) : WS T (.Assign [.Attribute o m pos'] e pos) ρ C N :=
  PS.imp (ps_fld (pe_some T ρ o) h hs) fun Dn σ H ⟨H0, at_, k⟩ => ⟨H0, at_, fun v d C1 H1 H01 p1 c1 r1 q1 => ⟨C1, _, q1, H01, at_.step p1 c1, fun v2 od C2 H2 H02 p2 c2 r2 ⟨z, Cl, ns, ds, e1, hi, hc, hn, hl, q⟩ => by
    subst e1
    obtain rfl : v2 = .ref z := r2
    obtain ⟨dx, vs, g1, g2, g3⟩ := c2.ok z _ (List.mem_iff_getElem?.mpr ⟨i, hi⟩)
    obtain ⟨vs', f1, f2, f3⟩ := reps_put (f := m) (r1.mono p2.base) g3 g2
    obtain ⟨p3, c3⟩ := stp_write (o := .ins Cl dx (putF m v (ns.zip vs))) c2 hi (c' := .ins Cl (putN m d ns ds).1 (putN m d ns ds).2) ⟨dx, vs', by rw [upd_same, f1], f2, f3⟩
    have at3 := ((at_.step p1 c1).step p2 c2).step p3 c3
    refine ⟨z, Cl, dx, _, rfl, g1, hc, hn, ?_, ContS.here (((k.after p1 c1).after p2 c2).after p3 c3).nx at3 q⟩
    rw [List.length_zip, ← g2]; omega⟩⟩
end
end Tr

set_option maxHeartbeats 2000000
namespace Tr
open PySem L2 PySem.Spec PyProof.Rows

section
variable {X : Cx} {T : TX X} {ρ : Rho} {C : Cells} {Q : QE} {e a b o : Expr} {pos p apos cpos : Pos} {es : List Expr} {d d1 d2 : D} {ds ds2 : List D}

/-! ### lists and tuples, read -/
def LstD (C : Cells) (d : D) (ds : List D) : Prop := d = .lst ds ∨ ∃ a, d = .raw (.ref a) ∧ (a, Cell.lst ds) ∈ C
def SeqD (C : Cells) (d : D) (ds : List D) : Prop := LstD C d ds ∨ d = .tup ds
theorem LstD.l : LstD C (.lst ds) ds := .inl rfl
theorem LstD.c {i : Nat} {a : Addr} (h : C[i]? = some (a, .lst ds)) : LstD C (.raw (.ref a)) ds := .inr ⟨a, rfl, List.mem_iff_getElem?.mpr ⟨i, h⟩⟩
theorem SeqD.l : SeqD C (.lst ds) ds := .inl (.inl rfl)
theorem SeqD.t : SeqD C (.tup ds) ds := .inr rfl
theorem SeqD.c {i : Nat} {a : Addr} (h : C[i]? = some (a, .lst ds)) : SeqD C (.raw (.ref a)) ds := .inl (.c h)
theorem lst_at {K : W.Frag} {H0 H : Hp} {v : V} (c : CellsR K H0 C H) (r : Rep K H0 d v) (h : LstD C d ds) : ∃ a vs, v = .ref a ∧ SqL K H a vs ∧ Reps K H0 ds vs := by
  rcases h with rfl | ⟨a, rfl, hm⟩
  · obtain ⟨a, vs, h1, h2, h3⟩ := r
    exact ⟨a, vs, h1, Same.sqL c.same h2, h3⟩
  · obtain ⟨vs, h1, h2⟩ := c.ok a _ hm
    exact ⟨a, vs, r, .inl (.inl h1), h2⟩
theorem tup_at {K : W.Frag} {H0 H : Hp} {v : V} (c : CellsR K H0 C H) (r : Rep K H0 (.tup ds) v) : ∃ a vs, v = .ref a ∧ SqT K H a vs ∧ Reps K H0 ds vs := by
  obtain ⟨a, vs, h1, h2, h3⟩ := r
  exact ⟨a, vs, h1, Same.sqT c.same h2, h3⟩
theorem cw_len (h : SeqD C d ds) (q : Q (.int ds.length) C) : CW T (.builtin "len") [d] C Q :=
  cw_look (d := .int ds.length) call_len_seq (fun xs H H0 c r => by
    obtain ⟨v, e1, r1⟩ := r.one
    subst e1
    rcases h with h | h
    · obtain ⟨a, vs, e2, h2, h3⟩ := lst_at c r1 h
      subst e2
      exact ⟨.int ds.length, rfl, fun R k => ⟨a, vs, rfl, .inl h2, by rw [← h3.length]; exact k⟩⟩
    · subst h
      obtain ⟨a, vs, e2, h2, h3⟩ := tup_at c r1
      subst e2
      exact ⟨.int ds.length, rfl, fun R k => ⟨a, vs, rfl, .inr h2, by rw [← h3.length]; exact k⟩⟩) q
theorem cw_len_str {s : Str} (h : s.length ≤ 100000) (q : Q (.int s.length) C) : CW T (.builtin "len") [.str s] C Q :=
  cw_look (d := .int s.length) call_len_str (fun xs H H0 c r => by
    obtain ⟨v, e1, r1⟩ := r.one
    cases r1; subst e1
    exact ⟨.int s.length, rfl, fun R k => ⟨s, rfl, Nat.le_trans h (by decide), k⟩⟩) q
/-- list(s), a new one that stands still; tuple(s) -/
theorem cw_list (h : SeqD C d ds) (q : Q (.lst ds) C) : CW T (.type "list") [d] C Q :=
  CallR.imp call_list_of fun xs H R ⟨H0, c, r, k⟩ => by
    obtain ⟨v, e1, r1⟩ := r.one
    subst e1
    have fin : ∀ (vs : List V), Reps X.K H0 ds vs → ∀ l, H l = none → R (.ref l) (upd H l (.lst vs)) := fun vs h3 l hl => by
      obtain ⟨p2, c2⟩ := stp_new (o := .lst vs) c hl
      exact k _ (.lst ds) C _ _ p2 c2 ⟨l, vs, rfl, .inl (.inl upd_same), h3.mono p2.base⟩ q
    rcases h with h | h
    · obtain ⟨a, vs, e2, h2, h3⟩ := lst_at c r1 h
      subst e2
      exact ⟨a, vs, rfl, .inl h2, fin vs h3⟩
    · subst h
      obtain ⟨a, vs, e2, h2, h3⟩ := tup_at c r1
      subst e2
      exact ⟨a, vs, rfl, .inr h2, fin vs h3⟩
theorem cw_listC (h : SeqD C d ds) (q : ∀ p, Q (.raw (.ref p)) ((p, .lst ds) :: C)) : CW T (.type "list") [d] C Q :=
  CallR.imp call_list_of fun xs H R ⟨H0, c, r, k⟩ => by
    obtain ⟨v, e1, r1⟩ := r.one
    subst e1
    have fin : ∀ (vs : List V), Reps X.K H0 ds vs → ∀ l, H l = none → R (.ref l) (upd H l (.lst vs)) := fun vs h3 l hl => by
      obtain ⟨p2, c2⟩ := stp_cell (o := .lst vs) (c := .lst ds) c hl ⟨vs, upd_same, h3⟩
      exact k _ (.raw (.ref l)) _ _ _ p2 c2 rfl (q l)
    rcases h with h | h
    · obtain ⟨a, vs, e2, h2, h3⟩ := lst_at c r1 h
      subst e2
      exact ⟨a, vs, rfl, .inl h2, fin vs h3⟩
    · subst h
      obtain ⟨a, vs, e2, h2, h3⟩ := tup_at c r1
      subst e2
      exact ⟨a, vs, rfl, .inr h2, fin vs h3⟩
theorem cw_tuple (h : SeqD C d ds) (q : Q (.tup ds) C) : CW T (.type "tuple") [d] C Q :=
  CallR.imp call_tuple_of fun xs H R ⟨H0, c, r, k⟩ => by
    obtain ⟨v, e1, r1⟩ := r.one
    subst e1
    rcases h with h | h
    · obtain ⟨a, vs, e2, h2, h3⟩ := lst_at c r1 h
      subst e2
      refine ⟨a, vs, rfl, .inl ⟨h2, fun l hl => ?_⟩⟩
      obtain ⟨p2, c2⟩ := stp_new (o := .tup vs) c hl
      exact k _ (.tup ds) C _ _ p2 c2 ⟨l, vs, rfl, .inl (.inl upd_same), h3.mono p2.base⟩ q
    · subst h
      obtain ⟨a, vs, e2, h2, h3⟩ := tup_at c r1
      subst e2
      exact ⟨a, vs, rfl, .inr ⟨h2, k.here (d := .tup ds) c r1 q⟩⟩

/-! ### subscripts -/
def IW (T : TX X) (d1 d2 : D) (C : Cells) (Q : QE) : Prop := IxR X fun x y H R => ∃ H0, CellsR X.K H0 C H ∧ Rep X.K H0 d1 x ∧ Rep X.K H0 d2 y ∧ Cont X H0 C H Q R
theorem IxR.imp {r r' : R2} (h : IxR X r) (i : ∀ x y H R, r' x y H R → r x y H R) : IxR X r' := fun value slice pins s σ H x y v u Q I rx ry q hs => h value slice pins s σ H x y v u Q I rx ry (i _ _ _ _ q) hs
theorem ix_some (T : TX X) : IxR X (fun x y H R => ∃ d1 d2 C Q, IW T d1 d2 C Q ∧ ∃ H0, CellsR X.K H0 C H ∧ Rep X.K H0 d1 x ∧ Rep X.K H0 d2 y ∧ Cont X H0 C H Q R) :=
  fun value slice pins s σ H x y v u Q I rx ry ⟨d1, d2, C, q, h, k⟩ hs => h value slice pins s σ H x y v u Q I rx ry k hs
theorem we_ix (h : WE T a ρ C fun d1 C1 => WE T b ρ C1 fun d2 C2 => IW T d1 d2 C2 Q) (hs : PlainIx b) : WE T (.Subscript a b pos) ρ C Q := by
  refine PE.imp (pe_ix (ix_some T) h (pe_some T ρ b) hs) fun σ H R ⟨H0, at_, k⟩ => ⟨H0, at_, fun v1 d1 C1 H1 H01 p1 c1 r1 q1 => ?_⟩
  have at1 := at_.step p1 c1
  exact ⟨C1, _, q1, H01, at1, fun v2 d2 C2 H2 H02 p2 c2 r2 q2 => ⟨d1, d2, C2, Q, q2, H02, c2, r1.mono p2.base, r2, k.after (p1.trans c1 p2) c2 fun _ _ z => z⟩⟩
theorem ixN_lt {n : Nat} {i : Int} {j : Nat} (h : ixN n i = some j) : j < n := (ixN_seq h).2.1
theorem atI_reps {K : W.Frag} {H0 : Hp} {vs : List V} {i : Int} (r : Reps K H0 ds vs) (h : atI ds i = some d) : ∃ v, atI vs i = some v ∧ Rep K H0 d v := by
  unfold atI at h ⊢
  rw [← r.length]
  cases e : ixN ds.length i with
  | none => rw [e] at h; cases h
  | some j => rw [e] at h; exact r.get h
theorem iw_lst {i : Int} (h : LstD C d1 ds) (hi : atI ds i = some d) (q : Q d C) : IW T d1 (.int i) C Q :=
  IxR.imp ix_list fun x y H R ⟨H0, c, r1, r2, k⟩ => by
    cases r2
    obtain ⟨a, vs, e2, h2, h3⟩ := lst_at c r1 h
    obtain ⟨v, g1, g2⟩ := atI_reps h3 hi
    exact ⟨a, vs, i, v, e2, rfl, h2, g1, k.here c g2 q⟩
theorem iw_tup {i : Int} (hi : atI ds i = some d) (q : Q d C) : IW T (.tup ds) (.int i) C Q :=
  IxR.imp ix_tup fun x y H R ⟨H0, c, r1, r2, k⟩ => by
    cases r2
    obtain ⟨a, vs, e2, h2, h3⟩ := tup_at c r1
    obtain ⟨v, g1, g2⟩ := atI_reps h3 hi
    exact ⟨a, vs, i, v, e2, rfl, h2, g1, k.here c g2 q⟩
theorem iw_str {s : Str} {i : Int} {c : Nat} (hl : s.length ≤ 100000) (hi : atI s.cps.toList i = some c) (q : Q (.str ⟨#[c]⟩) C) : IW T (.str s) (.int i) C Q :=
  IxR.imp ix_str fun x y H R ⟨H0, c, r1, r2, k⟩ => by
    cases r1; cases r2
    exact ⟨s, i, _, rfl, rfl, Nat.le_trans hl (by decide), hi, k.here (d := .str ⟨#[_]⟩) c rfl q⟩

/-! ### slices -/
def cutD (ds : List D) (lo hi : Option Int) : List D := (ds.drop (HT.sIx ds.length 0 lo)).take (HT.sIx ds.length ds.length hi - HT.sIx ds.length 0 lo)
theorem reps_cut {K : W.Frag} {H0 : Hp} {vs : List V} (r : Reps K H0 ds vs) (lo hi : Option Int) : Reps K H0 (cutD ds lo hi) (cutV vs lo hi) := by
  unfold cutD cutV
  rw [← r.length]
  exact (r.drop _).take _
/-- an optional part -/
def TOx (T : TX X) (ρ : Rho) (C : Cells) (Q : Option Int → Cells → Prop) : TO := fun σ H R => ∃ H0, At T H0 ρ C σ H ∧ ∀ i C' H' H0', Stp H0 C H H0' C' H' → CellsR X.K H0' C' H' → Q i C' → R i H'
def WO (T : TX X) (e : Option Expr) (ρ : Rho) (C : Cells) (Q : Option Int → Cells → Prop) : Prop := PO X e (TOx T ρ C Q)
theorem PO.imp {e : Option Expr} {t t' : TO} (h : PO X e t) (i : ∀ σ H R, t' σ H R → t σ H R) : PO X e t' := ⟨fun pins s σ H Q I q => h.run pins s σ H Q I (i σ H Q q)⟩
theorem po_any (T : TX X) (ρ : Rho) (e : Option Expr) : PO X e (fun σ H R => ∃ C Q, WO T e ρ C Q ∧ TOx T ρ C Q σ H R) := ⟨fun pins s σ H Q I ⟨C, q, h, t⟩ => h.run pins s σ H Q I t⟩
theorem wo_none {Q : Option Int → Cells → Prop} (q : Q none C) : WO T none ρ C Q := PO.imp po_none fun σ H R ⟨H0, at_, k⟩ => k none C H H0 (Stp.refl _ _ _) at_.c q
theorem wo_some {Q : Option Int → Cells → Prop} (h : WE T e ρ C fun d C1 => ∃ i, d = .int i ∧ Q (some i) C1) : WO T (some e) ρ C Q :=
  PO.imp (po_some h) fun σ H R ⟨H0, at_, k⟩ => ⟨H0, at_, fun v d C1 H1 H01 p1 c1 r1 ⟨i, e1, q⟩ => by subst e1; exact ⟨i, r1, k _ C1 H1 H01 p1 c1 q⟩⟩
def SW (T : TX X) (d : D) (lo hi : Option Int) (C : Cells) (Q : QE) : Prop := SlR X fun x l u H R => l = lo ∧ u = hi ∧ ∃ H0, CellsR X.K H0 C H ∧ Rep X.K H0 d x ∧ Cont X H0 C H Q R
theorem SlR.imp {r r' : V → Option Int → Option Int → Hp → VK → Prop} (h : SlR X r) (i : ∀ x l u H R, r' x l u H R → r x l u H R) : SlR X r' := fun pins s σ H x v vl vu lo hi sl Q I rx hs pl pu q => h pins s σ H x v vl vu lo hi sl Q I rx hs pl pu (i _ _ _ _ _ q)
theorem sl_some (T : TX X) : SlR X (fun x l u H R => ∃ d C Q, SW T d l u C Q ∧ ∃ H0, CellsR X.K H0 C H ∧ Rep X.K H0 d x ∧ Cont X H0 C H Q R) :=
  fun pins s σ H x v vl vu lo hi sl Q I rx hs pl pu ⟨d, C, q, h, k⟩ => h pins s σ H x v vl vu lo hi sl Q I rx hs pl pu ⟨rfl, rfl, k⟩
theorem we_slice {lo hi : Option Expr} {p2 : Pos} (h : WE T e ρ C fun d C1 => WO T lo ρ C1 fun l C2 => WO T hi ρ C2 fun u C3 => SW T d l u C3 Q) : WE T (.Subscript e (.Slice lo hi none p2) pos) ρ C Q := by
  refine PE.imp (pe_slice (sl_some T) h (po_any T ρ lo) (po_any T ρ hi)) fun σ H R ⟨H0, at_, k⟩ => ⟨H0, at_, fun v d C1 H1 H01 p1 c1 r1 q1 => ?_⟩
  have at1 := at_.step p1 c1
  exact ⟨C1, _, q1, H01, at1, fun l C2 H2 H02 p2 c2 q2 => ⟨C2, _, q2, H02, at1.step p2 c2, fun u C3 H3 H03 p3 c3 q3 => ⟨d, C3, Q, q3, H03, c3, (r1.mono p2.base).mono p3.base, k.after ((p1.trans c1 p2).trans c2 p3) c3 fun _ _ z => z⟩⟩⟩
theorem sw_lst {lo hi : Option Int} (h : LstD C d ds) (q : Q (.lst (cutD ds lo hi)) C) : SW T d lo hi C Q :=
  SlR.imp sl_list fun x l u H R ⟨e1, e2, H0, c, r1, k⟩ => by
    subst e1; subst e2
    obtain ⟨a, vs, e2, h2, h3⟩ := lst_at c r1 h
    refine ⟨a, vs, e2, h2, fun z hz => ?_⟩
    obtain ⟨p2, c2⟩ := stp_new (o := .lst (cutV vs l u)) c hz
    exact k _ (.lst (cutD ds l u)) C _ _ p2 c2 ⟨z, _, rfl, .inl (.inl upd_same), (reps_cut h3 l u).mono p2.base⟩ q
/-- the whole tuple is the tuple itself -/
def rSlTw (K : W.Frag) : V → Option Int → Option Int → Hp → VK → Prop := fun x lo hi H Q => ∃ a xs, x = .ref a ∧ SqT K H a xs ∧ (HT.sIx xs.length 0 lo = 0 ∧ HT.sIx xs.length xs.length hi = xs.length) ∧ Q x H

/-! ### what changes a list -/
theorem we_append (i : Nat) (h : WE T o ρ C fun od C1 => ∃ z ds, od = .raw (.ref z) ∧ C1[i]? = some (z, .lst ds) ∧ WE T a ρ C1 fun d C2 => ∃ ds2, C2[i]? = some (z, .lst ds2) ∧ ds2.length < 100000 ∧ Q .non (C2.set i (z, .lst (ds2 ++ [d]))))
    (hbase : attributeBase o "append" X.env (eval o X.env) = eval o X.env := by rfl) (hline : (apos.endLine == cpos.line) = true := by rfl) (hs : starEach [a] X.env = (false, eval a X.env) :: starEach [] X.env := by rfl)
    (hfew : ((backTo cpos (starEach [a] X.env)).all (fun x => !x.1) && (backToKw cpos (keywordEach [] X.env)).all (fun x => x.1.isSome)
      && decide (([a] : List Expr).length + ([] : List Keyword).length + (if ([] : List Keyword).isEmpty then 0 else 1) < 30)) = true := by rfl) (hplain : (backTo cpos (starEach [] X.env)).any (·.1) = false := by rfl) :
    WE T (.Call (.Attribute o "append" apos) [a] [] cpos) ρ C Q := by
  refine PE.imp (pe_bm F.plainAttrs_list F.slot_list_append F.type_list_append mt_append h (pa_cons (pe_some T ρ a) pa_nil hs) hbase hfew hline hs hplain) fun σ H R ⟨H0, at_, k⟩ => ⟨H0, at_, fun v od C1 H1 H01 p1 c1 r1 ⟨z, ds, e1, hi, hw⟩ => ?_⟩
  subst e1
  obtain rfl : v = .ref z := r1
  obtain ⟨vs, g1, g2⟩ := c1.ok z _ (List.mem_iff_getElem?.mpr ⟨i, hi⟩)
  refine ⟨.inl ⟨rfl, vs, .inl (.inl g1)⟩, C1, _, hw, H01, at_.step p1 c1, fun v2 d C2 H2 H02 p2 c2 r2 ⟨ds2, hi2, hl, q⟩ => ?_⟩
  obtain ⟨vs2, f1, f2⟩ := c2.ok z _ (List.mem_iff_getElem?.mpr ⟨i, hi2⟩)
  refine ⟨z, vs2, v2, rfl, rfl, f1, ?_, ?_⟩
  · rw [← f2.length]; exact Nat.lt_trans hl (by decide)
  · obtain ⟨p3, c3⟩ := stp_write (o := .lst (vs2 ++ [v2])) c2 hi2 (c' := .lst (ds2 ++ [d])) ⟨_, upd_same, f2.append (Reps.cons r2 Reps.nil)⟩
    exact k _ .non _ _ _ ((p1.trans c1 p2).trans c2 p3) c3 rfl q
/-- xs.pop() -/
theorem we_pop (i : Nat) (h : WE T o ρ C fun od C1 => ∃ z ds, od = .raw (.ref z) ∧ C1[i]? = some (z, .lst (ds ++ [d])) ∧ Q d (C1.set i (z, .lst ds)))
    (hbase : attributeBase o "pop" X.env (eval o X.env) = eval o X.env := by rfl) (hline : (apos.endLine == cpos.line) = true := by rfl) :
    WE T (.Call (.Attribute o "pop" apos) [] [] cpos) ρ C Q := by
  refine PE.imp (pe_bm0 F.plainAttrs_list F.slot_list_pop F.type_list_pop mt_pop h hbase hline) fun σ H R ⟨H0, at_, k⟩ => ⟨H0, at_, fun v od C1 H1 H01 p1 c1 r1 ⟨z, ds, e1, hi, q⟩ => ?_⟩
  subst e1
  obtain rfl : v = .ref z := r1
  obtain ⟨vs, g1, g2⟩ := c1.ok z _ (List.mem_iff_getElem?.mpr ⟨i, hi⟩)
  obtain ⟨vs1, vs2, e2, f1, f2⟩ := g2.split
  obtain ⟨v2, e3, f3⟩ := f2.one
  subst e3; subst e2
  refine ⟨.inl ⟨rfl, _, .inl (.inl g1)⟩, z, _, v2, rfl, rfl, g1, by simp, ?_⟩
  obtain ⟨p3, c3⟩ := stp_write (o := .lst vs1) c1 hi (c' := .lst ds) ⟨_, upd_same, f1⟩
  rw [List.dropLast_concat]
  exact k v2 d _ _ _ (p1.trans c1 p3) c3 f3 q

/-! ### what loops walk -/
theorem wi_lst {tg : Expr} {Q : QI} (h : WE T e ρ C fun d C1 => ∃ ds, d = .lst ds ∧ Q ds (fun _ => True) C1) : WI T tg e ρ C Q := by
  refine PI.imp (pi_list h) fun σ H R ⟨H0, at_, k⟩ => ⟨H0, at_, fun v d C1 H1 H01 p1 c1 r1 ⟨ds, e1, q⟩ => ?_⟩
  subst e1
  obtain ⟨a, vs, h1, h2, h3⟩ := r1
  exact ⟨a, h1, ⟨vs, Same.sqL c1.same h2⟩, k _ ds _ C1 H1 H01 p1 c1 (yields_list h2 h3) q⟩
end
end Tr

set_option maxHeartbeats 2000000
namespace Tr
open PySem L2 PySem.Spec PyProof.Rows

section
variable {X : Cx} {T : TX X} {ρ : Rho} {C : Cells} {Q : QE} {e a b o : Expr} {pos p apos cpos : Pos} {es : List Expr} {d d1 d2 : D} {ds ds2 : List D}

/-! ### what loops walk, further -/
theorem yields_tup {K : W.Frag} {H0 : Hp} {a : Addr} {vs : List V} (hs : SqT K H0 a vs) (r : Reps K H0 ds vs) : Yields K (Itt K a) H0 (fun _ => True) ds where
  go := fun i H0' C H e c _ hi => ⟨vs, vs[i]'(by rw [← r.length]; exact hi), Same.sqT (e.trans c.same) hs, by simp⟩
  stop := fun i H0' C H e c _ hi => ⟨vs, Same.sqT (e.trans c.same) hs, by rw [← r.length]; exact hi⟩
  yld := fun i H0' C H x H' d e c _ hd ⟨e1, y⟩ => by
    subst e1
    refine ⟨H0', Stp.refl _ _ _, c, ?_⟩
    have := y vs (Same.sqT (e.trans c.same) hs)
    obtain ⟨v, h1, h2⟩ := r.get hd
    rw [this] at h1; cases h1
    exact h2.mono e
theorem wi_tup {tg : Expr} {Q : QI} (h : WE T e ρ C fun d C1 => ∃ ds, d = .tup ds ∧ Q ds (fun _ => True) C1) : WI T tg e ρ C Q := by
  refine PI.imp (pi_tup h) fun σ H R ⟨H0, at_, k⟩ => ⟨H0, at_, fun v d C1 H1 H01 p1 c1 r1 ⟨ds, e1, q⟩ => ?_⟩
  subst e1
  obtain ⟨a, vs, h1, h2, h3⟩ := r1
  exact ⟨a, h1, ⟨vs, Same.sqT c1.same h2⟩, k _ ds _ C1 H1 H01 p1 c1 (yields_tup h2 h3) q⟩
/-- a list that may change, but doesn't while it is walked -/
theorem yields_cell {K : W.Frag} {H0 : Hp} {a : Addr} : Yields K (Itl K a) H0 (fun C => (a, Cell.lst ds) ∈ C) ds where
  go := fun i H0' C H e c hm hi => by
    obtain ⟨vs, h1, h2⟩ := c.ok a _ hm
    exact ⟨vs, vs[i]'(by rw [← h2.length]; exact hi), .inl (.inl h1), by simp⟩
  stop := fun i H0' C H e c hm hi => by
    obtain ⟨vs, h1, h2⟩ := c.ok a _ hm
    exact ⟨vs, .inl (.inl h1), by rw [← h2.length]; exact hi⟩
  yld := fun i H0' C H x H' d e c hm hd ⟨e1, y⟩ => by
    subst e1
    obtain ⟨vs, h1, h2⟩ := c.ok a _ hm
    have := y vs (.inl (.inl h1))
    obtain ⟨v, g1, g2⟩ := h2.get hd
    rw [this] at g1; cases g1
    exact ⟨H0', Stp.refl _ _ _, c, g2⟩
theorem wi_cell {tg : Expr} {Q : QI} (h : WE T e ρ C fun d C1 => ∃ z ds, d = .raw (.ref z) ∧ (z, Cell.lst ds) ∈ C1 ∧ Q ds (fun C => (z, Cell.lst ds) ∈ C) C1) : WI T tg e ρ C Q := by
  refine PI.imp (pi_list h) fun σ H R ⟨H0, at_, k⟩ => ⟨H0, at_, fun v d C1 H1 H01 p1 c1 r1 ⟨z, ds, e1, hm, q⟩ => ?_⟩
  subst e1
  obtain rfl : v = .ref z := r1
  obtain ⟨vs, h1, h2⟩ := c1.ok z _ hm
  exact ⟨z, rfl, ⟨vs, .inl (.inl h1)⟩, k _ ds _ C1 H1 H01 p1 c1 yields_cell q⟩
def rangeD (lo : Int) (n : Nat) : List D := (List.range n).map fun i => .int (lo + (i : Nat))
theorem rangeD_len (lo : Int) (n : Nat) : (rangeD lo n).length = n := by simp [rangeD]
theorem yields_range {K : W.Frag} {H0 : Hp} (lo : Int) (n : Nat) : Yields K (Itr lo n) H0 (fun _ => True) (rangeD lo n) where
  go := fun i H0' C H e c _ hi => by rw [rangeD_len] at hi; exact hi
  stop := fun i H0' C H e c _ hi => by rw [rangeD_len] at hi; exact hi
  yld := fun i H0' C H x H' d e c _ hd ⟨e1, e2⟩ => by
    subst e1; subst e2
    refine ⟨H0', Stp.refl _ _ _, c, ?_⟩
    unfold rangeD at hd
    rw [List.getElem?_map] at hd
    cases q : (List.range n)[i]? with
    | none => rw [q] at hd; cases hd
    | some j =>
      rw [q] at hd; cases hd
      obtain ⟨h1, h2⟩ := List.getElem?_eq_some_iff.mp q
      rw [List.getElem_range] at h2
      subst h2
      rfl
theorem wi_range1 {tg : Expr} {Q : QI} (hg : Gl X "range") (hm : X.mg "range" = none) (h : WE T a ρ C fun d C1 => ∃ j : Int, d = .int j ∧ -(2 ^ 62) ≤ j ∧ j < 2 ^ 62 ∧ Q (rangeD 0 j.toNat) (fun _ => True) C1)
    (hs : starEach [a] X.env = [(false, eval a X.env)] := by rfl) (hs2 : starEach [a] X.env = (false, eval a X.env) :: starEach [] X.env := by rfl) : WI T tg (.Call (.Name "range" p) [a] [] pos) ρ C Q := by
  refine PI.imp (pi_range1 hg hm (pa_cons h pa_nil hs2) hs) fun σ H R ⟨H0, at_, k⟩ => ⟨H0, at_, fun v d C1 H1 H01 p1 c1 r1 ⟨j, e1, l1, l2, q⟩ => ?_⟩
  subst e1; cases r1
  exact ⟨j, rfl, l1, l2, k _ _ _ C1 H1 H01 p1 c1 (yields_range 0 _) q⟩
theorem wi_range2 {tg : Expr} {Q : QI} (hg : Gl X "range") (hm : X.mg "range" = none) (h : WE T a ρ C fun d C1 => WE T b ρ C1 fun d2 C2 => ∃ i j : Int, d = .int i ∧ d2 = .int j ∧ (-(2 ^ 62) ≤ i ∧ i < 2 ^ 62 ∧ -(2 ^ 62) ≤ j ∧ j < 2 ^ 62) ∧ Q (rangeD i (j - i).toNat) (fun _ => True) C2)
    (hs : starEach [a, b] X.env = [(false, eval a X.env), (false, eval b X.env)] := by rfl) (hs2 : starEach [b] X.env = [(false, eval b X.env)] := by rfl)
    (hs3 : starEach [a, b] X.env = (false, eval a X.env) :: starEach [b] X.env := by rfl) (hs4 : starEach [b] X.env = (false, eval b X.env) :: starEach [] X.env := by rfl) : WI T tg (.Call (.Name "range" p) [a, b] [] pos) ρ C Q := by
  refine PI.imp (pi_range2 hg hm (pa_cons h (pa_cons (pe_some T ρ b) pa_nil hs4) hs3) hs hs2) fun σ H R ⟨H0, at_, k⟩ => ⟨H0, at_, fun v d C1 H1 H01 p1 c1 r1 q1 => ⟨C1, _, q1, H01, at_.step p1 c1, fun v2 d2 C2 H2 H02 p2 c2 r2 ⟨i, j, e1, e2, l, q⟩ => ?_⟩⟩
  subst e1; subst e2; cases r1; cases r2
  exact ⟨i, j, rfl, l, k _ _ _ C2 H2 H02 (p1.trans c1 p2) c2 (yields_range i _) q⟩
/-- the signs of a text -/
def signsD (s : Str) : List D := s.cps.toList.map fun c => .str ⟨#[c]⟩
theorem yields_str {K : W.Frag} {H0 : Hp} (s : Str) : Yields K (Its s) H0 (fun _ => True) (signsD s) where
  go := fun i H0' C H e c _ hi => by show i < s.cps.size; simpa [signsD] using hi
  stop := fun i H0' C H e c _ hi => by show s.cps.size ≤ i; simpa [signsD] using hi
  yld := fun i H0' C H x H' d e c _ hd ⟨e1, k, hk, e2⟩ => by
    subst e1; subst e2
    refine ⟨H0', Stp.refl _ _ _, c, ?_⟩
    unfold signsD at hd
    rw [List.getElem?_map, Array.getElem?_toList, hk] at hd
    cases hd; rfl
theorem wi_str {tg : Expr} {Q : QI} (h : WE T e ρ C fun d C1 => ∃ s, d = .str s ∧ Q (signsD s) (fun _ => True) C1) : WI T tg e ρ C Q := by
  refine PI.imp (pi_str h) fun σ H R ⟨H0, at_, k⟩ => ⟨H0, at_, fun v d C1 H1 H01 p1 c1 r1 ⟨s, e1, q⟩ => ?_⟩
  subst e1; cases r1
  exact ⟨s, rfl, k _ _ _ C1 H1 H01 p1 c1 (yields_str s) q⟩

/-! ### list comprehensions -/
/-- the block of a comprehension -/
def TX.blk (T : TX X) (s : Shared) (H : Hp) (scope : Scope) (cenv : Env) (fp : List Addr) : TX (X.blk s H scope cenv fp) where
  A := T.A
  up := T.up
  XQ := fun _ _ _ _ => False
  tk := fun u s' ⟨_, _, _, _, _, _, _, _, _, _, _, _, _, _, _, _, w⟩ => let ⟨_, _, _, _, _, _, _, _, _, q⟩ := w; False.elim q
  pass := PassesOwn.never
theorem At.blk {T : TX X} {s : Shared} {H' : Hp} {scope : Scope} {cenv : Env} {fp : List Addr} {H0 : Hp} {σ : L2.St} {H : Hp} (h : At T H0 ρ C σ H) : At (T.blk s H' scope cenv fp) H0 ρ C σ H := ⟨h.a, h.c, h.s, h.l⟩
theorem At.unblk {T : TX X} {s : Shared} {H' : Hp} {scope : Scope} {cenv : Env} {fp : List Addr} {H0 : Hp} {σ : L2.St} {H : Hp} (h : At (T.blk s H' scope cenv fp) H0 ρ C σ H) : At T H0 ρ C σ H := ⟨h.a, h.c, h.s, h.l⟩
/-- what holds in every block of this comprehension -/
abbrev InBlk (T : TX X) (scope : Scope) (P : ∀ {Y : Cx}, TX Y → Prop) : Prop := ∀ (s : Shared) (H : Hp) (Ca : Addr) (cl : List (Str × Addr)) (fp : List Addr), P (T.blk s H scope (compEnvC scope cl Ca X.env) fp)
def wipeR (ρ : Rho) : List Nat → Rho
  | [] => ρ
  | v :: vs => (wipeR ρ vs).set v none
theorem wipeR_len (ρ : Rho) : ∀ vs : List Nat, (wipeR ρ vs).length = ρ.length
  | [] => rfl
  | v :: vs => by unfold wipeR; rw [List.length_set, wipeR_len ρ vs]
theorem slots_wipe {K : W.Frag} {H0 : Hp} {σ : L2.St} (h : SlotsR K H0 ρ σ) : ∀ vs : List Nat, SlotsR K H0 (wipeR ρ vs) (wipe σ vs)
  | [] => h
  | v :: vs => SlotsR.unset v (slots_wipe h vs)
theorem At.wipe {T : TX X} {H0 : Hp} {σ : L2.St} {H : Hp} (h : At T H0 ρ C σ H) (vs : List Nat) : At T H0 (wipeR ρ vs) C (L2.wipe σ vs) H := ⟨h.a, h.c, slots_wipe h.s vs, by rw [wipeR_len, wipe_length]; exact h.l⟩
/-- the target: names in slots, one or a tuple of them -/
inductive Bind where
  | one (i : Nat)
  | tup (is : List Nat)
def setAll {α : Type} (l : List (Option α)) : List Nat → List α → List (Option α)
  | i :: is, x :: xs => setAll (l.set i (some x)) is xs
  | _, _ => l
def Bind.to (b : Bind) (d : D) (ρ : Rho) : Option Rho := match b, d with
  | .one i, d => some (ρ.set i (some d))
  | .tup is, .tup ds => if is.length = ds.length then some (setAll ρ is ds) else none
  | _, _ => none
def gNames : List Nat → TGs
  | [] => gNil
  | i :: is => gCons (gName i) (gNames is)
def Bind.g (K : W.Frag) : Bind → TG
  | .one i => gName i
  | .tup is => gTup K is.length (gNames is)
def Bind.slots : Bind → List Nat
  | .one i => [i]
  | .tup is => is
theorem setAll_len {α : Type} : ∀ (is : List Nat) (xs : List α) (l : List (Option α)), (setAll l is xs).length = l.length
  | [], xs, l => by cases xs <;> rfl
  | i :: is, [], l => rfl
  | i :: is, x :: xs, l => by unfold setAll; rw [setAll_len is xs, List.length_set]
theorem slots_setAll {K : W.Frag} {H0 : Hp} : ∀ {is : List Nat} {ds : List D} {vs : List V} {ρ : Rho} {σ : L2.St}, Reps K H0 ds vs → SlotsR K H0 ρ σ → ρ.length = σ.length → SlotsR K H0 (setAll ρ is ds) (setAll σ is vs)
  | [], ds, vs, ρ, σ, r, h, l => by cases ds <;> cases vs <;> exact h
  | i :: is, [], vs, ρ, σ, r, h, l => by cases r; exact h
  | i :: is, d :: ds, vs, ρ, σ, ⟨v, rr, e1, r1, r2⟩, h, l => by
    subst e1
    have z : SlotsR K H0 (setAll (ρ.set i (some d)) is ds) (setAll (σ.set i (some v)) is rr) := slots_setAll r2 (SlotsR.set i h r1 l) (by simp [l])
    exact z
theorem gNames_to {R : L2.St → Hp → Prop} {H : Hp} : ∀ {is : List Nat} {vs : List V} {σ : L2.St}, is.length = vs.length → R (setAll σ is vs) H → gNames is vs σ H R
  | [], [], σ, _, h => ⟨rfl, h⟩
  | i :: is, v :: vs, σ, hl, h => ⟨v, vs, rfl, gNames_to (by simpa using hl) h⟩
theorem set_wipe {i : Nat} {x : V} : ∀ {vs : List Nat} {σ : L2.St}, i ∈ vs → wipe (σ.set i (some x)) vs = wipe σ vs
  | [], _, h => by cases h
  | v :: vs, σ, h => by
    show (wipe (σ.set i (some x)) vs).set v none = (wipe σ vs).set v none
    by_cases e : i ∈ vs
    · rw [set_wipe e]
    · have e' : i = v := (List.mem_cons.mp h).resolve_right e
      subst e'
      apply List.ext_getElem?
      intro j
      rw [List.getElem?_set, List.getElem?_set, wipe_length, wipe_length, List.length_set]
      by_cases q : i = j
      · subst q; simp
      · rw [if_neg q, if_neg q]
        by_cases hj : j ∈ vs
        · have z : ∀ τ : L2.St, (wipe τ vs)[j]? = if j < τ.length then some none else none := by
            intro τ
            induction vs with
            | nil => cases hj
            | cons w ws ih =>
              show ((wipe τ ws).set w none)[j]? = _
              rw [List.getElem?_set, wipe_length]
              by_cases q2 : w = j
              · subst q2; simp
              · rw [if_neg q2]
                rcases List.mem_cons.mp hj with q3 | q3
                · exact absurd q3.symm q2
                · exact ih (fun h1 => e (List.mem_cons_of_mem _ h1)) (by simp) q3
          rw [z, z, List.length_set]
        · rw [wipe_out hj, wipe_out hj, List.getElem?_set_ne q]
theorem wipe_wipe (σ : L2.St) : ∀ vs : List Nat, wipe (wipe σ vs) vs = wipe σ vs := by
  intro vs
  apply List.ext_getElem?
  intro j
  by_cases hj : j ∈ vs
  · have z : ∀ (τ : L2.St), (wipe τ vs)[j]? = if j < τ.length then some none else none := by
      intro τ
      induction vs with
      | nil => cases hj
      | cons w ws ih =>
        show ((wipe τ ws).set w none)[j]? = _
        rw [List.getElem?_set, wipe_length]
        by_cases q2 : w = j
        · subst q2; simp
        · rw [if_neg q2]
          rcases List.mem_cons.mp hj with q3 | q3
          · exact absurd q3.symm q2
          · exact ih q3
    rw [z, z, wipe_length]
  · rw [wipe_out hj]
theorem setAll_wipe : ∀ {is vs : List Nat} {xs : List V} {σ : L2.St}, (∀ i ∈ is, i ∈ vs) → wipe (setAll σ is xs) vs = wipe σ vs
  | [], vs, xs, σ, h => by cases xs <;> rfl
  | i :: is, vs, [], σ, h => rfl
  | i :: is, vs, x :: xs, σ, h => by
    unfold setAll
    rw [setAll_wipe (fun j hj => h j (List.mem_cons_of_mem _ hj)), set_wipe (h i List.mem_cons_self)]
theorem bind_to {bd : Bind} {d : D} {v : V} {ρ' : Rho} {H0 H : Hp} {σ : L2.St} {vs : List Nat} {R : L2.St → Hp → Prop} {K : W.Frag} (c : Same H0 H) (hb : bd.to d ρ = some ρ') (hv : ∀ i ∈ bd.slots, i ∈ vs) (r : Rep K H0 d v) (s : SlotsR K H0 ρ σ) (l : ρ.length = σ.length)
    (h : ∀ σ', SlotsR K H0 ρ' σ' → ρ'.length = σ'.length → wipe σ' vs = wipe σ vs → R σ' H) : bd.g K v σ H R := by
  cases bd with
  | one i =>
    cases hb
    exact h _ (SlotsR.set i s r l) (by simp [l]) (set_wipe (hv i (by simp [Bind.slots])))
  | tup is =>
    cases d with
    | tup ds =>
      simp only [Bind.to] at hb
      split at hb
      · rename_i hl
        cases hb
        obtain ⟨a, ws, h1, h2, h3⟩ := r
        refine ⟨a, ws, h1, Same.sqT c h2, by rw [← h3.length]; exact hl.symm, gNames_to (hl.trans h3.length) (h _ (slots_setAll h3 s l) (by rw [setAll_len, setAll_len]; exact l) (setAll_wipe hv))⟩
      · cases hb
    | _ => simp [Bind.to] at hb
/-- the comprehension's loop: acc the items made so far -/
def LcW (T : TX X) (scope : Scope) (bd : Bind) (elt : Expr) (vs : List Nat) (ρ : Rho) (P : Cells → Prop) (Q : QE) : List D → List D → Cells → Prop
  | [], acc, C => P C ∧ Q (.lst acc) C
  | d :: r, acc, C => P C ∧ ∃ ρ', bd.to d (wipeR ρ vs) = some ρ' ∧ InBlk T scope fun T' => WE T' elt ρ' C fun y C2 => acc.length < 100000 ∧ LcW T scope bd elt vs ρ P Q r (acc ++ [y]) C2
def LcW1 (T : TX X) (scope : Scope) (bd : Bind) (i elt : Expr) (vs : List Nat) (ρ : Rho) (P : Cells → Prop) (Q : QE) : List D → List D → Cells → Prop
  | [], acc, C => P C ∧ Q (.lst acc) C
  | d :: r, acc, C => P C ∧ ∃ ρ', bd.to d (wipeR ρ vs) = some ρ' ∧ InBlk T scope fun T' => WT T' i ρ' C fun k C1 =>
      if k = true then (InBlk T scope fun T' => WE T' elt ρ' C1 fun y C2 => acc.length < 100000 ∧ LcW1 T scope bd i elt vs ρ P Q r (acc ++ [y]) C2) else LcW1 T scope bd i elt vs ρ P Q r acc C1
/-- the new list on the way: in nobody's hands -/
structure Way (X : Cx) (H01 : Hp) (C1 : Cells) (H1 : Hp) (L : Addr) (acc : List D) (H0 : Hp) (C : Cells) (H : Hp) : Prop where
  st : Stp H01 C1 H1 H0 C H
  c : CellsR X.K H0 C H
  at_ : ∃ vs, H L = some (.lst vs) ∧ Reps X.K H0 acc vs
  n0 : H0 L = none
  nd : ¬ Dom C L
theorem Way.step {H01 H1 H0 H H0' H' : Hp} {C1 C' : Cells} {L : Addr} {acc : List D} (w : Way X H01 C1 H1 L acc H0 C H) (p : Stp H0 C H H0' C' H') (c' : CellsR X.K H0' C' H') : Way X H01 C1 H1 L acc H0' C' H' := by
  obtain ⟨vs, h1, h2⟩ := w.at_
  obtain ⟨q1, q2⟩ := p.own L (by rw [h1]; simp) w.n0 w.nd
  exact ⟨w.st.trans w.c p, c', ⟨vs, p.fr L _ h1 w.nd, h2.mono p.base⟩, q1, q2⟩
theorem Way.add {H01 H1 H0 H : Hp} {C1 : Cells} {L : Addr} {acc : List D} {d : D} {v : V} (w : Way X H01 C1 H1 L acc H0 C H) (hL : H1 L = none) (r : Rep X.K H0 d v) : ∃ vs, H L = some (.lst vs) ∧ vs.length = acc.length ∧ Way X H01 C1 H1 L (acc ++ [d]) H0 C (upd H L (.lst (vs ++ [v]))) := by
  obtain ⟨vs, h1, h2⟩ := w.at_
  have off : ∀ a x, (a, x) ∈ C → a ≠ L := fun a x hx e => w.nd ⟨x, e ▸ hx⟩
  refine ⟨vs, h1, h2.length.symm, ⟨⟨w.st.base, fun a o h n => ?_, w.st.own⟩, ⟨fun a o h => ?_, w.c.free, fun a x hx => (w.c.ok a x hx).mono (Same.refl _) (upd_ne (off a x hx)), w.c.nd⟩, ⟨_, upd_same, h2.append (Reps.cons r Reps.nil)⟩, w.n0, w.nd⟩⟩
  · rw [upd_ne (ne_of_none h hL)]; exact w.st.fr a o h n
  · rw [upd_ne (ne_of_none h w.n0)]; exact w.c.same a o h
theorem Way.fin {H01 H1 H0 H : Hp} {C1 : Cells} {L : Addr} {acc : List D} (w : Way X H01 C1 H1 L acc H0 C H) (hL : H1 L = none) : ∃ H0', Stp H01 C1 H1 H0' C H ∧ CellsR X.K H0' C H ∧ Rep X.K H0' (.lst acc) (.ref L) := by
  obtain ⟨vs, h1, h2⟩ := w.at_
  have s0 : Same H0 (upd H0 L (.lst vs)) := fun a u h => by rw [upd_ne (ne_of_none h w.n0)]; exact h
  refine ⟨upd H0 L (.lst vs), ⟨w.st.base.trans s0, w.st.fr, fun a h e n => ?_⟩, ⟨fun a o h => ?_, fun a d => ?_, fun a x hx => (w.c.ok a x hx).mono s0 rfl, w.c.nd⟩, ⟨L, vs, rfl, .inl (.inl upd_same), h2.mono s0⟩⟩
  · obtain ⟨q1, q2⟩ := w.st.own a h e n
    exact ⟨by rw [upd_ne (show a ≠ L from fun z => h (by rw [z]; exact hL))]; exact q1, q2⟩
  · by_cases q : a = L
    · subst q; rw [upd_same] at h; cases h; exact h1
    · rw [upd_ne q] at h; exact w.c.same a o h
  · rw [upd_ne (show a ≠ L from fun z => w.nd (by rw [← z]; exact d))]; exact w.c.free a d
theorem way0 {H0 H : Hp} {L : Addr} (c : CellsR X.K H0 C H) (hL : H L = none) : Way X H0 C H L [] H0 C (upd H L (.lst [])) := by
  have n0 := c.nn hL
  refine ⟨⟨Same.refl _, fun a o h n => by rw [upd_ne (ne_of_none h hL)]; exact h, fun a h e n => ⟨e, n⟩⟩, ⟨fun a o h => by rw [upd_ne (ne_of_none h n0)]; exact c.same a o h, c.free, fun a x hx => (c.ok a x hx).mono (Same.refl _) (upd_ne fun z => (c.ok a x hx).some (by rw [z]; exact hL)), c.nd⟩, ⟨[], upd_same, Reps.nil⟩, n0, c.notDom hL⟩
section
variable {scope : Scope} {own : List (Str × Nat)} {tg iter elt i : Expr} {bd : Bind}
/-- an element, whatever the block -/
def someB (T : TX X) (scope : Scope) (elt : Expr) : TE := fun σ H R => ∃ ρ C Q, InBlk T scope (fun T' => WE T' elt ρ C Q) ∧ TEx T ρ C Q σ H R
theorem pe_someB (T : TX X) (scope : Scope) (elt : Expr) (s : Shared) (H : Hp) (Ca : Addr) (cl : List (Str × Addr)) (fp : List Addr) : PE (X.blk s H scope (compEnvC scope cl Ca X.env) fp) elt (someB T scope elt) :=
  ⟨fun pins s' σ H' R I ⟨ρ, C, Q, h, H0, at_, k⟩ => (h s H Ca cl fp).run pins s' σ H' R I ⟨H0, at_.blk, k⟩⟩
def someBT (T : TX X) (scope : Scope) (elt : Expr) : TT := fun σ H R => ∃ ρ C Q, InBlk T scope (fun T' => WT T' elt ρ C Q) ∧ TTx T ρ C Q σ H R
theorem pt_someB (T : TX X) (scope : Scope) (elt : Expr) (s : Shared) (H : Hp) (Ca : Addr) (cl : List (Str × Addr)) (fp : List Addr) : PT (X.blk s H scope (compEnvC scope cl Ca X.env) fp) elt (someBT T scope elt) :=
  ⟨fun pins s' σ H' R I ⟨ρ, C, Q, h, H0, at_, k⟩ => (h s H Ca cl fp).run pins s' σ H' R I ⟨H0, at_.blk, k⟩⟩
theorem read_lc (own : List (Str × Nat)) (bd : Bind) (hv : ∀ i ∈ bd.slots, i ∈ own.map (·.2)) : ∀ σ H R, TEx T ρ C Q σ H R → tLc (TIx T ρ C fun ds P C1 => LcW T scope bd elt (own.map (·.2)) ρ P Q ds [] C1) (bd.g X.K) tYes (someB T scope elt) (own.map (·.2)) σ H R := by
  refine fun σ H R ⟨H0, at_, k⟩ => ⟨H0, at_, fun J ds P C1 H1 H01 p1 c1 y1 q1 L hL => ?_⟩
  have at1 := at_.step p1 c1
  refine ⟨fun j m H2 => m = ds.length - j ∧ j ≤ ds.length ∧ ∃ acc C2 H02, Way X H01 C1 H1 L acc H02 C2 H2 ∧ LcW T scope bd elt (own.map (·.2)) ρ P Q (ds.drop j) acc C2, ⟨_, rfl, Nat.zero_le _, [], C1, H01, way0 c1 hL, q1⟩, ?_⟩
  rintro j m H2 ⟨rfl, hj, acc, C2, H02, w2, q2⟩
  have hP : P C2 := by
    generalize ds.drop j = l at q2
    cases l with
    | nil => exact q2.1
    | cons d r => exact q2.1
  by_cases hlt : j < ds.length
  · rw [List.drop_eq_getElem_cons hlt] at q2
    obtain ⟨_, ρ', hb, qe⟩ := q2
    refine .inr ⟨y1.go j _ _ _ w2.st.base w2.c hP hlt, fun H3 => ∃ acc C3 H03, Way X H01 C1 H1 L acc H03 C3 H3 ∧ LcW T scope bd elt (own.map (·.2)) ρ P Q (ds.drop (j + 1)) acc C3, fun H3 ⟨acc, C3, H03, w3, q3⟩ => ⟨_, by omega, rfl, hlt, acc, C3, H03, w3, q3⟩, fun x H3 hy => ?_⟩
    obtain ⟨H03, p3, c3, r3⟩ := y1.yld j _ _ _ x H3 ds[j] w2.st.base w2.c hP (by simp [hlt]) hy
    have w3 := w2.step p3 c3
    have at3 := at1.step w3.st c3
    refine bind_to c3.same hb hv r3 (at3.wipe _).s (at3.wipe _).l fun σ' s' l' ew => ⟨by rw [ew, wipe_wipe], ρ', C2, _, qe, H03, ⟨at3.a, c3, s', l'⟩, fun v y C4 H4 H04 p4 c4 r4 ⟨hlen, q4⟩ => ?_⟩
    obtain ⟨vs, f1, f2, w5⟩ := (w3.step p4 c4).add hL r4
    exact ⟨vs, f1, by rw [f2]; exact Nat.lt_trans hlen (by decide), _, C4, H04, w5, q4⟩
  · have e : j = ds.length := by omega
    subst e
    rw [List.drop_length] at q2
    obtain ⟨H0', f1, f2, f3⟩ := w2.fin hL
    exact .inl ⟨y1.stop _ _ _ _ w2.st.base w2.c hP (Nat.le_refl _), k _ _ C2 H2 H0' (p1.trans c1 f1) f2 f3 q2.2⟩
theorem we_lc (own : List (Str × Nat)) (bd : Bind) (hc : X.calm = true) (hN : X.N.Nodup) (ok : BlkOk X.N X.env.scope scope own)
    (hg : ∀ (s : Shared) (H : Hp) (Ca : Addr) (cl : List (Str × Addr)) (fp : List Addr), PG (X.blk s H scope (compEnvC scope cl Ca X.env) fp) tg (bd.g X.K)) (hv : ∀ i ∈ bd.slots, i ∈ own.map (·.2))
    (h : WI T tg iter ρ C fun ds P C1 => LcW T scope bd elt (own.map (·.2)) ρ P Q ds [] C1) (hs : ∀ x, foldedSetIterable iter X.env x = pure x := by intro _; rfl) : WE T (.ListComp elt [⟨tg, iter, [], 0⟩] scope pos) ρ C Q := by
  exact PE.imp (pe_lc hc hN h ok hg (fun _ _ _ _ _ => pts_nil) (pe_someB T scope elt) hs) (read_lc own bd hv)
/-- name = [..] on one line -/
theorem ws_setLc {N : TEnds} {x : Str} {py spos : Pos} (own : List (Str × Nat)) (bd : Bind) (j : Nat) (hc : X.calm = true) (hN : X.N.Nodup) (hy : X.N[j]? = some x) (hyl : X.env.scope.names.lookup x = some .local)
    (hsw : swapsWith (.ListComp elt [⟨tg, iter, [], 0⟩] scope pos) (some (.Name x py)) spos.line X.env = pure true) (ok : BlkOk X.N X.env.scope scope own)
    (hg : ∀ (s : Shared) (H : Hp) (Ca : Addr) (cl : List (Str × Addr)) (fp : List Addr), PG (X.blk s H scope (compEnvC scope cl Ca X.env) fp) tg (bd.g X.K)) (hv : ∀ i ∈ bd.slots, i ∈ own.map (·.2))
    (h : WI T tg iter ρ C fun ds P C1 => LcW T scope bd elt (own.map (·.2)) ρ P (fun d C2 => N.nx (ρ.set j (some d)) C2) ds [] C1) (hs : ∀ x, foldedSetIterable iter X.env x = pure x := by intro _; rfl) : WS T (.Assign [.Name x py] (.ListComp elt [⟨tg, iter, [], 0⟩] scope pos) spos) ρ C N :=
  PS.imp (ps_setLc hc hN hy hyl hsw h ok hg (fun _ _ _ _ _ => pts_nil) (pe_someB T scope elt) hs) fun Dn σ H ⟨H0, at_, k⟩ => read_lc own bd hv σ H _ ⟨H0, at_, fun v d C1 H1 H01 p c r q =>
    (k.after p c).nx _ _ C1 H1 H01 (Stp.refl _ _ _) c (SlotsR.set j (at_.step p c).s r at_.l) (by rw [List.length_set, List.length_set]; exact at_.l) q⟩
theorem read_lc1 (own : List (Str × Nat)) (bd : Bind) (hv : ∀ i ∈ bd.slots, i ∈ own.map (·.2)) : ∀ σ H R, TEx T ρ C Q σ H R → tLc (TIx T ρ C fun ds P C1 => LcW1 T scope bd i elt (own.map (·.2)) ρ P Q ds [] C1) (bd.g X.K) (someBT T scope i) (someB T scope elt) (own.map (·.2)) σ H R := by
  refine fun σ H R ⟨H0, at_, k⟩ => ⟨H0, at_, fun J ds P C1 H1 H01 p1 c1 y1 q1 L hL => ?_⟩
  have at1 := at_.step p1 c1
  refine ⟨fun j m H2 => m = ds.length - j ∧ j ≤ ds.length ∧ ∃ acc C2 H02, Way X H01 C1 H1 L acc H02 C2 H2 ∧ LcW1 T scope bd i elt (own.map (·.2)) ρ P Q (ds.drop j) acc C2, ⟨_, rfl, Nat.zero_le _, [], C1, H01, way0 c1 hL, q1⟩, ?_⟩
  rintro j m H2 ⟨rfl, hj, acc, C2, H02, w2, q2⟩
  have hP : P C2 := by
    generalize ds.drop j = l at q2
    cases l with
    | nil => exact q2.1
    | cons d r => exact q2.1
  by_cases hlt : j < ds.length
  · rw [List.drop_eq_getElem_cons hlt] at q2
    obtain ⟨_, ρ', hb, qe⟩ := q2
    refine .inr ⟨y1.go j _ _ _ w2.st.base w2.c hP hlt, fun H3 => ∃ acc C3 H03, Way X H01 C1 H1 L acc H03 C3 H3 ∧ LcW1 T scope bd i elt (own.map (·.2)) ρ P Q (ds.drop (j + 1)) acc C3, fun H3 ⟨acc, C3, H03, w3, q3⟩ => ⟨_, by omega, rfl, hlt, acc, C3, H03, w3, q3⟩, fun x H3 hy => ?_⟩
    obtain ⟨H03, p3, c3, r3⟩ := y1.yld j _ _ _ x H3 ds[j] w2.st.base w2.c hP (by simp [hlt]) hy
    have w3 := w2.step p3 c3
    have at3 := at1.step w3.st c3
    refine bind_to c3.same hb hv r3 (at3.wipe _).s (at3.wipe _).l fun σ' s' l' ew => ⟨by rw [ew, wipe_wipe], ρ', C2, _, qe, H03, ⟨at3.a, c3, s', l'⟩, fun b C5 H5 H05 p5 c5 q5 => ?_⟩
    have w5 := w3.step p5 c5
    have at5 : At T H05 ρ' C5 σ' H5 := ⟨(at1.step w5.st c5).a, c5, SlotsR.mono s' p5.base, l'⟩
    cases b with
    | false => exact ⟨acc, C5, H05, w5, q5⟩
    | true =>
      refine ⟨ρ', C5, _, q5, H05, at5, fun v y C4 H4 H04 p4 c4 r4 ⟨hlen, q4⟩ => ?_⟩
      obtain ⟨vs, f1, f2, w6⟩ := (w5.step p4 c4).add hL r4
      exact ⟨vs, f1, by rw [f2]; exact Nat.lt_trans hlen (by decide), _, C4, H04, w6, q4⟩
  · have e : j = ds.length := by omega
    subst e
    rw [List.drop_length] at q2
    obtain ⟨H0', f1, f2, f3⟩ := w2.fin hL
    exact .inl ⟨y1.stop _ _ _ _ w2.st.base w2.c hP (Nat.le_refl _), k _ _ C2 H2 H0' (p1.trans c1 f1) f2 f3 q2.2⟩
theorem we_lc1 (own : List (Str × Nat)) (bd : Bind) (hc : X.calm = true) (hN : X.N.Nodup) (ok : BlkOk X.N X.env.scope scope own)
    (hg : ∀ (s : Shared) (H : Hp) (Ca : Addr) (cl : List (Str × Addr)) (fp : List Addr), PG (X.blk s H scope (compEnvC scope cl Ca X.env) fp) tg (bd.g X.K)) (hv : ∀ i ∈ bd.slots, i ∈ own.map (·.2))
    (h : WI T tg iter ρ C fun ds P C1 => LcW1 T scope bd i elt (own.map (·.2)) ρ P Q ds [] C1) (hs : ∀ x, foldedSetIterable iter X.env x = pure x := by intro _; rfl) : WE T (.ListComp elt [⟨tg, iter, [i], 0⟩] scope pos) ρ C Q := by
  exact PE.imp (pe_lc hc hN h ok hg (fun s H Ca cl fp => pts_one (pt_someB T scope i s H Ca cl fp)) (pe_someB T scope elt) hs) (read_lc1 own bd hv)
/-- name = [..] on one line -/
theorem ws_setLc1 {N : TEnds} {x : Str} {py spos : Pos} (own : List (Str × Nat)) (bd : Bind) (j : Nat) (hc : X.calm = true) (hN : X.N.Nodup) (hy : X.N[j]? = some x) (hyl : X.env.scope.names.lookup x = some .local)
    (hsw : swapsWith (.ListComp elt [⟨tg, iter, [i], 0⟩] scope pos) (some (.Name x py)) spos.line X.env = pure true) (ok : BlkOk X.N X.env.scope scope own)
    (hg : ∀ (s : Shared) (H : Hp) (Ca : Addr) (cl : List (Str × Addr)) (fp : List Addr), PG (X.blk s H scope (compEnvC scope cl Ca X.env) fp) tg (bd.g X.K)) (hv : ∀ i ∈ bd.slots, i ∈ own.map (·.2))
    (h : WI T tg iter ρ C fun ds P C1 => LcW1 T scope bd i elt (own.map (·.2)) ρ P (fun d C2 => N.nx (ρ.set j (some d)) C2) ds [] C1) (hs : ∀ x, foldedSetIterable iter X.env x = pure x := by intro _; rfl) : WS T (.Assign [.Name x py] (.ListComp elt [⟨tg, iter, [i], 0⟩] scope pos) spos) ρ C N :=
  PS.imp (ps_setLc hc hN hy hyl hsw h ok hg (fun s H Ca cl fp => pts_one (pt_someB T scope i s H Ca cl fp)) (pe_someB T scope elt) hs) fun Dn σ H ⟨H0, at_, k⟩ => read_lc1 own bd hv σ H _ ⟨H0, at_, fun v d C1 H1 H01 p c r q =>
    (k.after p c).nx _ _ C1 H1 H01 (Stp.refl _ _ _) c (SlotsR.set j (at_.step p c).s r at_.l) (by rw [List.length_set, List.length_set]; exact at_.l) q⟩
end
end
end Tr

set_option maxHeartbeats 2000000
namespace Tr
open PySem L2 PySem.Spec PyProof.Rows

section
variable {X : Cx} {T : TX X} {ρ : Rho} {C : Cells} {Q : QE} {e a b c o : Expr} {pos p apos cpos : Pos} {es : List Expr} {d d1 d2 : D} {ds ds2 : List D}

/-! ### ints -/
theorem ow_int0 {f : Value → Value → Sem Value} {g : Int → Int → V} {i j : Int} (gd : D) (ho : OpR X f (rI0 g)) (hg : ∀ H0 : Hp, Rep X.K H0 gd (g i j)) (q : Q gd C) : OW T f (.int i) (.int j) C Q :=
  ow_look ho (fun x y H H0 c r1 r2 => by cases r1; cases r2; exact ⟨g i j, hg H0, fun R k => ⟨i, j, rfl, rfl, k⟩⟩) q
theorem ow_intC {f : Value → Value → Sem Value} {P : Int → Int → Prop} {g : Int → Int → V} {i j : Int} (gd : D) (ho : OpR X f (rI P g)) (hp : P i j) (hg : ∀ H0 : Hp, Rep X.K H0 gd (g i j)) (q : Q gd C) : OW T f (.int i) (.int j) C Q :=
  ow_look ho (fun x y H H0 c r1 r2 => by cases r1; cases r2; exact ⟨g i j, hg H0, fun R k => ⟨i, j, rfl, rfl, hp, k⟩⟩) q
theorem ow_add {i j : Int} (q : Q (.int (i + j)) C) : OW T (binaryOp .Add) (.int i) (.int j) C Q := ow_int0 (.int (i + j)) op_add (fun _ => rfl) q
theorem ow_sub {i j : Int} (q : Q (.int (i - j)) C) : OW T (binaryOp .Sub) (.int i) (.int j) C Q := ow_int0 (.int (i - j)) op_sub (fun _ => rfl) q
theorem ow_mul {i j : Int} (h : CMul i j) (q : Q (.int (i * j)) C) : OW T (binaryOp .Mult) (.int i) (.int j) C Q := ow_intC (.int (i * j)) op_mul h (fun _ => rfl) q
theorem ow_fdiv {i j : Int} (h : 0 < j ∧ j < 1073741824) (q : Q (.int (i / j)) C) : OW T (binaryOp .FloorDiv) (.int i) (.int j) C Q := ow_intC (.int (i / j)) op_fdiv h (fun _ => rfl) q
theorem ow_mod {i j : Int} (h : 0 < j) (q : Q (.int (i % j)) C) : OW T (binaryOp .Mod) (.int i) (.int j) C Q := ow_intC (.int (i % j)) op_mod h (fun _ => rfl) q
theorem ow_pow {i j : Int} (h : CPow i j) (q : Q (.int (i ^ j.toNat)) C) : OW T (binaryOp .Pow) (.int i) (.int j) C Q := ow_intC (.int (i ^ j.toNat)) op_pow h (fun _ => rfl) q
theorem ow_lt {i j : Int} (q : Q (.bl (decide (i < j))) C) : OW T (compareOp .Lt) (.int i) (.int j) C Q := ow_int0 (.bl (decide (i < j))) op_lt (fun _ => rfl) q
theorem ow_le {i j : Int} (q : Q (.bl (decide (i ≤ j))) C) : OW T (compareOp .LtE) (.int i) (.int j) C Q := ow_int0 (.bl (decide (i ≤ j))) op_le (fun _ => rfl) q
theorem ow_gt {i j : Int} (q : Q (.bl (decide (j < i))) C) : OW T (compareOp .Gt) (.int i) (.int j) C Q := ow_int0 (.bl (decide (j < i))) op_gt (fun _ => rfl) q
theorem ow_ge {i j : Int} (q : Q (.bl (decide (j ≤ i))) C) : OW T (compareOp .GtE) (.int i) (.int j) C Q := ow_int0 (.bl (decide (j ≤ i))) op_ge (fun _ => rfl) q
theorem we_neg {i : Int} (h : WE T a ρ C fun d C1 => ∃ i, d = .int i ∧ Q (.int (-i)) C1) : WE T (.UnaryOp .USub a pos) ρ C Q :=
  PE.imp (pe_un un_neg h) fun σ H R ⟨H0, at_, k⟩ => ⟨H0, at_, fun v d C1 H1 H01 p1 c1 r1 ⟨i, e1, q⟩ => by subst e1; cases r1; exact ⟨i, rfl, k _ (.int (-i)) C1 H1 H01 p1 c1 rfl q⟩⟩
/-- a op1 b op2 c -/
theorem wt_chain {op op' : CmpOp} {Q : QT} (h : WE T a ρ C fun d1 C1 => WE T b ρ C1 fun d2 C2 => OW T (compareOp op) d1 d2 C2 fun d C3 => ∃ k, d = .bl k ∧ if k = true then WE T c ρ C3 (fun d3 C4 => OW T (compareOp op') d2 d3 C4 fun d C5 => ∃ k, d = .bl k ∧ Q k C5) else Q false C3)
    (hc : PT X (.Compare a [op, op'] [b, c] pos) (tB (tChain (someO T (compareOp op)) (someO T (compareOp op')) (TEx T ρ C fun d1 C1 => WE T b ρ C1 fun d2 C2 => OW T (compareOp op) d1 d2 C2 fun d C3 => ∃ k, d = .bl k ∧ if k = true then WE T c ρ C3 (fun d3 C4 => OW T (compareOp op') d2 d3 C4 fun d C5 => ∃ k, d = .bl k ∧ Q k C5) else Q false C3) (someE T ρ b) (someE T ρ c)))) : WT T (.Compare a [op, op'] [b, c] pos) ρ C Q :=
  PT.imp hc fun σ H R ⟨H0, at_, k⟩ => ⟨H0, at_, fun v1 d1 C1 H1 H01 p1 c1 r1 q1 => by
    have at1 := at_.step p1 c1
    refine ⟨C1, _, q1, H01, at1, fun v2 d2 C2 H2 H02 p2 c2 r2 q2 => ?_⟩
    have at2 := at1.step p2 c2
    have r1' := r1.mono p2.base
    refine ⟨d1, d2, C2, _, q2, H02, c2, r1', r2, fun v3 d3 C3 H3 H03 p3 c3 r3 ⟨j, e3, q3⟩ => ?_⟩
    subst e3; cases r3
    have at3 := at2.step p3 c3
    refine ⟨j, rfl, ?_⟩
    cases j with
    | false => exact ⟨false, rfl, k false C3 H3 H03 ((p1.trans c1 p2).trans c2 p3) c3 q3⟩
    | true =>
      refine ⟨C3, _, q3, H03, at3, fun v4 d4 C4 H4 H04 p4 c4 r4 q4 => ⟨d2, d4, C4, _, q4, H04, c4, (r2.mono p3.base).mono p4.base, r4, fun v5 d5 C5 H5 H05 p5 c5 r5 ⟨j, e5, q5⟩ => ?_⟩⟩
      subst e5; cases r5
      exact ⟨j, rfl, k j C5 H5 H05 ((((p1.trans c1 p2).trans c2 p3).trans c3 p4).trans c4 p5) c5 q5⟩⟩

/-! ### data that == reads -/
mutual
def toPy : D → PyData
  | .non => .none
  | .bl b => .bool b
  | .int i => .int i
  | .str s => .str s
  | .lst ds => .list (toPys ds)
  | .tup ds => .tuple (toPys ds)
  | _ => .none
def toPys : List D → List PyData
  | [] => []
  | d :: ds => toPy d :: toPys ds
end
mutual
def plainD : D → Bool
  | .non | .bl _ | .int _ | .str _ => true
  | .lst ds => plainDs ds
  | .tup ds => plainDs ds
  | _ => false
def plainDs : List D → Bool
  | [] => true
  | d :: ds => plainD d && plainDs ds
end
mutual
theorem rep_dp {K : W.Frag} {H0 H : Hp} (c : Same H0 H) : ∀ {d : D} {v : V}, plainD d = true → Rep K H0 d v → Dp K H v (toPy d)
  | .non, _, _, h => by cases h; exact .non
  | .bl _, _, _, h => by cases h; exact .bl _
  | .int _, _, _, h => by cases h; exact .int _
  | .str _, _, _, h => by cases h; exact .str _
  | .lst _, _, hp, ⟨a, vs, h1, h2, h3⟩ => by subst h1; exact .lst (Same.sqL c h2) (reps_dp c hp h3)
  | .tup _, _, hp, ⟨a, vs, h1, h2, h3⟩ => by subst h1; exact .tup (Same.sqT c h2) (reps_dp c hp h3)
theorem reps_dp {K : W.Frag} {H0 H : Hp} (c : Same H0 H) : ∀ {ds : List D} {vs : List V}, plainDs ds = true → Reps K H0 ds vs → DpAll K H vs (toPys ds)
  | [], _, _, h => by cases h; exact .nil
  | d :: ds, _, hp, ⟨v, r, h1, h2, h3⟩ => by
    subst h1
    have hp' : (plainD d && plainDs ds) = true := hp
    rw [Bool.and_eq_true] at hp'
    exact .cons (rep_dp c hp'.1 h2) (reps_dp c hp'.2 h3)
end
/-- d, as == reads it -/
def PyR (C : Cells) (d : D) (p : PyData) : Prop := (plainD d = true ∧ p = toPy d) ∨ ∃ a ds, d = .raw (.ref a) ∧ (a, Cell.lst ds) ∈ C ∧ plainDs ds = true ∧ p = .list (toPys ds)
theorem pyR_t (h : plainD d = true) : PyR C d (toPy d) := .inl ⟨h, rfl⟩
theorem pyR_c {i : Nat} {a : Addr} (h : C[i]? = some (a, .lst ds)) (hp : plainDs ds = true) : PyR C (.raw (.ref a)) (.list (toPys ds)) := .inr ⟨a, ds, rfl, List.mem_iff_getElem?.mpr ⟨i, h⟩, hp, rfl⟩
theorem pyR_dp {K : W.Frag} {H0 H : Hp} {v : V} {p : PyData} (c : CellsR K H0 C H) (r : Rep K H0 d v) (h : PyR C d p) : Dp K H v p := by
  rcases h with ⟨h1, rfl⟩ | ⟨a, ds, rfl, hm, hp, rfl⟩
  · exact rep_dp c.same h1 r
  · obtain ⟨vs, g1, g2⟩ := c.ok a _ hm
    obtain rfl : v = .ref a := r
    exact .lst (.inl (.inl g1)) (reps_dp c.same hp g2)
theorem ow_eq {p1 p2 : PyData} (hu : X.A.units + 64 < cLine) (h1 : PyR C d1 p1) (h2 : PyR C d2 p2) (s1 : SeqAt.shaped p1 = true) (s2 : SeqAt.shaped p2 = true) (q : Q (.bl (PyData.eqv p1 p2)) C) : OW T (compareOp .Eq) d1 d2 C Q :=
  ow_look (d := .bl (PyData.eqv p1 p2)) (op_eqD hu) (fun x y H H0 c r1 r2 => ⟨.bl (PyData.eqv p1 p2), rfl, fun R k => ⟨p1, p2, pyR_dp c r1 h1, pyR_dp c r2 h2, s1, s2, k⟩⟩) q
theorem ow_ne {p1 p2 : PyData} (hu : X.A.units + 64 < cLine) (h1 : PyR C d1 p1) (h2 : PyR C d2 p2) (s1 : SeqAt.shaped p1 = true) (s2 : SeqAt.shaped p2 = true) (q : Q (.bl (!PyData.eqv p1 p2)) C) : OW T (compareOp .NotEq) d1 d2 C Q :=
  ow_look (d := .bl (!PyData.eqv p1 p2)) (op_neD hu) (fun x y H H0 c r1 r2 => ⟨.bl (!PyData.eqv p1 p2), rfl, fun R k => ⟨p1, p2, pyR_dp c r1 h1, pyR_dp c r2 h2, s1, s2, k⟩⟩) q
/-- texts -/
theorem ow_eq_str {x y : Str} (q : Q (.bl (decide (x = y))) C) : OW T (compareOp .Eq) (.str x) (.str y) C Q :=
  ow_look (d := .bl (decide (x = y))) op_eq (fun u v H H0 c r1 r2 => by cases r1; cases r2; exact ⟨.bl (decide (x = y)), rfl, fun R k => ⟨rfl, by
    rw [show decide (V.str x = V.str y) = decide (x = y) by by_cases e : x = y <;> simp [e]]; exact k⟩⟩) q
theorem ow_ne_str {x y : Str} (q : Q (.bl (!decide (x = y))) C) : OW T (compareOp .NotEq) (.str x) (.str y) C Q :=
  ow_look (d := .bl (!decide (x = y))) op_ne (fun u v H H0 c r1 r2 => by cases r1; cases r2; exact ⟨.bl (!decide (x = y)), rfl, fun R k => ⟨rfl, by
    rw [show decide (V.str x = V.str y) = decide (x = y) by by_cases e : x = y <;> simp [e]]; exact k⟩⟩) q
theorem ow_eq_int {x y : Int} (q : Q (.bl (decide (x = y))) C) : OW T (compareOp .Eq) (.int x) (.int y) C Q :=
  ow_look (d := .bl (decide (x = y))) op_eq (fun u v H H0 c r1 r2 => by cases r1; cases r2; exact ⟨.bl (decide (x = y)), rfl, fun R k => ⟨rfl, by
    rw [show decide (V.int x = V.int y) = decide (x = y) by by_cases e : x = y <;> simp [e]]; exact k⟩⟩) q
theorem ow_ne_int {x y : Int} (q : Q (.bl (!decide (x = y))) C) : OW T (compareOp .NotEq) (.int x) (.int y) C Q :=
  ow_look (d := .bl (!decide (x = y))) op_ne (fun u v H H0 c r1 r2 => by cases r1; cases r2; exact ⟨.bl (!decide (x = y)), rfl, fun R k => ⟨rfl, by
    rw [show decide (V.int x = V.int y) = decide (x = y) by by_cases e : x = y <;> simp [e]]; exact k⟩⟩) q
/-- is None, is not None -/
def isNon : D → Bool
  | .non => true
  | _ => false
theorem isNon_v {K : W.Frag} {H0 : Hp} {v : V} (r : Rep K H0 d v) (hr : ∀ w, d ≠ .raw w) : decide (v = .non) = isNon d := by
  cases d with
  | non => cases r; rfl
  | bl b => cases r; rfl
  | int i => cases r; rfl
  | str s => cases r; rfl
  | lst ds => obtain ⟨a, vs, h, _⟩ := r; subst h; rfl
  | tup ds => obtain ⟨a, vs, h, _⟩ := r; subst h; rfl
  | dic ks ds => obtain ⟨a, vs, h, _⟩ := r; subst h; rfl
  | ins Cl ns ds => obtain ⟨a, dx, vs, h, _⟩ := r; subst h; rfl
  | raw w => exact absurd rfl (hr w)
theorem ow_isN (hr : ∀ w, d ≠ .raw w) (q : Q (.bl (isNon d)) C) : OW T (compareOp .Is) d .non C Q :=
  ow_look (d := .bl (isNon d)) op_isN (fun x y H H0 c r1 r2 => by cases r2; exact ⟨.bl (isNon d), rfl, fun R k => ⟨rfl, by rw [isNon_v r1 hr]; exact k⟩⟩) q
theorem ow_isNotN (hr : ∀ w, d ≠ .raw w) (q : Q (.bl (!isNon d)) C) : OW T (compareOp .IsNot) d .non C Q :=
  ow_look (d := .bl (!isNon d)) op_notN (fun x y H H0 c r1 r2 => by cases r2; exact ⟨.bl (!isNon d), rfl, fun R k => ⟨rfl, by rw [isNon_v r1 hr]; exact k⟩⟩) q

/-! ### texts -/
theorem ow_add_str {x y : Str} (h : x.length + y.length ≤ 100000) (q : Q (.str (x ++ y)) C) : OW T (binaryOp .Add) (.str x) (.str y) C Q :=
  ow_look (d := .str (x ++ y)) op_add_str (fun u v H H0 c r1 r2 => by cases r1; cases r2; exact ⟨.str (x ++ y), rfl, fun R k => ⟨x, y, rfl, rfl, Nat.le_trans h (by decide), k⟩⟩) q
theorem sw_str {s : Str} {lo hi : Option Int} (h : s.length ≤ 100000) (q : Q (.str (cutS s lo hi)) C) : SW T (.str s) lo hi C Q :=
  SlR.imp sl_str fun x l u H R ⟨e1, e2, H0, c, r1, k⟩ => by
    subst e1; subst e2; cases r1
    exact ⟨s, rfl, Nat.le_trans h (by decide), k.here (d := .str (cutS s l u)) c rfl q⟩
theorem sw_tup {lo hi : Option Int} (q : Q (.tup (cutD ds lo hi)) C) : SW T (.tup ds) lo hi C Q :=
  SlR.imp sl_tupA fun x l u H R ⟨e1, e2, H0, c, r1, k⟩ => by
    subst e1; subst e2
    obtain ⟨a, vs, g1, g2, g3⟩ := id r1
    have hl := g3.length
    refine ⟨a, vs, g1, Same.sqT c.same g2, fun hw => ?_, fun _ z hz => ?_⟩
    · have e : cutD ds l u = ds := by
        unfold cutD
        rw [hl, hw.1, hw.2, ← hl]; simp
      rw [e] at q
      subst g1
      exact k.here (d := .tup ds) c r1 q
    · obtain ⟨p2, c2⟩ := stp_new (o := .tup (cutV vs l u)) c hz
      exact k _ (.tup (cutD ds l u)) C _ _ p2 c2 ⟨z, _, rfl, .inl (.inl upd_same), (reps_cut g3 l u).mono p2.base⟩ q
theorem cw_str_int {i : Int} (h : i.natAbs.log2 < 1920) (q : Q (.str (toString i)) C) : CW T (.type "str") [.int i] C Q :=
  cw_look (d := .str (toString i)) call_str_int (fun xs H H0 c r => by
    obtain ⟨v, e1, r1⟩ := r.one
    cases r1; subst e1
    exact ⟨.str (toString i), rfl, fun R k => ⟨i, rfl, h, k⟩⟩) q
theorem cw_str_str {s : Str} (q : Q (.str s) C) : CW T (.type "str") [.str s] C Q :=
  cw_look (d := .str s) SkE.call_str_str (fun xs H H0 c r => by
    obtain ⟨v, e1, r1⟩ := r.one
    cases r1; subst e1
    exact ⟨.str s, rfl, fun R k => ⟨s, rfl, k⟩⟩) q
theorem cw_int_str {s : Str} {n : Int} (h : intText? s = some n) (hl : s.length ≤ 640) (q : Q (.int n) C) : CW T (.type "int") [.str s] C Q :=
  cw_look (d := .int n) call_int_str (fun xs H H0 c r => by
    obtain ⟨v, e1, r1⟩ := r.one
    cases r1; subst e1
    exact ⟨.int n, rfl, fun R k => ⟨s, n, rfl, h, hl, k⟩⟩) q
theorem cw_int {i : Int} (q : Q (.int i) C) : CW T (.type "int") [.int i] C Q :=
  cw_look (d := .int i) call_int1 (fun xs H H0 c r => by
    obtain ⟨v, e1, r1⟩ := r.one
    cases r1; subst e1
    exact ⟨.int i, rfl, fun R k => .inl ⟨i, rfl, k⟩⟩) q
theorem cw_int_bl {k : Bool} (q : Q (.int (if k then 1 else 0)) C) : CW T (.type "int") [.bl k] C Q :=
  cw_look (d := .int (if k then 1 else 0)) call_int1 (fun xs H H0 c r => by
    obtain ⟨v, e1, r1⟩ := r.one
    cases r1; subst e1
    exact ⟨.int (if k then 1 else 0), rfl, fun R q => .inr ⟨k, rfl, q⟩⟩) q
theorem cw_abs {i : Int} (q : Q (.int (if i < 0 then -i else i)) C) : CW T (.builtin "abs") [.int i] C Q :=
  cw_look (d := .int (if i < 0 then -i else i)) call_abs (fun xs H H0 c r => by
    obtain ⟨v, e1, r1⟩ := r.one
    cases r1; subst e1
    exact ⟨.int (if i < 0 then -i else i), rfl, fun R k => ⟨i, rfl, k⟩⟩) q
/-- all, any of a list of bools -/
theorem reps_bls {K : W.Frag} {H0 : Hp} : ∀ {bs : List Bool} {vs : List V}, Reps K H0 (bs.map D.bl) vs → vs = bs.map V.bl
  | [], _, h => h
  | x :: r, _, ⟨_, _, h1, h2, h3⟩ => by subst h1; rw [reps_bls h3, h2]; rfl
theorem cw_all {bs : List Bool} (hc : X.calm = true) (q : Q (.bl (bs.all id)) C) : CW T (.builtin "all") [.lst (bs.map D.bl)] C Q :=
  cw_look (d := .bl (bs.all id)) (cr_all hc) (fun xs H H0 c r => by
    obtain ⟨v, e1, a, vs, e2, h2, h3⟩ := r.one
    subst e1; subst e2
    rw [reps_bls h3] at h2
    exact ⟨.bl (bs.all id), rfl, fun R k => ⟨a, bs, rfl, Same.sqL c.same h2, k⟩⟩) q
theorem cw_any {bs : List Bool} (hc : X.calm = true) (q : Q (.bl (bs.any id)) C) : CW T (.builtin "any") [.lst (bs.map D.bl)] C Q :=
  cw_look (d := .bl (bs.any id)) (cr_any hc) (fun xs H H0 c r => by
    obtain ⟨v, e1, a, vs, e2, h2, h3⟩ := r.one
    subst e1; subst e2
    rw [reps_bls h3] at h2
    exact ⟨.bl (bs.any id), rfl, fun R k => ⟨a, bs, rfl, Same.sqL c.same h2, k⟩⟩) q
end
end Tr

set_option maxHeartbeats 2000000
namespace Tr
open PySem L2 PySem.Spec PyProof.Rows

/-! ### x != y by the class's own __eq__ -/
section
open Builtin
variable {prog : Program} {w : World} {A : Around} {E : Value → Shared → Prop} {s : Shared} {K : W.Frag} {x C f : Addr} {ox : Obj} {od : Option Obj} {b tb : Value}
theorem ne_call {Q : Value → Shared → Prop} (hu : A.in1.units < cLine) (X : K.In s.heap) (I : W.InstAt s.heap x ox C od) (ho : W.mroIn K C (.type "object") = some true) (hs : W.findIn K (.ref C) "__eq__" = some (some (.ref f))) (hf : W.isFn K (.ref f) = true)
    (h : wpAny (model prog w) A.in1 (call (.ref f) [.ref x, b]) (fun v s' => ∃ k, v = .bool k ∧ Q (.bool (!k)) s') E s) : wpAny (model prog w) A (call (.builtin "object.__ne__") [.ref x, b]) Q E s := by
  refine wpAny_call (codeAny_call_builtin PySem.F.cmp_object.ne.plain PySem.F.cmpEntry_ne ?_)
  have L0 := I.type (M := model prog w)
  have L1 := W.looks_mroIn (M := model prog w) X ho
  have chk : ∀ {P : Unit → Shared → Prop} {A : Around} {E : Value → Shared → Prop}, P () s → wpAny (model prog w) A (checkBuiltinCall "object.__ne__" ⟨[.ref x, b], []⟩) P E s := fun {P A E} hp => by
    have ha := PySem.F.cmpArgs_ne (.ref x) b
    unfold argsOk at ha
    unfold checkBuiltinCall
    simp only [PySem.F.cmpKind_ne, PySem.F.cmpSplit_ne]
    unfold isInstance
    repeat (first | (with_reducible refine L0.here ?_) | (with_reducible refine L1.here ?_) | wp_step)
    exact hp
  refine chk ?_
  unfold Builtin.«object.__ne__»
  repeat (first
    | with_reducible refine wpAny_cRoomFor hu ?_
    | (refine wpAny_bind (m := callSpecialIfBound? (.ref x) (Str.ofString "__eq__") [b]) (W.ifBound_K X I hs hf (wpAny_mono h (fun r s' hr => ?_) fun _ _ y => y)))
    | wp_step)
  obtain ⟨k, rfl, hq⟩ := hr
  repeat (first | exact hq | exact wpAny_pure hq | exact wpAny_truthy_bool hq | (refine wpAny_bind (m := truthy (.bool _)) (wpAny_truthy_bool ?_)) | wp_step)
theorem ne_K {Q : Value → Shared → Prop} (hu : A.in1.units < cLine) (X : K.In s.heap) (I : W.InstAt s.heap x ox C od) (hb : W.Looks (model prog w) s.heap (typeOf b) tb) (hn : W.notFirst K C tb = true) (ho : W.mroIn K C (.type "object") = some true)
    (hne : W.findIn K (.ref C) "__ne__" = some (some (.builtin "object.__ne__"))) (hs : W.findIn K (.ref C) "__eq__" = some (some (.ref f))) (hf : W.isFn K (.ref f) = true)
    (h : wpAny (model prog w) A.in1 (call (.ref f) [.ref x, b]) (fun v s' => ∃ k, v = .bool k ∧ Q (.bool (!k)) s') E s) : wpAny (model prog w) A (richCompare .NotEq (.ref x) b) Q E s := by
  have one : wpAny (model prog w) A (tryCompare (.ref x) "__ne__" b) (fun r s' => ∃ v, r = some v ∧ Q v s') E s := by
    have bd := PySem.F.cmp_object.ne.bind (.ref x)
    unfold tryCompare
    simp only [callSpecialIfBound?, bindSpecialIfBound?]
    refine wpAny_bind (wpAny_holding (wpAny_bind (wpAny_bind (wpAny_bind (I.type.here ((W.looks_findIn X hne).here ?_))))))
    dsimp only
    rw [bd]
    refine wpAny_bind (wpAny_askSetting (wpAny_ite ?_))
    have core : wpAny (model prog w) A (call (.builtin "object.__ne__") [.ref x, b]) (fun v s' => ∃ k, v = .bool k ∧ Q (.bool k) s') E s := ne_call hu X I ho hs hf (wpAny_mono h (fun v s' ⟨k, e, q⟩ => ⟨k, e, _, rfl, q⟩) fun _ _ y => y)
    split
    · refine wpAny_bind (wpAny_pure (wpAny_pure ?_))
      show wpAny _ _ (call (.builtin "object.__ne__") ([.ref x] ++ [b]) >>= fun v => pure (some v)) _ _ _
      exact wpAny_bind (wpAny_mono core (fun v s' ⟨k, e, q⟩ => by subst e; exact wpAny_pure (wpAny_pure ⟨_, rfl, q⟩)) fun _ _ h' => h')
    · refine wpAny_tryCatch (wpAny_bind (wpAny_pure (wpAny_pure ?_)))
      show wpAny _ _ (call (.builtin "object.__ne__") ([.ref x] ++ [b]) >>= fun v => pure (some v)) _ _ _
      exact wpAny_bind (wpAny_mono core (fun v s' ⟨k, e, q⟩ => by subst e; exact wpAny_pure (wpAny_pure ⟨_, rfl, q⟩)) fun _ _ h' => h')
  unfold richCompare
  simp only [oneThing_ref]
  refine wpAny_holding (wpAny_bind (wpAny_cRoomFor (Nat.lt_of_succ_lt hu) ?_))
  refine wpAny_bind (I.type.here (wpAny_bind (hb.here ?_)))
  split
  · rename_i q
    have e : W.subIn K tb (.ref C) = some false := by
      rcases Bool.or_eq_true_iff.mp hn with e | e
      · rw [beq_iff_eq.mp e] at q; simp at q
      · exact beq_iff_eq.mp e
    refine wpAny_bind ((W.looks_subIn X e).here ?_)
    simp only [Bool.false_eq_true, if_false]
    refine wpAny_bind (wpAny_mono one (fun r s' z => ?_) fun _ _ e => e)
    obtain ⟨v, rfl, hq⟩ := z
    exact wpAny_pure hq
  · refine wpAny_bind (wpAny_pure ?_)
    simp only [Bool.false_eq_true, if_false]
    refine wpAny_bind (wpAny_mono one (fun r s' z => ?_) fun _ _ e => e)
    obtain ⟨v, rfl, hq⟩ := z
    exact wpAny_pure hq
end

/-! ### types -/
theorem in1_G {k : Nat} {A : Around} (r : RoomG (k + 1) A) : RoomG k A.in1 := ⟨r.rm.in1, r.gd⟩
/-- what isinstance asks of an own class -/
structure ClsI (K : W.Frag) (Cl : Addr) : Prop where
  c : Cls K Cl
  ca : W.findIn K (.ref Cl) "__class__" = some (some (.builtin "object.__class__"))
  cn : W.specialIn K (.builtin "object.__class__") "__get__" = some (some (.builtin "getset_descriptor.__get__"))
  ct : W.takesIn K (.builtin "object.__class__") = some true
  cm : W.mroIn K Cl (.type "object") = some true
inductive TyD (K : W.Frag) (C : Cells) : D → Value → Prop
  | non : TyD K C .non (.type "NoneType")
  | bl (b) : TyD K C (.bl b) (.type "bool")
  | int (i) : TyD K C (.int i) (.type "int")
  | str (s) : TyD K C (.str s) (.type "str")
  | lst (ds) : TyD K C (.lst ds) (.type "list")
  | tup (ds) : TyD K C (.tup ds) (.type "tuple")
  | ins {Cl ns ds} (h : ClsI K Cl) : TyD K C (.ins Cl ns ds) (.ref Cl)
  | cl {a ds} (h : (a, Cell.lst ds) ∈ C) : TyD K C (.raw (.ref a)) (.type "list")
  | ci {a Cl ns ds} (h : (a, Cell.ins Cl ns ds) ∈ C) (hc : ClsI K Cl) : TyD K C (.raw (.ref a)) (.ref Cl)
theorem rd_tyL {K : W.Frag} {H : Hp} {a : Addr} {vs : List V} (h : SqL K H a vs) : TyX K H (.ref a) (.type "list") := by
  rcases h with (h | ⟨o, h⟩) | ⟨o, its, n, h1, h2, _⟩
  · exact .base (.lst h)
  · exact .base (.frz h)
  · exact .kList h1 h2
theorem rd_tyT {K : W.Frag} {H : Hp} {a : Addr} {vs : List V} (h : SqT K H a vs) : TyX K H (.ref a) (.type "tuple") := by
  rcases h with (h | ⟨o, h⟩) | ⟨o, its, n, h1, h2, _⟩
  · exact .base (.tup h)
  · exact .fTuple h
  · exact .kTuple h1 h2
theorem ty_at {K : W.Frag} {H0 H : Hp} {C : Cells} {d : D} {v : V} {t : Value} (c : CellsR K H0 C H) (r : Rep K H0 d v) (h : TyD K C d t) : TyX K H v t := by
  cases h with
  | non => cases r; exact .base .non
  | bl b => cases r; exact .base (.bl b)
  | int b => cases r; exact .base (.int b)
  | str b => cases r; exact .base (.str b)
  | lst ds => obtain ⟨a, vs, e, h, _⟩ := r; subst e; exact rd_tyL (Same.sqL c.same h)
  | tup ds => obtain ⟨a, vs, e, h, _⟩ := r; subst e; exact rd_tyT (Same.sqT c.same h)
  | ins h => obtain ⟨a, dx, vs, e, h1, _⟩ := r; subst e; exact .base (.ins (c.same _ _ h1) h.c h.ca h.cn h.ct h.cm)
  | cl hm => cases r; obtain ⟨vs, e, _⟩ := c.ok _ _ hm; exact .base (.lst e)
  | ci hm h => cases r; obtain ⟨dx, vs, e, _⟩ := c.ok _ _ hm; exact .base (.ins e h.c h.ca h.cn h.ct h.cm)
/-- a class among data -/
inductive ClsD : D → Value → Prop
  | ty (n : String) : ClsD (.raw (.ty n)) (.type n)
  | own (Cl : Addr) : ClsD (.raw (.ref Cl)) (.ref Cl)
theorem cls_at {K : W.Frag} {H0 : Hp} {d : D} {v : V} {u : Value} (r : Rep K H0 d v) (h : ClsD d u) : ClsV v u := by
  cases h with
  | ty n => cases r; exact .ty n
  | own C => cases r; exact .own C
theorem clss_at {K : W.Frag} {H0 : Hp} : ∀ {ds : List D} {vs : List V} {us : List Value}, Reps K H0 ds vs → Paired ClsD ds us → Paired ClsV vs us
  | [], _, _, r, .nil => by cases r; exact .nil
  | d :: ds, _, _, ⟨v, vs, e, r1, r2⟩, .cons h t => by subst e; exact .cons (cls_at r1 h) (clss_at r2 t)

section
variable {X : Cx} {T : TX X} {ρ : Rho} {C : Cells} {Q : QE} {e a b c o : Expr} {pos p apos cpos : Pos} {es : List Expr} {d d1 d2 : D} {ds ds2 : List D}
/-- a built-in's name as a value -/
theorem we_ty {x : Str} {n : String} (hg : Gl X x) (hm : X.mg x = none) (hv : bootBuiltins x = some (.type n)) (q : Q (.raw (.ty n)) C) (hn : x ≠ "__name__" := by decide) (hd : (x == ("__debug__" : Str)) = false := by decide) : WE T (.Name x pos) ρ C Q :=
  we_look (d := .raw (.ty n)) (pe_bltn (v := .ty n) hg hm hv rfl hn hd) (fun σ H H0 a => ⟨.ty n, rfl, fun R k => k⟩) q
theorem call_isiS : CallR X (.builtin "isinstance") (fun xs H Q => ∃ (x : V) (tp : Addr) (cs : List V) (t : Value) (us : List Value) (b : Bool), xs = [x, .ref tp] ∧ SqT X.K H tp cs ∧ Paired ClsV cs us ∧ TyX X.K H x t ∧ W.kitAny X.K t us = some b ∧ Q (.bl b) H) := by
  intro pins s σ H xs us Q I r h
  obtain ⟨x, tp, cs, t, ws, b, rfl, hT, k, ty, e, q⟩ := h
  obtain ⟨u1, u2, rfl, r1, r2⟩ := vals2 r
  cases (show u2 = Value.ref tp from r2)
  obtain ⟨P, Z, p, hx⟩ := kit_of I r1 ty
  obtain ⟨its, rv, ⟨o, h1, h2, n, h3⟩, _⟩ := I.tuple hT
  have e3 := ClsV.all k rv
  subst e3
  obtain ⟨oc, od, dt, sl⟩ := o
  simp only at h2 h3
  subst h2 h3
  exact W.kia_tup Z I.kIn p h1 e hx fun tk => ⟨.bl b, H, I.tok tk, rfl, q⟩
theorem cw_isi {t u : Value} {b : Bool} (hc : ClsD d2 u) (ht : TyD X.K C d1 t) (hk : W.kitOne X.K t u = some b) (q : Q (.bl b) C) : CW T (.builtin "isinstance") [d1, d2] C Q :=
  cw_look (d := .bl b) call_isi (fun xs H H0 c r => by
    obtain ⟨v, w, e1, r1, r2⟩ := r.two
    subst e1
    exact ⟨.bl b, rfl, fun R k => ⟨v, w, t, u, b, rfl, cls_at r2 hc, ty_at c r1 ht, hk, k⟩⟩) q
theorem cw_isiT {t : Value} {us : List Value} {b : Bool} (hc : Paired ClsD ds us) (ht : TyD X.K C d1 t) (hk : W.kitAny X.K t us = some b) (q : Q (.bl b) C) : CW T (.builtin "isinstance") [d1, .tup ds] C Q :=
  cw_look (d := .bl b) call_isiS (fun xs H H0 c r => by
    obtain ⟨v, w, e1, r1, r2⟩ := r.two
    subst e1
    obtain ⟨a, vs, e2, h2, h3⟩ := tup_at c r2
    subst e2
    exact ⟨.bl b, rfl, fun R k => ⟨v, a, vs, t, us, b, rfl, h2, clss_at h3 hc, ty_at c r1 ht, hk, k⟩⟩) q
end

/-! ### a def that is called by an operation -/
section
variable {X : Cx} {T : TX X} {ρ : Rho} {C : Cells} {Q : QE} {pos p apos : Pos} {k : Nat} {f Cl : Addr} {fd : FuncData} {ps : List Str} {F : FS} {dvs : List V} {dds : List D} {dus : List Value} {d1 d2 d : D} {ns : List Str} {ds : List D}
/-- what such a call asks: nothing is raised -/
def AsksN (F : FS) (ds : List D) (C : Cells) (Q : QE) : Prop := ∃ μ r, C.Perm (μ ++ r) ∧ F ds μ (fun d μ' => Q d (μ' ++ r)) fun _ _ _ => False
theorem run_N {pins : List (Addr × Obj)} {σ : L2.St} {H H0 : Hp} {s : Shared} {R : VK} {us : List Value} {vs : List V} {A : Around} {E' : Value → Shared → Prop} (Fk : FnG X.prog X.w X.K X.mg X.base k f fd ps F) (hr : RoomG k A) (hb : Binds X.K fd ps [])
    (I : Inv X pins σ H s) (e0 : Env0 X.prog X.w X.K X.mg X.base A X.stack s H) (rv : Vals vs us) (c : CellsR X.K H0 C H) (r : Reps X.K H0 ds vs) (h : AsksN F ds C Q) (kk : Cont X H0 C H Q R) : wpAny (model X.prog X.w) A (call (.ref f) us) (EP X pins σ R) E' s := by
  obtain ⟨μ, rr, pm, h⟩ := h
  have all : spT X.K F vs H R (fun _ _ _ => False) := ⟨H0, ds, μ, _, _, c.part pm, r, h, fun v d C' H' H0' p c' r' q => by
    obtain ⟨p2, c2⟩ := c.back pm p c'
    exact kk v d _ H' H0' p2 c2 r' q, fun cls dd fs C' H' H0' p c x q => q⟩
  have nlen : us.length = ps.length := by
    rw [← rv.length, ← r.length]
    exact Fk.len _ _ _ _ h
  have bnd := hb s us I.kIn (by rw [List.append_nil]; exact nlen)
  rw [List.append_nil] at bnd
  have went := Fk.run A X.stack s H ⟨us, []⟩ us vs R _ hr e0 bnd rv all
  refine wpAny_call (codeAny_mono went ?_)
  rintro (e | (_ | _ | _ | u)) s' hq
  · obtain ⟨_, _, _, _, _, _, _, _, _, _, _, _, z⟩ := hq; exact z.elim
  · exact False.elim hq
  · exact False.elim hq
  · exact False.elim hq
  · exact I.after hq
/-- the heap's own word on an instance -/
theorem ins_inst {pins : List (Addr × Obj)} {σ : L2.St} {H H0 : Hp} {s : Shared} {v : V} {u : Value} (I : Inv X pins σ H s) (rv : RelV v u) (c : CellsR X.K H0 C H) (r : Rep X.K H0 d v) (h : InsD C d Cl ns ds) : ∃ ad ox od, v = .ref ad ∧ u = .ref ad ∧ W.InstAt s.heap ad ox Cl (some od) := by
  obtain ⟨ad, dx, vs, e1, e2, e3, e4⟩ := ins_at c r h
  subst e1
  obtain rfl : u = Value.ref ad := rv
  obtain ⟨mA, O, _⟩ := ins_get I.hok e2
  obtain ⟨od, J, _⟩ := O.look
  exact ⟨ad, _, od, rfl, rfl, J⟩
/-- x == y (or another comparison), by the def of x's class -/
theorem ow_own {op : CmpOp} {t : Value} (hop : ∀ a b, compareOp op a b = richCompare op a b) (hs : W.findIn X.K (.ref Cl) (cmpInfo op).2.1 = some (some (.ref f))) (hf : W.isFn X.K (.ref f) = true) (hn : W.notFirst X.K Cl t = true)
    (Fk : FnG X.prog X.w X.K X.mg X.base k f fd ps F) (hr : RoomG k X.A) (hb : Binds X.K fd ps []) (h1 : InsD C d1 Cl ns ds) (h2 : TyD X.K C d2 t)
    (h : AsksN F [d1, d2] C fun d C' => ∃ j, d = .bl j ∧ Q (.bl j) C') : OW T (compareOp op) d1 d2 C Q := by
  intro pins s σ H x y v u R I rx ry ⟨H0, c, r1, r2, kk⟩
  obtain ⟨ad, ox, od, e1, e2, J⟩ := ins_inst I rx c r1 h1
  subst e1; subst e2
  obtain ⟨P, Z, p, hx⟩ := kit_of I ry (ty_at c r2 h2)
  obtain ⟨m, hF⟩ := I.fr
  rw [hop]
  refine W.cmp_K (op := op) hr.rm.units0 hF I.ok.mod.kin J (Z.ty _ _ I.kIn p) hn hs hf ?_
  refine wpAny_mono (run_N (us := [.ref ad, u]) (vs := [.ref ad, y]) (R := fun v H => ∃ j, v = .bl j ∧ R (.bl j) H) Fk hr hb I I.env0 (.cons rfl (.cons ry .nil)) c (Reps.cons r1 (Reps.cons r2 Reps.nil)) h
    (fun v d C' H' H0' p c' r ⟨j, e, q⟩ => by subst e; cases r; exact ⟨j, rfl, kk _ (.bl j) C' H' H0' p c' rfl q⟩)) (fun w s' z => ?_) fun _ _ x => x
  obtain ⟨z', H', I', rz, j, e, qz⟩ := z
  subst e
  cases (show w = Value.bool j from rz)
  exact ⟨.bl j, H', I', rfl, qz⟩
/-- x != y, by the def for == -/
theorem ow_neOwn {t : Value} (hne : W.findIn X.K (.ref Cl) "__ne__" = some (some (.builtin "object.__ne__"))) (hs : W.findIn X.K (.ref Cl) "__eq__" = some (some (.ref f))) (hf : W.isFn X.K (.ref f) = true) (hn : W.notFirst X.K Cl t = true)
    (ho : W.mroIn X.K Cl (.type "object") = some true) (Fk : FnG X.prog X.w X.K X.mg X.base k f fd ps F) (hr : RoomG (k + 1) X.A) (hb : Binds X.K fd ps []) (h1 : InsD C d1 Cl ns ds) (h2 : TyD X.K C d2 t)
    (h : AsksN F [d1, d2] C fun d C' => ∃ j, d = .bl j ∧ Q (.bl (!j)) C') : OW T (compareOp .NotEq) d1 d2 C Q := by
  intro pins s σ H x y v u R I rx ry ⟨H0, c, r1, r2, kk⟩
  obtain ⟨ad, ox, od, e1, e2, J⟩ := ins_inst I rx c r1 h1
  subst e1; subst e2
  obtain ⟨P, Z, p, hx⟩ := kit_of I ry (ty_at c r2 h2)
  obtain ⟨m, hF⟩ := I.fr
  show wpAny _ _ (richCompare .NotEq _ _) _ _ _
  refine ne_K (in1_G hr).rm.units0 I.kIn J (Z.ty _ _ I.kIn p) hn ho hne hs hf ?_
  refine wpAny_mono (run_N (us := [.ref ad, u]) (vs := [.ref ad, y]) (R := fun v H => ∃ j, v = .bl j ∧ R (.bl (!j)) H) Fk (in1_G hr) hb I I.env0.in1 (.cons rfl (.cons ry .nil)) c (Reps.cons r1 (Reps.cons r2 Reps.nil)) h
    (fun v d C' H' H0' p c' r ⟨j, e, q⟩ => by subst e; cases r; exact ⟨j, rfl, kk _ (.bl (!j)) C' H' H0' p c' rfl q⟩)) (fun w s' z => ?_) fun _ _ x => x
  obtain ⟨z', H', I', rz, j, e, qz⟩ := z
  subst e
  cases (show w = Value.bool j from rz)
  exact ⟨j, rfl, .bl (!j), H', I', rfl, qz⟩
/-- len(x), by the def of x's class -/
theorem cw_lenOwn (hs : W.findIn X.K (.ref Cl) "__len__" = some (some (.ref f))) (hf : W.isFn X.K (.ref f) = true) (Fk : FnG X.prog X.w X.K X.mg X.base k f fd ps F) (hr : RoomG (k + 1) X.A) (hb : Binds X.K fd ps []) (h1 : InsD C d Cl ns ds)
    (h : AsksN F [d] C fun d C' => ∃ n : Nat, d = .int n ∧ n ≤ 1000000 ∧ Q (.int n) C') : CW T (.builtin "len") [d] C Q := by
  intro pins s σ H vs us R I rv ⟨H0, c, r, kk⟩
  obtain ⟨v, e, r1⟩ := r.one
  subst e
  obtain ⟨u, rfl, ru⟩ := rv.one
  obtain ⟨ad, ox, od, e1, e2, J⟩ := ins_inst I ru c r1 h1
  subst e1; subst e2
  obtain ⟨m, hF⟩ := I.fr
  refine W.len_K hF I.ok.mod.kin J hs hf ?_
  refine wpAny_mono (run_N (us := [.ref ad]) (vs := [.ref ad]) (R := fun v H => ∃ n : Nat, v = .int n ∧ n ≤ 1000000 ∧ R (.int n) H) Fk (in1_G hr) hb I I.env0.in1 (.cons rfl .nil) c (Reps.cons r1 Reps.nil) h
    (fun v d C' H' H0' p c' r ⟨n, e, hn, q⟩ => by subst e; cases r; exact ⟨n, rfl, hn, kk _ (.int n) C' H' H0' p c' rfl q⟩)) (fun w s' z => ?_) fun _ _ x => x
  obtain ⟨z', H', I', rz, n, e, hn, qz⟩ := z
  subst e
  obtain ⟨t, ht⟩ := (show ∃ t, w = Value.int n t from rz)
  subst ht
  exact ⟨⟨Int.natCast_nonneg _, by omega⟩, .int n, H', I'.tok _, ⟨_, rfl⟩, qz⟩
/-- str(x), by the def of x's class -/
theorem cw_strOwn (hs : W.findIn X.K (.ref Cl) "__str__" = some (some (.ref f))) (hf : W.isFn X.K (.ref f) = true) (Fk : FnG X.prog X.w X.K X.mg X.base k f fd ps F) (hr : RoomG (k + 2) X.A) (hb : Binds X.K fd ps []) (h1 : InsD C d Cl ns ds)
    (h : AsksN F [d] C fun d C' => ∃ z : Str, d = .str z ∧ Q (.str z) C') : CW T (.type "str") [d] C Q := by
  intro pins s σ H vs us R I rv ⟨H0, c, r, kk⟩
  obtain ⟨v, e, r1⟩ := r.one
  subst e
  obtain ⟨u, rfl, ru⟩ := rv.one
  obtain ⟨ad, ox, od, e1, e2, J⟩ := ins_inst I ru c r1 h1
  subst e1; subst e2
  refine W.kso_call (in1_G (in1_G hr)).rm.units0 I.kIn J hs hf ?_
  refine wpAny_mono (run_N (us := [.ref ad]) (vs := [.ref ad]) (R := fun v H => ∃ z : Str, v = .str z ∧ R (.str z) H) Fk (in1_G (in1_G hr)) hb I I.env0.in1.in1 (.cons rfl .nil) c (Reps.cons r1 Reps.nil) h
    (fun v d C' H' H0' p c' r ⟨z, e, q⟩ => by subst e; cases r; exact ⟨z, rfl, kk _ (.str z) C' H' H0' p c' rfl q⟩)) (fun w s' z => ?_) fun _ _ x => x
  obtain ⟨z', H', I', rz, n, e, qz⟩ := z
  subst e
  obtain ⟨t, ht⟩ := (show ∃ t, w = Value.str n t from rz)
  subst ht
  exact ⟨.str n, H', I', ⟨_, rfl⟩, qz⟩
end

/-! ### lists put together, turned about; texts -/
section
variable {X : Cx} {T : TX X} {ρ : Rho} {C : Cells} {Q : QE} {e a b c o : Expr} {pos p apos cpos : Pos} {es : List Expr} {d d1 d2 : D} {ds ds2 : List D}
def rCatS (K : W.Frag) : R2 := fun x y H Q => ∃ l b xs zs, x = .ref l ∧ y = .ref b ∧ SqL K H l xs ∧ SqL K H b zs ∧ xs.length + zs.length ≤ sizeLine ∧ ∀ p, H p = none → Q (.ref p) (upd H p (.lst (xs ++ zs)))
theorem op_catS : OpR X (binaryOp .Add) (rCatS X.K) := by
  intro pins s σ H x y v u Q I rx ry h
  obtain ⟨l, b, xs, zs, rfl, rfl, hH, hB, hz, q⟩ := h
  cases rx
  cases ry
  obtain ⟨its, r, ht, z1⟩ := I.list hH
  obtain ⟨its2, r2, ht2, z2⟩ := I.list hB
  have l1 := r.length
  have l2 := r2.length
  obtain ⟨⟨cl1, dd, data, sl⟩, n, ho, hc, _, hd⟩ := id ht
  obtain ⟨⟨cl2, dd2, data2, sl2⟩, n2, ho2, hc2, _, hd2⟩ := id ht2
  simp only at hc hd hc2 hd2
  subst hc hd hc2 hd2
  refine concat_meets ⟨_, ho, rfl⟩ ⟨_, ho2, rfl⟩ PySem.noFill_list_add PySem.seq_list_add PySem.F.slot_list_add PySem.F.entry_list_add (PySem.F.args_list_add_2 _ _) (list_addW l b its.toArray its2.toArray n n2 dd dd2 sl sl2 (by rw [List.size_toArray, List.size_toArray]; omega)) ⟨ho, ho2, ?_⟩
  rw [show its.toArray ++ its2.toArray = (its ++ its2).toArray by simp]
  exact ⟨.ref _, _, I.lnew (t' := s.toks) (r.append r2) (by rw [List.length_append]; omega), rfl, q _ I.fresh⟩
/-- xs + ys: a new list that stands still, or a cell -/
theorem ow_cat (h1 : LstD C d1 ds) (h2 : LstD C d2 ds2) (hl : ds.length + ds2.length ≤ 100000) (q : Q (.lst (ds ++ ds2)) C) : OW T (binaryOp .Add) d1 d2 C Q :=
  OpR.imp op_catS fun x y H R ⟨H0, c, r1, r2, k⟩ => by
    obtain ⟨a, vs, e1, g1, g2⟩ := lst_at c r1 h1
    obtain ⟨b, ws, e2, g3, g4⟩ := lst_at c r2 h2
    have l1 := g2.length
    have l2 := g4.length
    refine ⟨a, b, vs, ws, e1, e2, g1, g3, Nat.le_trans (by omega) (show 100000 ≤ sizeLine by decide), fun p hp => ?_⟩
    obtain ⟨p2, c2⟩ := stp_new (o := .lst (vs ++ ws)) c hp
    exact k _ (.lst (ds ++ ds2)) C _ _ p2 c2 ⟨p, _, rfl, .inl (.inl upd_same), (g2.append g4).mono p2.base⟩ q
theorem ow_catC (h1 : LstD C d1 ds) (h2 : LstD C d2 ds2) (hl : ds.length + ds2.length ≤ 100000) (q : ∀ p, Q (.raw (.ref p)) ((p, .lst (ds ++ ds2)) :: C)) : OW T (binaryOp .Add) d1 d2 C Q :=
  OpR.imp op_catS fun x y H R ⟨H0, c, r1, r2, k⟩ => by
    obtain ⟨a, vs, e1, g1, g2⟩ := lst_at c r1 h1
    obtain ⟨b, ws, e2, g3, g4⟩ := lst_at c r2 h2
    have l1 := g2.length
    have l2 := g4.length
    refine ⟨a, b, vs, ws, e1, e2, g1, g3, Nat.le_trans (by omega) (show 100000 ≤ sizeLine by decide), fun p hp => ?_⟩
    obtain ⟨p2, c2⟩ := stp_cell (o := .lst (vs ++ ws)) (c := .lst (ds ++ ds2)) c hp ⟨_, upd_same, g2.append g4⟩
    exact k _ (.raw (.ref p)) _ _ _ p2 c2 rfl (q p)
/-- t + u -/
theorem ow_catT (hl : ds.length + ds2.length ≤ 100000) (q : Q (.tup (ds ++ ds2)) C) : OW T (binaryOp .Add) (.tup ds) (.tup ds2) C Q :=
  OpR.imp op_catA fun x y H R ⟨H0, c, r1, r2, k⟩ => by
    obtain ⟨a, vs, e1, g1, g2⟩ := tup_at c r1
    obtain ⟨b, ws, e2, g3, g4⟩ := tup_at c r2
    have l1 := g2.length
    have l2 := g4.length
    refine ⟨a, b, vs, ws, e1, e2, g1, g3, Nat.le_trans (by omega) (show 100000 ≤ sizeLine by decide), fun e => ?_, fun _ e => ?_, fun _ _ p hp => ?_⟩
    · subst e; subst e2
      have : ds = [] := List.length_eq_zero_iff.mp l1
      subst this
      exact k.here (d := .tup ([] ++ ds2)) c r2 q
    · subst e; subst e1
      have : ds2 = [] := List.length_eq_zero_iff.mp l2
      subst this
      rw [List.append_nil] at q
      exact k.here (d := .tup ds) c r1 q
    · obtain ⟨p2, c2⟩ := stp_new (o := .tup (vs ++ ws)) c hp
      exact k _ (.tup (ds ++ ds2)) C _ _ p2 c2 ⟨p, _, rfl, .inl (.inl upd_same), (g2.append g4).mono p2.base⟩ q
theorem Reps.reverse {K : W.Frag} {H : Hp} : ∀ {ds : List D} {vs : List V}, Reps K H ds vs → Reps K H ds.reverse vs.reverse
  | [], _, h => by cases h; exact Reps.nil
  | d :: ds, _, ⟨v, r, e, h1, h2⟩ => by
    subst e
    rw [List.reverse_cons, List.reverse_cons]
    exact (Reps.reverse h2).append (Reps.cons h1 Reps.nil)
/-- xs[::-1] -/
theorem we_rev {k : Nat} {p1 p2 p3 : Pos} (h : WE T e ρ C fun d C1 => ∃ ds, LstD C1 d ds ∧ Q (.lst ds.reverse) C1) : WE T (.Subscript e (.Slice none none (some (.UnaryOp .USub (.Constant (.int 1) k p1) p2)) p3) pos) ρ C Q :=
  PE.imp (pe_revL h) fun σ H R ⟨H0, at_, k⟩ => ⟨H0, at_, fun v d C1 H1 H01 pp c1 r1 ⟨ds, hl, q⟩ => by
    obtain ⟨a, vs, e1, g1, g2⟩ := lst_at c1 r1 hl
    refine ⟨a, vs, e1, g1, fun p hp => ?_⟩
    obtain ⟨p2, c2⟩ := stp_new (o := .lst vs.reverse) c1 hp
    exact k _ (.lst ds.reverse) C1 _ _ (pp.trans c1 p2) c2 ⟨p, _, rfl, .inl (.inl upd_same), (Reps.reverse g2).mono p2.base⟩ q⟩
theorem we_revC {k : Nat} {p1 p2 p3 : Pos} (h : WE T e ρ C fun d C1 => ∃ ds, LstD C1 d ds ∧ ∀ p, Q (.raw (.ref p)) ((p, .lst ds.reverse) :: C1)) : WE T (.Subscript e (.Slice none none (some (.UnaryOp .USub (.Constant (.int 1) k p1) p2)) p3) pos) ρ C Q :=
  PE.imp (pe_revL h) fun σ H R ⟨H0, at_, k⟩ => ⟨H0, at_, fun v d C1 H1 H01 pp c1 r1 ⟨ds, hl, q⟩ => by
    obtain ⟨a, vs, e1, g1, g2⟩ := lst_at c1 r1 hl
    refine ⟨a, vs, e1, g1, fun p hp => ?_⟩
    obtain ⟨p2, c2⟩ := stp_cell (o := .lst vs.reverse) (c := .lst ds.reverse) c1 hp ⟨_, upd_same, Reps.reverse g2⟩
    exact k _ (.raw (.ref p)) _ _ _ (pp.trans c1 p2) c2 rfl (q p)⟩

/-! ### methods of texts -/
/-- a method of a text, with one argument -/
theorem we_m1 {r : V → List V → Hp → VK → Prop} {m : Str} (hm : ∀ {to te : TE}, PE X o to → PE X e te → PE X (.Call (.Attribute o m apos) [e] [] pos) (tM1 r to te))
    (h : WE T o ρ C fun d1 C1 => ∃ s, d1 = .str s ∧ WE T e ρ C1 fun d2 C2 => ∀ v H H0 R, CellsR X.K H0 C2 H → Rep X.K H0 d2 v → Cont X H0 C2 H Q R → r (.str s) [v] H R) : WE T (.Call (.Attribute o m apos) [e] [] pos) ρ C Q :=
  PE.imp (hm h (pe_some T ρ e)) fun σ H R ⟨H0, at_, k⟩ => ⟨H0, at_, fun v d C1 H1 H01 p1 c1 r1 ⟨s, e1, q1⟩ => by
    subst e1; cases r1
    exact ⟨⟨s, rfl⟩, C1, _, q1, H01, at_.step p1 c1, fun v2 d2 C2 H2 H02 p2 c2 r2 q2 => q2 _ _ _ _ c2 r2 (k.after (p1.trans c1 p2) c2 fun _ _ z => z)⟩⟩
theorem strs_split {K : W.Frag} {H0 H : Hp} {C : Cells} {x : List Str} {R : VK} {Q : QE} (c : CellsR K H0 C H) (q : Q (.lst (x.map D.str)) C)
    (k : ∀ v d C' H' H0', Stp H0 C H H0' C' H' → CellsR K H0' C' H' → Rep K H0' d v → Q d C' → R v H') : rNewStrs x H R := by
  intro p hp
  obtain ⟨p2, c2⟩ := stp_new (o := .lst (x.map V.str)) c hp
  exact k _ (.lst (x.map D.str)) C _ _ p2 c2 ⟨p, _, rfl, .inl (.inl upd_same), Reps.strs x⟩ q
theorem we_split (h : WE T o ρ C fun d1 C1 => ∃ s, d1 = .str s ∧ WE T e ρ C1 fun d2 C2 => ∃ t : Str, d2 = .str t ∧ (t.length == 0) = false ∧ s.length ≤ 100000 ∧ Q (.lst ((Txt.split s t).map D.str)) C2)
    (hs : starEach [e] X.env = [(false, eval e X.env)] := by rfl) (hbase : attributeBase o "split" X.env (eval o X.env) = eval o X.env := by rfl) (hline : (apos.endLine == pos.line) = true := by rfl) : WE T (.Call (.Attribute o "split" apos) [e] [] pos) ρ C Q :=
  we_m1 (fun ho he => pe_split ho he hs hbase hline) (h.mono fun d1 C1 ⟨s, e1, w⟩ => ⟨s, e1, w.mono fun d2 C2 ⟨t, e2, ht, hs, q⟩ v H H0 R c r k => by
    subst e2; cases r
    exact ⟨s, t, rfl, rfl, ht, Nat.le_trans (show s.length + 2 ≤ 100002 by omega) (by decide), strs_split c q k⟩⟩)
theorem we_partition (h : WE T o ρ C fun d1 C1 => ∃ s, d1 = .str s ∧ WE T e ρ C1 fun d2 C2 => ∃ t : Str, d2 = .str t ∧ (t.length == 0) = false ∧ s.length ≤ 100000 ∧ Q (.tup [.str (Txt.partition s t).1, .str (Txt.partition s t).2.1, .str (Txt.partition s t).2.2]) C2)
    (hs : starEach [e] X.env = [(false, eval e X.env)] := by rfl) (hbase : attributeBase o "partition" X.env (eval o X.env) = eval o X.env := by rfl) (hline : (apos.endLine == pos.line) = true := by rfl) : WE T (.Call (.Attribute o "partition" apos) [e] [] pos) ρ C Q :=
  we_m1 (fun ho he => pe_partition ho he hs hbase hline) (h.mono fun d1 C1 ⟨s, e1, w⟩ => ⟨s, e1, w.mono fun d2 C2 ⟨t, e2, ht, hs, q⟩ v H H0 R c r k => by
    subst e2; cases r
    refine ⟨s, t, rfl, rfl, ht, Nat.le_trans hs (by decide), fun p hp => ?_⟩
    obtain ⟨p2, c2⟩ := stp_new (o := .tup [.str (Txt.partition s t).1, .str (Txt.partition s t).2.1, .str (Txt.partition s t).2.2]) c hp
    exact k _ (.tup [.str (Txt.partition s t).1, .str (Txt.partition s t).2.1, .str (Txt.partition s t).2.2]) C2 _ _ p2 c2 ⟨p, _, rfl, .inl (.inl upd_same), Reps.cons rfl (Reps.cons rfl (Reps.cons rfl Reps.nil))⟩ q⟩)
theorem we_join (h : WE T o ρ C fun d1 C1 => ∃ s, d1 = .str s ∧ WE T e ρ C1 fun d2 C2 => ∃ ys : List Str, SeqD C2 d2 (ys.map D.str) ∧ (ys.map (·.length)).sum + ys.length * s.length ≤ 100000 ∧ Q (.str (Txt.join s ys)) C2)
    (hs : starEach [e] X.env = [(false, eval e X.env)] := by rfl) (hbase : attributeBase o "join" X.env (eval o X.env) = eval o X.env := by rfl) (hline : (apos.endLine == pos.line) = true := by rfl) : WE T (.Call (.Attribute o "join" apos) [e] [] pos) ρ C Q :=
  we_m1 (fun ho he => pe_join ho he hs hbase hline) (h.mono fun d1 C1 ⟨s, e1, w⟩ => ⟨s, e1, w.mono fun d2 C2 ⟨ys, hq, hz, q⟩ v H H0 R c r k => by
    rcases hq with hq | hq
    · obtain ⟨a, vs, e2, h2, h3⟩ := lst_at c r hq
      subst e2
      rw [Reps.of_strs h3] at h2
      exact ⟨s, a, ys, rfl, rfl, .inl h2, Nat.le_trans hz (by decide), k.here (d := .str (Txt.join s ys)) c rfl q⟩
    · subst hq
      obtain ⟨a, vs, e2, h2, h3⟩ := tup_at c r
      subst e2
      rw [Reps.of_strs h3] at h2
      exact ⟨s, a, ys, rfl, rfl, .inr h2, Nat.le_trans hz (by decide), k.here (d := .str (Txt.join s ys)) c rfl q⟩⟩)
theorem we_startswith (h : WE T o ρ C fun d1 C1 => ∃ s, d1 = .str s ∧ WE T e ρ C1 fun d2 C2 => ∃ t : Str, d2 = .str t ∧ Q (.bl (Txt.startswith s t)) C2)
    (hs : starEach [e] X.env = [(false, eval e X.env)] := by rfl) (hbase : attributeBase o "startswith" X.env (eval o X.env) = eval o X.env := by rfl) (hline : (apos.endLine == pos.line) = true := by rfl) : WE T (.Call (.Attribute o "startswith" apos) [e] [] pos) ρ C Q :=
  we_m1 (fun ho he => pe_m1 PySem.F.slot_str_startswith PySem.F.type_str_startswith mt_startswith ho he hs hbase hline) (h.mono fun d1 C1 ⟨s, e1, w⟩ => ⟨s, e1, w.mono fun d2 C2 ⟨t, e2, q⟩ v H H0 R c r k => by
    subst e2; cases r
    exact ⟨s, t, rfl, rfl, k.here (d := .bl (Txt.startswith s t)) c rfl q⟩⟩)

/-! ### in, not in -/
def flatD : D → Bool
  | .non | .bl _ | .int _ | .str _ => true
  | _ => false
def toV : D → V
  | .bl b => .bl b
  | .int i => .int i
  | .str s => .str s
  | _ => .non
theorem flat_at {K : W.Frag} {H0 : Hp} {d : D} {v : V} (r : Rep K H0 d v) (h : flatD d = true) : v = toV d ∧ flatV v = true := by
  cases d <;> first | (cases r; exact ⟨rfl, rfl⟩) | cases h
theorem flats_at {K : W.Frag} {H0 : Hp} : ∀ {ds : List D} {vs : List V}, Reps K H0 ds vs → ds.all flatD = true → vs = ds.map toV ∧ vs.all flatV = true
  | [], _, r, _ => by cases r; exact ⟨rfl, rfl⟩
  | d :: ds, _, ⟨v, vs, e, r1, r2⟩, h => by
    subst e
    rw [List.all_cons, Bool.and_eq_true] at h
    obtain ⟨e1, f1⟩ := flat_at r1 h.1
    obtain ⟨e2, f2⟩ := flats_at r2 h.2
    exact ⟨by rw [e1, e2]; rfl, by rw [List.all_cons, f1, f2]; rfl⟩
def inD (d : D) (ds : List D) : Bool := inV (toV d) (ds.map toV)
theorem in_at {n : Bool} {H0 H : Hp} {x y : V} {R : VK} (c : CellsR X.K H0 C H) (r1 : Rep X.K H0 d1 x) (r2 : Rep X.K H0 d2 y) (h : SeqD C d2 ds) (f1 : flatD d1 = true) (f2 : ds.all flatD = true) (k : R (.bl (if n then !inD d1 ds else inD d1 ds)) H) : rIn X.K n x y H R := by
  obtain ⟨e1, g1⟩ := flat_at r1 f1
  rcases h with h | h
  · obtain ⟨a, vs, e2, h2, h3⟩ := lst_at c r2 h
    obtain ⟨e3, g3⟩ := flats_at h3 f2
    refine ⟨a, vs, e2, .inl h2, g1, g3, ?_⟩
    rw [e1, e3]; exact k
  · subst h
    obtain ⟨a, vs, e2, h2, h3⟩ := tup_at c r2
    obtain ⟨e3, g3⟩ := flats_at h3 f2
    refine ⟨a, vs, e2, .inr h2, g1, g3, ?_⟩
    rw [e1, e3]; exact k
theorem ow_in (h : SeqD C d2 ds) (f1 : flatD d1 = true) (f2 : ds.all flatD = true) (q : Q (.bl (inD d1 ds)) C) : OW T (compareOp .In) d1 d2 C Q :=
  ow_look (d := .bl (inD d1 ds)) op_in_seq (fun u v H H0 c r1 r2 => ⟨.bl (inD d1 ds), rfl, fun R k => in_at (n := false) c r1 r2 h f1 f2 k⟩) q
theorem ow_notIn (h : SeqD C d2 ds) (f1 : flatD d1 = true) (f2 : ds.all flatD = true) (q : Q (.bl (!inD d1 ds)) C) : OW T (compareOp .NotIn) d1 d2 C Q :=
  ow_look (d := .bl (!inD d1 ds)) op_notIn_seq (fun u v H H0 c r1 r2 => ⟨.bl (!inD d1 ds), rfl, fun R k => in_at (n := true) c r1 r2 h f1 f2 k⟩) q
theorem inD_strs {s : Str} : ∀ {xs : List Str}, inD (.str s) (xs.map D.str) = decide (s ∈ xs)
  | [] => by simp [inD, inV]
  | x :: xs => by
    have ih := inD_strs (s := s) (xs := xs)
    unfold inD inV at ih ⊢
    rw [List.map_cons, List.map_cons, List.any_cons, ih]
    have : eqV (toV (.str x)) (toV (.str s)) = (x == s) := rfl
    rw [this]
    by_cases h : x = s
    · simp [h]
    · simp [h, Ne.symm h]
/-- one sign in a text -/
theorem ow_inSign {n : Nat} {z : Str} (q : Q (.bl (decide (n ∈ z.cps.toList))) C) : OW T (compareOp .In) (.str ⟨#[n]⟩) (.str z) C Q :=
  ow_look (d := .bl (decide (n ∈ z.cps.toList))) op_in_sign (fun u v H H0 c r1 r2 => by cases r1; cases r2; exact ⟨.bl (decide (n ∈ z.cps.toList)), rfl, fun R k => ⟨n, z, rfl, rfl, k⟩⟩) q

/-! ### repr of data -/
theorem call_reprD (hg : X.A.guards = some []) : CallR X (.builtin "repr") (fun xs H Q => ∃ v p, xs = [v] ∧ Dp X.K H v p ∧ isDisplay p = true ∧ p.showable = true ∧ p.hasDict = false ∧ X.A.units + (p.depth + 1) < cLine ∧ p.shown.length ≤ sizeLine ∧ Q (.str p.shown) H) := by
  intro pins s σ H xs us Q I r h
  obtain ⟨v, p, rfl, dp, hd, hs, hnd, hu, hz, q⟩ := h
  obtain ⟨u, rfl, ru⟩ := r.one
  obtain ⟨as, rd⟩ := Dp.reads I p v u dp ru
  obtain ⟨a, rfl⟩ := isRef_of_reads rd hd
  exact repr_of_reads' rd hs (PyData.noDict_hsm hnd) hg hu (fun _ _ e => e) (fun h' u tk hk => ⟨.str p.shown, H, I.kept hk, ⟨_, rfl⟩, q⟩) hz
theorem cw_repr {p : PyData} (hg : X.A.guards = some []) (hp : PyR C d p) (hd : isDisplay p = true) (hs : p.showable = true) (hnd : p.hasDict = false) (hu : X.A.units + (p.depth + 1) < cLine) (hz : p.shown.length ≤ 100000) (q : Q (.str p.shown) C) : CW T (.builtin "repr") [d] C Q :=
  cw_look (d := .str p.shown) (call_reprD hg) (fun xs H H0 c r => by
    obtain ⟨v, e1, r1⟩ := r.one
    subst e1
    exact ⟨.str p.shown, rfl, fun R k => ⟨v, p, rfl, pyR_dp c r1 hp, hd, hs, hnd, hu, Nat.le_trans hz (by decide), k⟩⟩) q
end
end Tr

set_option maxHeartbeats 2000000
namespace Tr
open PySem L2 PySem.Spec PyProof.Rows

/-! ### a law's own end -/
/-- what a law promises: True of every script -/
def lawFS : FS := fun ds C Q _ => ∃ ns : List Int, ds = [.lst (ns.map .int)] ∧ ns.length ≤ 63 ∧ C = [] ∧ ∀ C', Q (.bl true) C'
theorem cells_nil (K : W.Frag) (H : Hp) : CellsR K H [] H := ⟨Same.refl _, fun a ⟨_, h⟩ => (by cases h), fun a c h => (by cases h), List.nodup_nil⟩
theorem law_sp {K : W.Frag} {H : Hp} {a : Addr} {ns : List Int} (hl : ns.length ≤ 63) (hs : SqL K H a (ns.map V.int)) : spT K lawFS [.ref a] H (fun v _ => v = .bl true) fun _ _ _ => False :=
  ⟨H, [.lst (ns.map .int)], [], fun d _ => d = .bl true, fun _ _ _ => False, cells_nil K H, Reps.cons ⟨a, _, rfl, hs, Reps.ints ns⟩ Reps.nil, ⟨ns, rfl, hl, rfl, fun _ => rfl⟩,
    fun v d C' H' H0' _ _ r e => (by subst e; exact r), fun _ _ _ _ _ _ _ _ _ q => q⟩
section
variable {P : Program} {w : World} {K : W.Frag} {mg mb : Str → Option Value} {k : Nat} {fa a : Addr} {fd : FuncData} {x : Str} {s₁ : Shared} {vs : List Value} {ns : List Int}
/-- from a heap of which at most the script is tracked -/
theorem law_from (H : Hp) (hO : Only H) (hS : SqL K H a (ns.map V.int)) (hok : HOk P w H s₁.heap) (hA : ∀ b, H b ≠ none → b = a) (hK : H a ≠ none → K.lookup a = none)
    (KX : K.In s₁.heap) (hns : s₁.heap.Ns mainGlobals mg) (hb : s₁.heap.Ns builtinsNs mb) (hbb : ∀ x : Str, x ≠ "__name__" → mb x = bootBuiltins x) (hlim : s₁.heap.NoLimit) (hg : s₁.gens = #[])
    (ha : s₁.heap.get? a = some { cls := .type "list", data := .seq vs.toArray }) (hl : ns.length ≤ 63) (hr : RoomG k callerA)
    (F : ∀ base : Heap, K.In base → base.Ns mainGlobals mg → FnG P w K mg base k fa fd [x] lawFS) (hbind : ∀ (s : Shared) (u : Value), BindsTo s fd ⟨[u], []⟩ [(x, u)]) :
    codeAny (model P w) callerA (.call (.ref fa) ⟨[.ref a], []⟩) (fun r s' => r = .ok (.ret (.bool true)) ∧ OldK s₁.heap s'.heap ∧ s'.os = s₁.os ∧ AllBare s'.gens) s₁ := by
  have only : ∀ {b : Addr}, b ≠ a → H b = none := fun {b} ne => Classical.byContradiction fun h => ne (hA b h)
  have dicts : ∀ {b : Addr} {o : Obj} {es : Array DictEntry} {ep : Nat}, s₁.heap.get? b = some o → o.data = .dict es ep → (hidT s₁.heap H).get? b = some o := fun {b o es ep} e d => hidT_get e (by
    refine only fun eq => ?_
    subst eq
    rw [ha] at e; cases e; cases d)
  have names : ∀ {b : Addr} {m : Str → Option Value}, s₁.heap.Ns b m → (hidT s₁.heap H).Ns b m := fun {b m} ⟨o, es, ep, e, d, r⟩ => ⟨o, es, ep, dicts e d, d, r⟩
  have kin : K.In (hidT s₁.heap H) := fun b o e => hidT_get (KX b o e) (by
    by_cases eq : b = a
    · subst eq
      exact Classical.byContradiction fun h => by rw [hK h] at e; cases e
    · exact only eq)
  have lim : (hidT s₁.heap H).NoLimit := let ⟨mc, h1, h2⟩ := hlim; ⟨mc, names h1, h2⟩
  have e0 : Env0 P w K mg (hidT s₁.heap H) callerA [] s₁ H := ⟨rfl, ⟨kin, names hns, ⟨mb, names hb, hbb⟩, lim⟩, fun b o e => of_hidT e, Nat.le_of_eq (hidT_size _ _), trivial, fun b hb => absurd (show b ∈ ([] : List Addr) from hb) (by simp), hok, .of_eq hg⟩
  have went := (F _ kin (names hns)).run callerA [] s₁ H ⟨[.ref a], []⟩ [.ref a] [.ref a] _ _ hr e0 (hbind s₁ (.ref a)) (.cons rfl .nil) (law_sp hl hS)
  refine codeAny_mono went ?_
  rintro (e | (_ | _ | _ | u)) s' h
  · obtain ⟨_, _, _, _, _, _, _, _, _, _, _, _, z⟩ := h
    exact z.elim
  · exact False.elim h
  · exact False.elim h
  · exact False.elim h
  · obtain ⟨v, H', os, bare, un, hok', r', q⟩ := h
    subst q
    obtain rfl : u = Value.bool true := r'
    refine ⟨rfl, OldK.of_keep fun b o e => ?_, os, bare⟩
    rcases hO b with z | ⟨ob, xs, z⟩
    · exact un.keep b o e z (by intro z; exact absurd (show b ∈ ([] : List Addr) from z) (by simp)) (by simp)
    · obtain ⟨e1, _⟩ := hok b _ z
      obtain ⟨e2, _⟩ := hok' b _ (un.frzs b ob _ z)
      rw [e] at e1; cases e1
      exact e2
theorem law_goes (KX : K.In s₁.heap) (hns : s₁.heap.Ns mainGlobals mg) (hb : s₁.heap.Ns builtinsNs mb) (hbb : ∀ x : Str, x ≠ "__name__" → mb x = bootBuiltins x) (hlim : s₁.heap.NoLimit) (hg : s₁.gens = #[])
    (ha : s₁.heap.get? a = some { cls := .type "list", data := .seq vs.toArray }) (hi : IntsAre vs ns) (hl : ns.length ≤ 63) (hr : RoomG k callerA)
    (F : ∀ base : Heap, K.In base → base.Ns mainGlobals mg → FnG P w K mg base k fa fd [x] lawFS) (hbind : ∀ (s : Shared) (u : Value), BindsTo s fd ⟨[u], []⟩ [(x, u)]) :
    codeAny (model P w) callerA (.call (.ref fa) ⟨[.ref a], []⟩) (fun r s' => r = .ok (.ret (.bool true)) ∧ OldK s₁.heap s'.heap ∧ s'.os = s₁.os ∧ AllBare s'.gens) s₁ := by
  have rv := vals_ints hi
  have hsz : ns.length ≤ sizeLine := Nat.le_trans hl (by decide)
  cases hk : K.lookup a with
  | some o =>
    have e := KX a o hk
    rw [ha] at e; cases e
    exact law_from (fun _ => none) (fun _ => .inl rfl) (.inr ⟨_, vs.toArray, _, hk, rfl, rfl, rfl, by rw [List.size_toArray, hi.length]; exact hsz, by simpa using rv⟩) (fun b u z => by cases z) (fun b z => absurd rfl z) (fun z => absurd rfl z) KX hns hb hbb hlim hg ha hl hr F hbind
  | none =>
    have at_a : ∀ b u, (if b = a then some (HO.frz { cls := .type "list", data := .seq vs.toArray } (.lst (ns.map V.int))) else none) = some u → b = a ∧ u = HO.frz { cls := .type "list", data := .seq vs.toArray } (.lst (ns.map V.int)) := fun b u z => by
      split at z
      · rename_i e; exact ⟨e, (Option.some.inj z).symm⟩
      · cases z
    refine law_from (fun b => if b = a then some (.frz { cls := .type "list", data := .seq vs.toArray } (.lst (ns.map V.int))) else none) (fun b => ?_) (.inl (.inr ⟨{ cls := .type "list", data := .seq vs.toArray }, if_pos rfl⟩)) (fun b u z => ?_) (fun b z => ?_) (fun _ => hk) KX hns hb hbb hlim hg ha hl hr F hbind
    · by_cases e : b = a
      · exact .inr ⟨_, _, if_pos e⟩
      · exact .inl (if_neg e)
    · obtain ⟨e1, e2⟩ := at_a b u z
      subst e1; subst e2
      exact ⟨ha, by rw [List.length_map]; exact hsz, vs, _, rv, ha⟩
    · by_cases e : b = a
      · exact e
      · exact absurd (if_neg e) z
end
theorem law_walk {l : W.OpenLaw} {k : Nat} {q : Program} {loose : List Str} {XP : (Str → Option Value) → Heap → Prop} {YP : World → Heap → Prop} {d : DefRec} {K : Params → W.Frag} {x : Str}
    (hn : l.most = some 63) (hdf : d.params.defaults = []) (hr : RoomG k callerA) (hY : ∀ (w : World) (h : Heap), YP w h → (K w.params).In h)
    (F : ∀ (w : World) (mg : Str → Option Value) (fa : Addr) (h : Heap), (K w.params).In h → h.Ns mainGlobals mg → mg d.name = some (.ref fa) →
      ∃ fd : FuncData, (∀ (s : Shared) (u : Value), BindsTo s fd ⟨[u], []⟩ [(x, u)]) ∧ ∀ base : Heap, (K w.params).In base → base.Ns mainGlobals mg → FnG l.prog w (K w.params) mg base k fa fd [x] lawFS) :
    W.WalkO q loose XP YP l.row.toRowW d [] (fun f vs => PySem.call f vs) := by
  refine Att.attach_call hn hdf fun w s₀ s₁ mg mb fa o pm cd doc a vs ns G Y ho hd hcd hmg hobj hints hlen hg => ?_
  have KX := hY w _ Y
  obtain ⟨fd, hb, hF⟩ := F w mg fa _ KX G.T.g hmg
  exact law_goes KX G.T.g G.T.b G.T.builtins G.T.nolimit hg hobj hints hlen hr hF hb
end Tr

set_option maxHeartbeats 2000000
namespace Tr
open PySem L2 PySem.Spec PyProof.Rows

/-! ### enumerate over a tuple -/
section
open AutoSeq1 (wpAny_loadPart')
theorem meets_enumT (l : Addr) (items : Array Value) (n : Nat) (dct : Option Addr) (sl : Array (Option Value)) :
    Meets (Builtin.«enumerate.__new__» ⟨[.type "enumerate", .ref l], []⟩) (fun _ R s => s.heap.get? l = some { cls := .type "tuple", dict := dct, data := .seq items n, slots := sl } ∧
      R (.ok (.ret (.ref (s.heap.push { cls := .type "tuple_iterator", data := .fields #[.ref l, .int 0 0] }).objs.size)))
        { s with heap := (s.heap.push { cls := .type "tuple_iterator", data := .fields #[.ref l, .int 0 0] }).push { cls := .type "enumerate", data := .fields #[.none, .bool false, .ref s.heap.objs.size, rawInt 0, .none, .none] } }) :=
  .of_wp fun prog w A R s h => by
    obtain ⟨hp, g, d, tk, os⟩ := s
    obtain ⟨hl, h⟩ := h
    have hsub := sub_enumerate
    have hL : Heap.IsTuple (Shared.heap ⟨hp, g, d, tk, os⟩) l items := ⟨_, hl, rfl, n, rfl⟩
    wp_walk using wpAny_loadPart' hl
    refine wpAny_stack_any fun st => wpAny_pure ?_
    split
    · rename_i c _ _ _ _ _
      cases (c == Value.type "enumerate")
      · wp_walk using wpAny_loadPart' hl, wpAny_pyIter_tuple hL
        exact ⟨_, rfl, h⟩
      · wp_walk using wpAny_loadPart' hl, wpAny_pyIter_tuple hL
        exact ⟨_, rfl, h⟩
    · wp_walk using wpAny_loadPart' hl, wpAny_pyIter_tuple hL
      exact ⟨_, rfl, h⟩
end
theorem call_enumT {prog : Program} {w : World} {A : Around} {E : Value → Shared → Prop} {s : Shared} {l : Addr} {items : Array Value} {Q : Value → Shared → Prop} (hL : IsTup s.heap l items)
    (h : ∀ h', IsEnum h' (s.heap.objs.size + 1) s.heap.objs.size 0 .none → h'.IsTupleIter s.heap.objs.size l 0 → (∀ b o, s.heap.get? b = some o → h'.get? b = some o) → Q (.ref (s.heap.objs.size + 1)) { s with heap := h' }) :
    wpAny (model prog w) A (call (.type "enumerate") [.ref l]) Q E s := by
  obtain ⟨⟨c, dct, dt, sl⟩, hl, hc, n, hd⟩ := hL
  simp only at hc hd
  subst hc hd
  refine callType_new F.called_enumerate (by decide) (F.typeCall_enumerate_1 _) (F.newCall_enumerate_1 _) (fun obj => F.args_object_init_2 obj _) F.entry_enumerate_new (meets_enumT l items n dct sl) ⟨hl, ?_⟩
  have hz : (s.heap.push { cls := .type "tuple_iterator", data := .fields #[.ref l, .int 0 0] }).objs.size = s.heap.objs.size + 1 := Heap.size_push ..
  show _ ∧ _
  rw [hz]
  have he := Heap.get?_push_size (s.heap.push { cls := .type "tuple_iterator", data := .fields #[.ref l, .int 0 0] }) (o := { cls := .type "enumerate", data := .fields #[.none, .bool false, .ref s.heap.objs.size, rawInt 0, .none, .none] }) rfl
  rw [hz] at he
  exact ⟨⟨_, he, rfl⟩, h _ he ⟨_, Heap.get?_push_of_some _ (Heap.get?_push_size _ rfl), rfl, rfl⟩ fun b o x => Heap.get?_push_of_some _ (Heap.get?_push_of_some _ x)⟩
/-- the tuple at a, each item in a new pair -/
def IteT (K : W.Frag) (a : Addr) : It :=
  ⟨fun i H => ∃ (xs : List V) (x : V), SqT K H a xs ∧ xs[i]? = some x, fun i H v H' => ∃ T x, v = .ref T ∧ H T = none ∧ H' = upd H T (.tup [.int (i : Nat), x]) ∧ ∀ xs, SqT K H a xs → xs[i]? = some x, fun i H => ∃ xs : List V, SqT K H a xs ∧ xs.length ≤ i⟩
theorem turn_enumT {P : Program} {w : World} {K : W.Frag} {elts : List Expr} {kk : Nat} {tpos : Pos} (a e it : Addr) :
    Turn P w K (.Tuple elts kk tpos) (IteT K a) [e, it] e (fun i h => (∃ old, IsEnum h e it ((i : Nat) : Int) old) ∧ h.IsTupleIter it a i ∧ e ≠ it) where
  mem := by simp
  obj := fun i h st b hb => by
    obtain ⟨⟨old, he⟩, ⟨o, ho, hc, hd⟩, _⟩ := st
    rcases (show b = e ∨ b = it by simpa using hb) with z | z
    · rw [z]; exact ⟨_, he, fun v q => nomatch q⟩
    · rw [z]; exact ⟨o, ho, fun v q => by rw [hd] at q; cases q⟩
  keep := fun i h h' st k => let ⟨⟨old, he⟩, hi, hne⟩ := st; ⟨⟨old, k e (by simp) _ he⟩, hi.at fun o q => k it (by simp) o q, hne⟩
  item := by
    intro X hP hw hK hc i pins s σ H E I hf st ⟨xs, x, hq, hx⟩
    subst hP hw hK
    obtain ⟨⟨old, he⟩, hit, hne⟩ := st
    obtain ⟨its, rv, p, hz⟩ := I.tuple hq
    obtain ⟨u, hu, ru⟩ := rv.get hx
    have hel : e < s.heap.objs.size := Heap.lt_size he
    have hil : it < s.heap.objs.size := by obtain ⟨_, q, _⟩ := hit; exact Heap.lt_size q
    have hat : a ≠ it := fun z => by
      obtain ⟨o1, q1, c1, _⟩ := hit
      obtain ⟨o2, q2, c2, _⟩ := p
      rw [z] at q2
      rw [q1] at q2; cases q2
      rw [c1] at c2; injection c2 with z; exact absurd z (by decide)
    have hea : e ≠ a := fun z => by
      obtain ⟨o2, q2, c2, _⟩ := p
      rw [← z, show s.heap.get? e = _ from he] at q2; cases q2
      injection c2 with z; exact absurd z (by decide)
    have hxl : i < its.toArray.size := by
      have := (List.getElem?_eq_some_iff.mp hu).1
      simpa using this
    refine wpAny_pyNext_enum_itemD (Draws.tuple (A := X.A.in1) (show X.A.in1.handled = none from I.ok.hd hc) it a hat its.toArray) he ⟨hit, p⟩ hxl hne (by simp [hne, hea]) fun y h' tk hy ho st' hT hsz hk => ?_
    have ey : y = u := by
      have h1 : its.toArray[i]? = some y := hy
      have h2 : its.toArray[i]? = some u := by simpa using hu
      rw [h1] at h2; exact Option.some.inj h2
    subst ey
    obtain ⟨hit', _⟩ := st'
    refine ⟨_, rfl, wpAny_letOwnedTupleGo_enum (s := { s with heap := h', toks := tk + 1 }) ho fun h'' he' sb => ?_⟩
    have hT2 : h''.get? s.heap.objs.size = some { cls := .type "tuple", data := .seq #[.int i tk, y] } := (sb.2 _ (Nat.ne_of_gt hel)).trans hT
    have new : ObjOk X.prog X.w (upd H s.heap.objs.size (.tup [.int (i : Nat), x])) h'' s.heap.objs.size (.tup [.int (i : Nat), x]) :=
      ⟨by show 2 ≤ sizeLine; decide, [.int i tk, y], .cons ⟨_, rfl⟩ (.cons ru .nil), ⟨_, hT2, rfl, _, rfl⟩⟩
    have I1 : Inv X pins σ (upd H s.heap.objs.size (.tup [.int (i : Nat), x])) { s with heap := h'', toks := tk + 1 } :=
      I.turnedNew (ch := [e, it]) (fun b ob hb q => (sb.2 b (fun z => hb (by simp [z]))).trans (hk b ob (fun z => hb (by simp [z])) (fun z => hb (by simp [z])) q)) hf (Nat.le_refl _) new
    refine ⟨.ref s.heap.objs.size, _, I1, rfl, ⟨_, x, rfl, I.hok.fresh (Nat.le_refl _), rfl, fun ys hy => by rw [I.tuple_inj hy hq]; exact hx⟩, ⟨⟨y, ?_⟩, hit'.at fun o q => (sb.2 it (Ne.symm hne)).trans q, hne⟩, fun b hb => ?_⟩
    · rw [show ((i + 1 : Nat) : Int) = (i : Int) + 1 by omega]; exact he'
    · have hb' : b < s.heap.objs.size := by
        rcases (show b = e ∨ b = it by simpa using hb) with z | z
        · rw [z]; exact hel
        · rw [z]; exact hil
      rw [upd_ne (Nat.ne_of_lt hb')]
      exact (hf b hb).1
  done := by
    intro X hP hw hK hc i pins s σ H E I hf st ⟨xs, hq, hx⟩
    subst hP hw hK
    obtain ⟨⟨old, he⟩, hit, hne⟩ := st
    obtain ⟨its, rv, p, hz⟩ := I.tuple hq
    obtain ⟨f0, f1, f2, f3, f4, f5⟩ := hf it (by simp)
    have hl := rv.length
    have hT : s.TypeIs (.ref e) "enumerate" := ⟨_, he, rfl⟩
    unfold pyNext
    refine wpAny_bind (wpAny_attempt (wpAny_callSpecial?_slot (name := Str.ofString "__next__") hT PySem.F.slot_enumerate_next
      (wpAny_call_entry PySem.F.slot_enumerate_next hT PySem.F.entry_enumerate_next ?_ (PySem.F.args_enumerate_next_1 _))))
    show wpAny _ _ (field (.ref e) 2 >>= _) _ _ _
    refine wpAny_bind (wpAny_field he rfl (x := .ref it) rfl ?_)
    refine wpAny_bind (wpAny_nextOf_tuple_end (show X.A.in1.handled = none from I.ok.hd hc) hit p (by simp; omega) fun h' x he' hx' => ?_)
    obtain ⟨o, ho, hc'⟩ := hx'
    refine wpAny_bind (wpAny_isInstance (T := "StopIteration") (b := true) ⟨o, ho, hc'⟩ isSubtype_stop ?_)
    exact wpAny_pure ⟨rfl, I.turned (t' := s.toks) (fun b o hb q => he' b o hb q) f0 f1 f3 f4 f5⟩
  self := fun A i s Q E st h => let ⟨⟨_, he⟩, _⟩ := st; wpAny_pyIter_enum he h
section
variable {X : Cx} {T : TX X} {ρ : Rho} {C : Cells} {Q : QE} {e a b c o : Expr} {pos p apos cpos tpos : Pos} {es elts : List Expr} {d d1 d2 : D} {ds ds2 : List D} {kk : Nat}
theorem pi_enumT {ta : TA} (hg : Gl X "enumerate") (hm : X.mg "enumerate" = none) (ha : PA X [e] ta) (hs : starEach [e] X.env = [(false, eval e X.env)] := by rfl) :
    PI X (.Tuple elts kk tpos) (.Call (.Name "enumerate" p) [e] [] pos) (fun σ H R => ta σ H fun vs H1 => ∃ a xs, vs = [.ref a] ∧ ((SqL X.K H1 a xs ∧ R (Ite X.K a) H1) ∨ (SqT X.K H1 a xs ∧ R (IteT X.K a) H1))) := by
  refine ⟨fun pins s σ H R I h => ?_⟩
  refine Call_ (ld_blt I hg hm boot_enumerate (callWith_type1 (thn (ha.run pos pins s σ H _ I h) fun us s1 ⟨vs, H1, I1, r1, a, xs, ex, q1⟩ => ?_) hs rfl))
  subst ex
  obtain ⟨u, rfl, r⟩ := r1.one
  cases (show u = Value.ref a from r)
  have fpk : ∀ b ∈ [s1.heap.objs.size + 1, s1.heap.objs.size], FpOk X pins H1 b := fun b hb => by
    have hle : s1.heap.objs.size ≤ b := by
      rcases (show b = s1.heap.objs.size + 1 ∨ b = s1.heap.objs.size by simpa using hb) with z | z
      · rw [z]; exact Nat.le_add_right _ _
      · rw [z]; exact Nat.le_refl _
    exact I1.fpOk hle (I1.hok.fresh hle)
  rcases q1 with ⟨hq, q⟩ | ⟨hq, q⟩
  · obtain ⟨its, rv, p', hz⟩ := I1.list hq
    refine call_enumerate_list p'.isList fun h' he hit hsz hk => wpAny_pyIter_enum he ?_
    exact ⟨s1.heap.objs.size + 1, [s1.heap.objs.size + 1, s1.heap.objs.size], _, _, H1, rfl, I1.kept (t' := s1.toks) hk, turn_enum a (s1.heap.objs.size + 1) s1.heap.objs.size, ⟨⟨.none, he⟩, hit, Nat.succ_ne_self _⟩, fpk, q⟩
  · obtain ⟨its, rv, p', hz⟩ := I1.tuple hq
    refine call_enumT p' fun h' he hit hk => wpAny_pyIter_enum he ?_
    exact ⟨s1.heap.objs.size + 1, [s1.heap.objs.size + 1, s1.heap.objs.size], _, _, H1, rfl, I1.kept (t' := s1.toks) hk, turn_enumT a (s1.heap.objs.size + 1) s1.heap.objs.size, ⟨⟨.none, he⟩, hit, Nat.succ_ne_self _⟩, fpk, q⟩
def enumD : Nat → List D → List D
  | _, [] => []
  | n, d :: ds => .tup [.int n, d] :: enumD (n + 1) ds
theorem enumD_len : ∀ (ds : List D) (n : Nat), (enumD n ds).length = ds.length
  | [], _ => rfl
  | _ :: ds, n => by simp [enumD, enumD_len ds]
theorem enumD_get : ∀ {ds : List D} {n i : Nat} {d : D}, (enumD n ds)[i]? = some d → ∃ y, ds[i]? = some y ∧ d = .tup [.int ((n + i : Nat) : Int), y]
  | [], _, _, _, h => by simp [enumD] at h
  | x :: ds, n, 0, d, h => by simp [enumD] at h; exact ⟨x, rfl, h.symm⟩
  | x :: ds, n, i + 1, d, h => by
    obtain ⟨y, h1, h2⟩ := enumD_get (ds := ds) (n := n + 1) (i := i) (d := d) (by simpa [enumD] using h)
    exact ⟨y, by simpa using h1, by rw [h2]; congr 3; omega⟩
/-- a pair that was just laid -/
theorem pair_rep {K : W.Frag} {H0 H : Hp} {C : Cells} {Tp : Addr} {i : Nat} {x : V} {y : D} (c : CellsR K H0 C H) (n : H Tp = none) (r : Rep K H0 y x) :
    ∃ H0', Stp H0 C H H0' C (upd H Tp (.tup [.int (i : Nat), x])) ∧ CellsR K H0' C (upd H Tp (.tup [.int (i : Nat), x])) ∧ Rep K H0' (.tup [.int (i : Nat), y]) (.ref Tp) := by
  obtain ⟨p2, c2⟩ := stp_new (o := .tup [.int (i : Nat), x]) c n
  exact ⟨_, p2, c2, Tp, _, rfl, .inl (.inl upd_same), Reps.cons rfl (Reps.cons (r.mono p2.base) Reps.nil)⟩
theorem yields_enumT {K : W.Frag} {H0 : Hp} {a : Addr} {vs : List V} (hs : SqT K H0 a vs) (r : Reps K H0 ds vs) : Yields K (IteT K a) H0 (fun _ => True) (enumD 0 ds) where
  go := fun i H0' C H e c _ hi => ⟨vs, vs[i]'(by rw [← r.length, ← enumD_len ds 0]; exact hi), Same.sqT (e.trans c.same) hs, by simp⟩
  stop := fun i H0' C H e c _ hi => ⟨vs, Same.sqT (e.trans c.same) hs, by rw [← r.length, ← enumD_len ds 0]; exact hi⟩
  yld := fun i H0' C H x H' d e c _ hd ⟨Tp, z, e1, n, e2, q⟩ => by
    subst e1; subst e2
    obtain ⟨y, g1, g2⟩ := enumD_get hd
    obtain ⟨v, f1, f2⟩ := r.get g1
    have := q vs (Same.sqT (e.trans c.same) hs)
    rw [f1] at this; cases this
    subst g2
    rw [Nat.zero_add]
    exact pair_rep c n (f2.mono e)
theorem yields_enumL {K : W.Frag} {H0 : Hp} {a : Addr} {vs : List V} (hs : SqL K H0 a vs) (r : Reps K H0 ds vs) : Yields K (Ite K a) H0 (fun _ => True) (enumD 0 ds) where
  go := fun i H0' C H e c _ hi => ⟨vs, vs[i]'(by rw [← r.length, ← enumD_len ds 0]; exact hi), Same.sqL (e.trans c.same) hs, by simp⟩
  stop := fun i H0' C H e c _ hi => ⟨vs, Same.sqL (e.trans c.same) hs, by rw [← r.length, ← enumD_len ds 0]; exact hi⟩
  yld := fun i H0' C H x H' d e c _ hd ⟨Tp, z, e1, n, e2, q⟩ => by
    subst e1; subst e2
    obtain ⟨y, g1, g2⟩ := enumD_get hd
    obtain ⟨v, f1, f2⟩ := r.get g1
    have := q vs (Same.sqL (e.trans c.same) hs)
    rw [f1] at this; cases this
    subst g2
    rw [Nat.zero_add]
    exact pair_rep c n (f2.mono e)
theorem yields_enumC {K : W.Frag} {H0 : Hp} {a : Addr} : Yields K (Ite K a) H0 (fun C => (a, Cell.lst ds) ∈ C) (enumD 0 ds) where
  go := fun i H0' C H e c hm hi => by
    obtain ⟨vs, h1, h2⟩ := c.ok a _ hm
    exact ⟨vs, vs[i]'(by rw [← h2.length, ← enumD_len ds 0]; exact hi), .inl (.inl h1), by simp⟩
  stop := fun i H0' C H e c hm hi => by
    obtain ⟨vs, h1, h2⟩ := c.ok a _ hm
    exact ⟨vs, .inl (.inl h1), by rw [← h2.length, ← enumD_len ds 0]; exact hi⟩
  yld := fun i H0' C H x H' d e c hm hd ⟨Tp, z, e1, n, e2, q⟩ => by
    subst e1; subst e2
    obtain ⟨vs, h1, h2⟩ := c.ok a _ hm
    obtain ⟨y, g1, g2⟩ := enumD_get hd
    obtain ⟨v, f1, f2⟩ := h2.get g1
    have := q vs (.inl (.inl h1))
    rw [f1] at this; cases this
    subst g2
    rw [Nat.zero_add]
    exact pair_rep c n f2
/-- enumerate(x): a list or tuple that stands still, or a list that is a cell and doesn't change meanwhile -/
theorem wi_enum {Q : QI} (hg : Gl X "enumerate") (hm : X.mg "enumerate" = none)
    (h : WE T e ρ C fun d C1 => ∃ ds, ((d = .lst ds ∨ d = .tup ds) ∧ Q (enumD 0 ds) (fun _ => True) C1) ∨ (∃ z, d = .raw (.ref z) ∧ (z, Cell.lst ds) ∈ C1 ∧ Q (enumD 0 ds) (fun C => (z, Cell.lst ds) ∈ C) C1))
    (hs : starEach [e] X.env = [(false, eval e X.env)] := by rfl) (hs2 : starEach [e] X.env = (false, eval e X.env) :: starEach [] X.env := by rfl) : WI T (.Tuple elts kk tpos) (.Call (.Name "enumerate" p) [e] [] pos) ρ C Q := by
  refine PI.imp (pi_enumT hg hm (pa_cons h pa_nil hs2) hs) fun σ H R ⟨H0, at_, k⟩ => ⟨H0, at_, fun v d C1 H1 H01 p1 c1 r1 ⟨ds, q1⟩ => ?_⟩
  rcases q1 with ⟨h1, q⟩ | ⟨z, e1, hz, q⟩
  · rcases h1 with h1 | h1
    · subst h1
      obtain ⟨a, vs, e2, g1, g2⟩ := r1
      subst e2
      exact ⟨a, vs, rfl, .inl ⟨Same.sqL c1.same g1, k _ _ _ C1 H1 H01 p1 c1 (yields_enumL g1 g2) q⟩⟩
    · subst h1
      obtain ⟨a, vs, e2, g1, g2⟩ := r1
      subst e2
      exact ⟨a, vs, rfl, .inr ⟨Same.sqT c1.same g1, k _ _ _ C1 H1 H01 p1 c1 (yields_enumT g1 g2) q⟩⟩
  · subst e1
    obtain rfl : v = .ref z := r1
    obtain ⟨vs, g1, g2⟩ := c1.ok z _ hz
    exact ⟨z, vs, rfl, .inl ⟨.inl (.inl g1), k _ _ _ C1 H1 H01 p1 c1 yields_enumC q⟩⟩
end
end Tr

set_option maxHeartbeats 2000000
namespace Tr
open PySem L2 PySem.Spec PyProof.Rows

/-! ### facts of the top -/
section
variable {K : W.Frag} {x qual : Str} {args : Arguments} {body : List Stmt} {scope : Scope} {f T : Addr} {oc kV doc pm cdv ct oT : Value} {od an dT : Option Addr} {osl sT : Array (Option Value)} {its : List Value} {n : Nat} {dvs : List V} {fd : FuncData} {ps : List Str}
theorem funD0 (l : K.lookup f = some ⟨oc, od, .func (W.fnOf x qual args body scope .none kV doc pm an cdv ct), osl⟩) (c : W.codeIn K cdv qual = true) (k : W.keepIn K (.ref f) = true) :
    FunD K x qual args body scope [] [] f (W.fnOf x qual args body scope .none kV doc pm an cdv ct) := ⟨⟨oc, od, .none, kV, doc, pm, an, cdv, ct, osl, rfl, l, c, .inl ⟨rfl, rfl⟩, .inl rfl⟩, k⟩
theorem funD1 (l : K.lookup f = some ⟨oc, od, .func (W.fnOf x qual args body scope (.ref T) kV doc pm an cdv ct), osl⟩) (c : W.codeIn K cdv qual = true) (k : W.keepIn K (.ref f) = true)
    (lT : K.lookup T = some ⟨oT, dT, .seq its.toArray n, sT⟩) (hv : Vals dvs its) (hd : dvs ≠ []) :
    FunD K x qual args body scope dvs [] f (W.fnOf x qual args body scope (.ref T) kV doc pm an cdv ct) := ⟨⟨oc, od, .ref T, kV, doc, pm, an, cdv, ct, osl, rfl, l, c, .inr ⟨hd, T, _, its, n, rfl, lT, rfl, hv⟩, .inl rfl⟩, k⟩
theorem binds_all (F : FunD K x qual args body scope dvs [] f fd) (n : Nat) (hn : n = ps.length) (hd : dvs ≠ [])
    (h : ∀ (T : Addr) (kV doc pm : Value) (an : Option Addr) (cdv ct : Value) (us its : List Value), us.length = n → its.length = dvs.length →
      ∃ k, bindArgs (W.fnOf x qual args body scope (.ref T) kV doc pm an cdv ct) ⟨us, []⟩ = seqItems? (.ref T) >>= k ∧ k (some its.toArray) = pure (ps.zip us)) : Binds K fd ps [] := by
  obtain ⟨ds, h1, h2⟩ := F.binds1 (ps := ps) n dvs.length hd (by omega) fun T kV doc pm an cdv ct us its hu hi => by
    obtain ⟨k, e1, e2⟩ := h T kV doc pm an cdv ct us its hu hi
    exact ⟨k, e1, by rw [e2, List.drop_of_length_le (by omega), List.append_nil]⟩
  rw [List.drop_length] at h1
  cases h1
  exact h2
theorem kit_ref {C : Addr} {t : Value} {b : Bool} {cd : ClassData} (cl : W.clsIn K C = some cd) (ty : W.typeIn K (.ref C) = some (.type "type")) (ss : W.subIn K t (.ref C) = some b) (ne : (t == .ref C) = false) : W.kitOne K t (.ref C) = some b := by
  unfold W.kitOne
  rw [ne]
  simp only [Bool.false_eq_true, if_false]
  unfold W.kitCls
  simp only [cl, ty, ss]
  rfl
theorem kit_self {C : Addr} : W.kitOne K (.ref C) (.ref C) = some true := by
  unfold W.kitOne
  simp
/-- a tuple among the module's objects -/
theorem rep_ktup {H : Hp} {a : Addr} {vs : List V} {ds : List D} (l : K.lookup a = some ⟨.type "tuple", od, .seq its.toArray n, osl⟩) (hz : its.length ≤ 100000) (hv : Vals vs its) (r : Reps K H ds vs) : Rep K H (.tup ds) (.ref a) :=
  ⟨a, vs, rfl, .inr ⟨_, _, n, l, rfl, rfl, Nat.le_trans (by simpa using hz) (show 100000 ≤ sizeLine by decide), by simpa using hv⟩, r⟩
end
end Tr

set_option maxHeartbeats 2000000
namespace Tr
open PySem L2 PySem.Spec PyProof.Rows
theorem nn {b : Bool} (h : ¬ (!b) = true) : b = true := by cases b with | true => rfl | false => exact absurd rfl h
theorem nd {p : Prop} [Decidable p] (h : ¬ (!decide p) = true) : p := of_decide_eq_true (nn h)
theorem nf {b : Bool} (h : (!b) = true) : b = false := by cases b with | true => cases h | false => rfl
section
variable {X : Cx} {T : TX X} {ρ : Rho} {C : Cells} {Q : QE} {e a b c o : Expr} {pos p apos cpos tpos : Pos} {es elts : List Expr} {d d1 d2 : D} {ds ds2 : List D} {N N' : TEnds} {st : List Stmt}
theorem wt_chain2 {op op' : CmpOp} {Q : QT} (h : WE T a ρ C fun d1 C1 => WE T b ρ C1 fun d2 C2 => OW T (compareOp op) d1 d2 C2 fun d C3 => ∃ k, d = .bl k ∧ if k = true then WE T c ρ C3 (fun d3 C4 => OW T (compareOp op') d2 d3 C4 fun d C5 => ∃ k, d = .bl k ∧ Q k C5) else Q false C3)
    (hm : lastMarks [op, op'] [b, c] = false := by with_unfolding_all rfl) : WT T (.Compare a [op, op'] [b, c] pos) ρ C Q :=
  wt_chain h (pt_chain (op_some T _) (op_some T _) h (pe_some T ρ b) (pe_some T ρ c) hm)
theorem WSs.mono (h : WSs T st ρ C N) (n : ∀ ρ C, N.nx ρ C → N'.nx ρ C) (r : ∀ d C, N.rt d C → N'.rt d C) (b : ∀ ρ C, N.bk ρ C → N'.bk ρ C) (c : ∀ ρ C, N.ct ρ C → N'.ct ρ C) : WSs T st ρ C N' :=
  PSs.imp h fun Dn σ H ⟨H0, at_, k⟩ => ⟨H0, at_, ⟨fun ρ' σ' C' H' H0' p cc s l q => k.nx ρ' σ' C' H' H0' p cc s l (n _ _ q), fun v d C' H' H0' p cc rr q => k.rt v d C' H' H0' p cc rr (r _ _ q),
    fun ρ' σ' C' H' H0' p cc s l q => k.bk ρ' σ' C' H' H0' p cc s l (b _ _ q), fun ρ' σ' C' H' H0' p cc s l q => k.ct ρ' σ' C' H' H0' p cc s l (c _ _ q)⟩⟩
theorem WG.mono {tg : Expr} {Q Q' : QS} (h : WG T tg d ρ C Q) (i : ∀ ρ C, Q ρ C → Q' ρ C) : WG T tg d ρ C Q' :=
  PG.imp h fun v σ H R ⟨H0, at_, r, k⟩ => ⟨H0, at_, r, fun ρ' σ' C' H' H0' p cc s l q => k ρ' σ' C' H' H0' p cc s l (i _ _ q)⟩
/-- a loop by its invariant -/
theorem forW_inv {tg : Expr} {body : List Stmt} {P : Cells → Prop} (I : Nat → Rho → Cells → Prop) (hp : ∀ i ρ C, I i ρ C → P C)
    (step : ∀ i d ρ C, ds[i]? = some d → I i ρ C → WG T tg d ρ C fun ρ1 C1 => WSs T body ρ1 C1 { nx := I (i + 1), ct := I (i + 1), bk := N.nx, rt := N.rt }) (fin : ∀ ρ C, I ds.length ρ C → N.nx ρ C) (h0 : I 0 ρ C) : ForW T tg body P N ds ρ C := by
  have all : ∀ (r : List D) (i : Nat), ds.drop i = r → i ≤ ds.length → ∀ ρ C, I i ρ C → ForW T tg body P N r ρ C := by
    intro r
    induction r with
    | nil =>
      intro i hd hi ρ C h
      have e : i = ds.length := by
        have := congrArg List.length hd
        simp at this; omega
      subst e
      exact ⟨hp _ _ _ h, fin _ _ h⟩
    | cons d r ih =>
      intro i hd hi ρ C h
      have hlt : i < ds.length := by
        have := congrArg List.length hd
        simp at this; omega
      have hg : ds[i]? = some d := by
        rw [List.drop_eq_getElem_cons hlt] at hd
        injection hd with h1 h2
        rw [← h1]; simp [hlt]
      have hd' : ds.drop (i + 1) = r := by
        rw [List.drop_eq_getElem_cons hlt] at hd
        injection hd with h1 h2
      refine ⟨hp _ _ _ h, (step i d ρ C hg h).mono fun ρ1 C1 w => w.mono (fun ρ C q => ih (i + 1) hd' hlt ρ C q) (fun _ _ q => q) (fun _ _ q => q) (fun ρ C q => ih (i + 1) hd' hlt ρ C q)⟩
  exact all ds 0 (by simp) (Nat.zero_le _) ρ C h0
/-- a comprehension that only looks -/
theorem lcw_map {scope : Scope} {bd : Bind} {elt : Expr} {vs : List Nat} {P : Cells → Prop} (f : D → D) (hp : P C) (h : ∀ d ∈ ds, ∃ ρ', bd.to d (wipeR ρ vs) = some ρ' ∧ InBlk T scope fun T' => WE T' elt ρ' C fun y C2 => y = f d ∧ C2 = C)
    (hl : ds.length ≤ 100000) (q : Q (.lst (ds.map f)) C) : LcW T scope bd elt vs ρ P Q ds [] C := by
  have all : ∀ (r acc : List D), acc.length + r.length ≤ 100000 → (∀ d ∈ r, d ∈ ds) → Q (.lst (acc ++ r.map f)) C → LcW T scope bd elt vs ρ P Q r acc C := by
    intro r
    induction r with
    | nil => intro acc hl hm q; rw [List.map_nil, List.append_nil] at q; exact ⟨hp, q⟩
    | cons d r ih =>
      intro acc hl hm q
      obtain ⟨ρ', h1, h2⟩ := h d (hm d List.mem_cons_self)
      simp only [List.length_cons] at hl
      refine ⟨hp, ρ', h1, fun s H Ca cl fp => (h2 s H Ca cl fp).mono fun y C2 ⟨e1, e2⟩ => ?_⟩
      subst e1; subst e2
      exact ⟨by omega, ih (acc ++ [f d]) (by simp; omega) (fun x hx => hm x (List.mem_cons_of_mem _ hx)) (by rw [List.append_assoc]; exact q)⟩
  exact all ds [] (by simpa using hl) (fun _ h => h) (by simpa using q)
/-- the same over l.map g -/
theorem lcw_mapG {α : Type} {scope : Scope} {bd : Bind} {elt : Expr} {vs : List Nat} {P : Cells → Prop} (l : List α) (g f : α → D) (hp : P C) (h : ∀ a ∈ l, ∃ ρ', bd.to (g a) (wipeR ρ vs) = some ρ' ∧ InBlk T scope fun T' => WE T' elt ρ' C fun y C2 => y = f a ∧ C2 = C)
    (hl : l.length ≤ 100000) (q : Q (.lst (l.map f)) C) : LcW T scope bd elt vs ρ P Q (l.map g) [] C := by
  have all : ∀ (r : List α) (acc : List D), acc.length + r.length ≤ 100000 → (∀ d ∈ r, d ∈ l) → Q (.lst (acc ++ r.map f)) C → LcW T scope bd elt vs ρ P Q (r.map g) acc C := by
    intro r
    induction r with
    | nil => intro acc hl hm q; rw [List.map_nil, List.append_nil] at q; exact ⟨hp, q⟩
    | cons d r ih =>
      intro acc hl hm q
      obtain ⟨ρ', h1, h2⟩ := h d (hm d List.mem_cons_self)
      simp only [List.length_cons] at hl
      refine ⟨hp, ρ', h1, fun s H Ca cl fp => (h2 s H Ca cl fp).mono fun y C2 ⟨e1, e2⟩ => ?_⟩
      subst e1; subst e2
      exact ⟨by omega, ih (acc ++ [f d]) (by simp; omega) (fun x hx => hm x (List.mem_cons_of_mem _ hx)) (by rw [List.append_assoc]; exact q)⟩
  exact all l [] (by simpa using hl) (fun _ h => h) (by simpa using q)
theorem lcw1_map {scope : Scope} {bd : Bind} {i elt : Expr} {vs : List Nat} {P : Cells → Prop} (g : D → Bool) (f : D → D) (hp : P C)
    (h : ∀ d ∈ ds, ∃ ρ', bd.to d (wipeR ρ vs) = some ρ' ∧ (InBlk T scope fun T' => WT T' i ρ' C fun k C2 => k = g d ∧ C2 = C) ∧ (g d = true → InBlk T scope fun T' => WE T' elt ρ' C fun y C2 => y = f d ∧ C2 = C))
    (hl : ds.length ≤ 100000) (q : Q (.lst ((ds.filter g).map f)) C) : LcW1 T scope bd i elt vs ρ P Q ds [] C := by
  have all : ∀ (r acc : List D), acc.length + r.length ≤ 100000 → (∀ d ∈ r, d ∈ ds) → Q (.lst (acc ++ (r.filter g).map f)) C → LcW1 T scope bd i elt vs ρ P Q r acc C := by
    intro r
    induction r with
    | nil => intro acc hl hm q; rw [List.filter_nil, List.map_nil, List.append_nil] at q; exact ⟨hp, q⟩
    | cons d r ih =>
      intro acc hl hm q
      obtain ⟨ρ', h1, h2, h3⟩ := h d (hm d List.mem_cons_self)
      simp only [List.length_cons] at hl
      refine ⟨hp, ρ', h1, fun s H Ca cl fp => (h2 s H Ca cl fp).mono fun y C2 ⟨e1, e2⟩ => ?_⟩
      subst e1; subst e2
      cases hg : g d with
      | false =>
        rw [List.filter_cons, hg] at q
        exact iteF (ih acc (by omega) (fun x hx => hm x (List.mem_cons_of_mem _ hx)) q)
      | true =>
        rw [List.filter_cons, hg] at q
        refine iteT fun s H Ca cl fp => (h3 hg s H Ca cl fp).mono fun y C2 ⟨e1, e2⟩ => ?_
        subst e1; subst e2
        exact ⟨by omega, ih (acc ++ [f d]) (by simp; omega) (fun x hx => hm x (List.mem_cons_of_mem _ hx)) (by rw [List.append_assoc]; exact q)⟩
  exact all ds [] (by simpa using hl) (fun _ h => h) (by simpa using q)
theorem lcw1_mapG {α : Type} {scope : Scope} {bd : Bind} {i elt : Expr} {vs : List Nat} {P : Cells → Prop} (l : List α) (g f : α → D) (t : α → Bool) (hp : P C)
    (h : ∀ a ∈ l, ∃ ρ', bd.to (g a) (wipeR ρ vs) = some ρ' ∧ (InBlk T scope fun T' => WT T' i ρ' C fun k C2 => k = t a ∧ C2 = C) ∧ (t a = true → InBlk T scope fun T' => WE T' elt ρ' C fun y C2 => y = f a ∧ C2 = C))
    (hl : l.length ≤ 100000) (q : Q (.lst ((l.filter t).map f)) C) : LcW1 T scope bd i elt vs ρ P Q (l.map g) [] C := by
  have all : ∀ (r : List α) (acc : List D), acc.length + r.length ≤ 100000 → (∀ d ∈ r, d ∈ l) → Q (.lst (acc ++ (r.filter t).map f)) C → LcW1 T scope bd i elt vs ρ P Q (r.map g) acc C := by
    intro r
    induction r with
    | nil => intro acc hl hm q; rw [List.filter_nil, List.map_nil, List.append_nil] at q; exact ⟨hp, q⟩
    | cons d r ih =>
      intro acc hl hm q
      obtain ⟨ρ', h1, h2, h3⟩ := h d (hm d List.mem_cons_self)
      simp only [List.length_cons] at hl
      refine ⟨hp, ρ', h1, fun s H Ca cl fp => (h2 s H Ca cl fp).mono fun y C2 ⟨e1, e2⟩ => ?_⟩
      subst e1; subst e2
      cases hg : t d with
      | false =>
        rw [List.filter_cons, hg] at q
        exact iteF (ih acc (by omega) (fun x hx => hm x (List.mem_cons_of_mem _ hx)) q)
      | true =>
        rw [List.filter_cons, hg] at q
        refine iteT fun s H Ca cl fp => (h3 hg s H Ca cl fp).mono fun y C2 ⟨e1, e2⟩ => ?_
        subst e1; subst e2
        exact ⟨by omega, ih (acc ++ [f d]) (by simp; omega) (fun x hx => hm x (List.mem_cons_of_mem _ hx)) (by rw [List.append_assoc]; exact q)⟩
  exact all l [] (by simpa using hl) (fun _ h => h) (by simpa using q)
/-- a call that asks for all its cells, or for none -/
theorem asks_all {F : FS} (h : F ds C (fun d μ' => Q d μ') fun cls fs μ' => T.XQ cls fs ρ μ') : Asks T F ρ ds C Q := ⟨C, [], by simp, by simpa using h⟩
theorem asks_none {F : FS} (h : F ds [] (fun d μ' => Q d (μ' ++ C)) fun cls fs μ' => T.XQ cls fs ρ (μ' ++ C)) : Asks T F ρ ds C Q := ⟨[], C, by simp, h⟩
theorem asksM_all {F : FS} {Cl : Addr} (h : ∀ z, F (.raw (.ref z) :: ds) ((z, .ins Cl [] []) :: C) (fun d μ' => d = .non ∧ Q (.raw (.ref z)) μ') fun cls fs μ' => T.XQ cls fs ρ μ') : AsksM T F Cl ρ ds C Q := ⟨C, [], by simp, fun z => by simpa using h z⟩
theorem asksN_all {F : FS} (h : F ds C Q fun _ _ _ => False) : AsksN F ds C Q := ⟨C, [], by simp, by simpa using h⟩
/-- a text among written ones -/
theorem ow_inT {s : Str} {xs : List Str} (e : ds = xs.map D.str) (q : Q (.bl (decide (s ∈ xs))) C) : OW T (compareOp .In) (.str s) (.tup ds) C Q :=
  ow_in .t rfl (by subst e; simp [flatD]) (by subst e; rw [inD_strs]; exact q)
theorem ow_notInT {s : Str} {xs : List Str} (e : ds = xs.map D.str) (q : Q (.bl (!decide (s ∈ xs))) C) : OW T (compareOp .NotIn) (.str s) (.tup ds) C Q :=
  ow_notIn .t rfl (by subst e; simp [flatD]) (by subst e; rw [inD_strs]; exact q)
theorem Yields.weak {K : W.Frag} {J : It} {H0 : Hp} {P P' : Cells → Prop} (y : Yields K J H0 P ds) (i : ∀ C, P' C → P C) : Yields K J H0 P' ds :=
  ⟨fun i' H0' C H e c p hi => y.go i' H0' C H e c (i C p) hi, fun i' H0' C H e c p hi => y.stop i' H0' C H e c (i C p) hi, fun i' H0' C H x H' d e c p hd hy => y.yld i' H0' C H x H' d e c (i C p) hd hy⟩
/-- a list or a tuple, standing still or a cell -/
theorem wi_enumS {Q : QI} {kk : Nat} (hg : Gl X "enumerate") (hm : X.mg "enumerate" = none) (h : WE T e ρ C fun d C1 => ∃ ds, SeqD C1 d ds ∧ Q (enumD 0 ds) (fun C' => SeqD C' d ds) C1)
    (hs : starEach [e] X.env = [(false, eval e X.env)] := by rfl) (hs2 : starEach [e] X.env = (false, eval e X.env) :: starEach [] X.env := by rfl) : WI T (.Tuple elts kk tpos) (.Call (.Name "enumerate" p) [e] [] pos) ρ C Q := by
  refine PI.imp (pi_enumT hg hm (pa_cons h pa_nil hs2) hs) fun σ H R ⟨H0, at_, k⟩ => ⟨H0, at_, fun v d C1 H1 H01 p1 c1 r1 ⟨ds, hq, q⟩ => ?_⟩
  rcases hq with (e1 | ⟨z, e1, hz⟩) | e1
  · subst e1
    obtain ⟨a, vs, e2, g1, g2⟩ := r1
    subst e2
    exact ⟨a, vs, rfl, .inl ⟨Same.sqL c1.same g1, k _ _ _ C1 H1 H01 p1 c1 ((yields_enumL g1 g2).weak fun _ _ => trivial) q⟩⟩
  · subst e1
    obtain rfl : v = .ref z := r1
    obtain ⟨vs, g1, g2⟩ := c1.ok z _ hz
    refine ⟨z, vs, rfl, .inl ⟨.inl (.inl g1), k _ _ _ C1 H1 H01 p1 c1 (yields_enumC.weak fun C' h => ?_) q⟩⟩
    rcases h with (h | ⟨z', h, hm⟩) | h
    · cases h
    · cases h; exact hm
    · cases h
  · subst e1
    obtain ⟨a, vs, e2, g1, g2⟩ := r1
    subst e2
    exact ⟨a, vs, rfl, .inr ⟨Same.sqT c1.same g1, k _ _ _ C1 H1 H01 p1 c1 ((yields_enumT g1 g2).weak fun _ _ => trivial) q⟩⟩
theorem hu_G {k : Nat} {A : Around} (r : RoomG k A) : A.units + 64 < cLine := by have := r.rm.un; omega
theorem eqv_strs : ∀ xs ys : List Str, PyData.eqvAll (toPys (xs.map D.str)) (toPys (ys.map D.str)) = decide (xs = ys)
  | [], [] => rfl
  | [], y :: ys => by simp [toPys, PyData.eqvAll]
  | x :: xs, [] => by simp [toPys, PyData.eqvAll]
  | x :: xs, y :: ys => by
    have ih := eqv_strs xs ys
    rw [List.map_cons, List.map_cons]
    unfold toPys
    rw [PyData.eqvAll, ih]
    unfold toPy
    rw [PyData.eqv]
    by_cases h1 : x = y <;> by_cases h2 : xs = ys <;> simp [h1, h2]
theorem lay_strs : ∀ {xs : List Str}, (∀ x ∈ xs, PyData.strOk x = true) → PyData.canLayAll0 (toPys (xs.map D.str)) = true ∧ PyData.depthAll (toPys (xs.map D.str)) = 0
  | [], _ => ⟨rfl, rfl⟩
  | x :: xs, h => by
    obtain ⟨h1, h2⟩ := lay_strs (xs := xs) fun y hy => h y (List.mem_cons_of_mem _ hy)
    rw [List.map_cons]
    unfold toPys
    refine ⟨?_, ?_⟩
    · rw [PyData.canLayAll0, h1]
      unfold toPy
      rw [PyData.canLay0, h x List.mem_cons_self]; rfl
    · rw [PyData.depthAll, h2]
      unfold toPy
      rw [PyData.depth]; rfl
theorem shaped_tupS {xs : List Str} (h : ∀ x ∈ xs, PyData.strOk x = true) : SeqAt.shaped (.tuple (toPys (xs.map D.str))) = true := by
  obtain ⟨h1, h2⟩ := lay_strs h
  unfold SeqAt.shaped
  rw [PyData.canLay0, h1, PyData.depth, h2]; rfl
theorem shaped_lstS {xs : List Str} (h : ∀ x ∈ xs, PyData.strOk x = true) : SeqAt.shaped (.list (toPys (xs.map D.str))) = true := by
  obtain ⟨h1, h2⟩ := lay_strs h
  unfold SeqAt.shaped
  rw [PyData.canLay0, h1, PyData.depth, h2]; rfl
theorem plain_strs : ∀ xs : List Str, plainDs (xs.map D.str) = true
  | [] => rfl
  | x :: xs => by rw [List.map_cons]; unfold plainDs; rw [plain_strs xs]; rfl
theorem pyR_l (h : LstD C d ds) (hp : plainDs ds = true) : PyR C d (.list (toPys ds)) := by
  rcases h with rfl | ⟨a, rfl, hm⟩
  · exact .inl ⟨hp, rfl⟩
  · exact .inr ⟨a, ds, rfl, hm, hp, rfl⟩
theorem pyR_tup (hp : plainDs ds = true) : PyR C (.tup ds) (.tuple (toPys ds)) := .inl ⟨hp, rfl⟩
section
variable {xs ys : List Str} (hu : X.A.units + 64 < cLine) (hx : ∀ x ∈ xs, PyData.strOk x = true) (hy : ∀ x ∈ ys, PyData.strOk x = true)
include hu hx hy
theorem ow_eqTS (q : Q (.bl (decide (xs = ys))) C) : OW T (compareOp .Eq) (.tup (xs.map D.str)) (.tup (ys.map D.str)) C Q :=
  ow_eq hu (pyR_tup (plain_strs xs)) (pyR_tup (plain_strs ys)) (shaped_tupS hx) (shaped_tupS hy) (by rw [PyData.eqv, eqv_strs]; exact q)
theorem ow_neTS (q : Q (.bl (!decide (xs = ys))) C) : OW T (compareOp .NotEq) (.tup (xs.map D.str)) (.tup (ys.map D.str)) C Q :=
  ow_ne hu (pyR_tup (plain_strs xs)) (pyR_tup (plain_strs ys)) (shaped_tupS hx) (shaped_tupS hy) (by rw [PyData.eqv, eqv_strs]; exact q)
theorem ow_eqLS (h1 : LstD C d1 (xs.map D.str)) (h2 : LstD C d2 (ys.map D.str)) (q : Q (.bl (decide (xs = ys))) C) : OW T (compareOp .Eq) d1 d2 C Q :=
  ow_eq hu (pyR_l h1 (plain_strs xs)) (pyR_l h2 (plain_strs ys)) (shaped_lstS hx) (shaped_lstS hy) (by rw [PyData.eqv, eqv_strs]; exact q)
theorem ow_neLS (h1 : LstD C d1 (xs.map D.str)) (h2 : LstD C d2 (ys.map D.str)) (q : Q (.bl (!decide (xs = ys))) C) : OW T (compareOp .NotEq) d1 d2 C Q :=
  ow_ne hu (pyR_l h1 (plain_strs xs)) (pyR_l h2 (plain_strs ys)) (shaped_lstS hx) (shaped_lstS hy) (by rw [PyData.eqv, eqv_strs]; exact q)
end
/-- lists of ints -/
theorem eqv_ints : ∀ xs ys : List Int, PyData.eqvAll (toPys (xs.map D.int)) (toPys (ys.map D.int)) = decide (xs = ys)
  | [], [] => rfl
  | [], y :: ys => by simp [toPys, PyData.eqvAll]
  | x :: xs, [] => by simp [toPys, PyData.eqvAll]
  | x :: xs, y :: ys => by
    have ih := eqv_ints xs ys
    rw [List.map_cons, List.map_cons]
    unfold toPys
    rw [PyData.eqvAll, ih]
    unfold toPy
    rw [PyData.eqv]
    by_cases h1 : x = y <;> by_cases h2 : xs = ys <;> simp [h1, h2]
theorem lay_ints : ∀ xs : List Int, PyData.canLayAll0 (toPys (xs.map D.int)) = true ∧ PyData.depthAll (toPys (xs.map D.int)) = 0
  | [] => ⟨rfl, rfl⟩
  | x :: xs => by
    obtain ⟨h1, h2⟩ := lay_ints xs
    rw [List.map_cons]
    unfold toPys
    refine ⟨?_, ?_⟩
    · rw [PyData.canLayAll0, h1]; rfl
    · rw [PyData.depthAll, h2]; rfl
theorem plain_ints : ∀ xs : List Int, plainDs (xs.map D.int) = true
  | [] => rfl
  | x :: xs => by rw [List.map_cons]; unfold plainDs; rw [plain_ints xs]; rfl
theorem shaped_lstI (xs : List Int) : SeqAt.shaped (.list (toPys (xs.map D.int))) = true := by
  obtain ⟨h1, h2⟩ := lay_ints xs
  unfold SeqAt.shaped
  rw [PyData.canLay0, h1, PyData.depth, h2]; rfl
theorem ow_eqLI {xs ys : List Int} (hu : X.A.units + 64 < cLine) (h1 : LstD C d1 (xs.map D.int)) (h2 : LstD C d2 (ys.map D.int)) (q : Q (.bl (decide (xs = ys))) C) : OW T (compareOp .Eq) d1 d2 C Q :=
  ow_eq hu (pyR_l h1 (plain_ints xs)) (pyR_l h2 (plain_ints ys)) (shaped_lstI xs) (shaped_lstI ys) (by rw [PyData.eqv, eqv_ints]; exact q)
theorem ow_neLI {xs ys : List Int} (hu : X.A.units + 64 < cLine) (h1 : LstD C d1 (xs.map D.int)) (h2 : LstD C d2 (ys.map D.int)) (q : Q (.bl (!decide (xs = ys))) C) : OW T (compareOp .NotEq) d1 d2 C Q :=
  ow_ne hu (pyR_l h1 (plain_ints xs)) (pyR_l h2 (plain_ints ys)) (shaped_lstI xs) (shaped_lstI ys) (by rw [PyData.eqv, eqv_ints]; exact q)
theorem show_strs : ∀ {xs : List Str}, (∀ x ∈ xs, PyData.strOk x = true) →
    PyData.showableAll (toPys (xs.map D.str)) = true ∧ PyData.hasDictAll (toPys (xs.map D.str)) = false ∧ PyData.intsShortAll 8 (toPys (xs.map D.str)) = true ∧ PyData.weightAll (toPys (xs.map D.str)) = (xs.map (·.length)).sum + xs.length
  | [], _ => ⟨rfl, rfl, rfl, rfl⟩
  | x :: xs, h => by
    obtain ⟨h1, h2, h3, h4⟩ := show_strs (xs := xs) fun y hy => h y (List.mem_cons_of_mem _ hy)
    rw [List.map_cons]
    unfold toPys toPy
    refine ⟨?_, ?_, ?_, ?_⟩
    · rw [PyData.showableAll, h1]; rfl
    · rw [PyData.hasDictAll, h2]; rfl
    · rw [PyData.intsShortAll, h3]; rfl
    · rw [PyData.weightAll, h4, PyData.weight, List.map_cons, List.sum_cons, List.length_cons]
      show x.length + 1 + _ = _
      omega
/-- repr of a tuple, a list of texts -/
def reprT (xs : List Str) : Str := PyData.shown (.tuple (toPys (xs.map D.str)))
def reprL (xs : List Str) : Str := PyData.shown (.list (toPys (xs.map D.str)))
theorem reprT_len {xs : List Str} (hx : ∀ x ∈ xs, PyData.strOk x = true) : (reprT xs).length ≤ 10 * ((xs.map (·.length)).sum + xs.length) + 8 := by
  obtain ⟨h1, h2, h3, h4⟩ := show_strs hx
  have := PyData.shown_le 8 (by decide) (.tuple (toPys (xs.map D.str))) (PyData.leavesShort_of_canLay0 8 _ (by rw [PyData.canLay0]; exact (lay_strs hx).1) (by rw [PyData.intsShort]; exact h3))
  rw [PyData.weight, h4] at this
  exact this
theorem reprL_len {xs : List Str} (hx : ∀ x ∈ xs, PyData.strOk x = true) : (reprL xs).length ≤ 10 * ((xs.map (·.length)).sum + xs.length) + 8 := by
  obtain ⟨h1, h2, h3, h4⟩ := show_strs hx
  have := PyData.shown_le 8 (by decide) (.list (toPys (xs.map D.str))) (PyData.leavesShort_of_canLay0 8 _ (by rw [PyData.canLay0]; exact (lay_strs hx).1) (by rw [PyData.intsShort]; exact h3))
  rw [PyData.weight, h4] at this
  exact this
theorem cw_reprTS {xs : List Str} (hg : X.A.guards = some []) (hu : X.A.units + 64 < cLine) (hx : ∀ x ∈ xs, PyData.strOk x = true) (hz : (xs.map (·.length)).sum + xs.length ≤ 9000) (q : Q (.str (reprT xs)) C) : CW T (.builtin "repr") [.tup (xs.map D.str)] C Q := by
  obtain ⟨h1, h2, h3, h4⟩ := show_strs hx
  have hd : (PyData.tuple (toPys (xs.map D.str))).depth = 1 := by rw [PyData.depth, (lay_strs hx).2]
  refine cw_repr (p := .tuple (toPys (xs.map D.str))) hg (pyR_tup (plain_strs xs)) rfl (by rw [PyData.showable]; exact h1) (by rw [PyData.hasDict]; exact h2) (by rw [hd]; omega) ?_ q
  have := reprT_len hx
  show (reprT xs).length ≤ _
  omega
theorem cw_reprLS {xs : List Str} (hg : X.A.guards = some []) (hu : X.A.units + 64 < cLine) (hx : ∀ x ∈ xs, PyData.strOk x = true) (hz : (xs.map (·.length)).sum + xs.length ≤ 9000) (h : LstD C d (xs.map D.str)) (q : Q (.str (reprL xs)) C) : CW T (.builtin "repr") [d] C Q := by
  obtain ⟨h1, h2, h3, h4⟩ := show_strs hx
  have hd : (PyData.list (toPys (xs.map D.str))).depth = 1 := by rw [PyData.depth, (lay_strs hx).2]
  refine cw_repr (p := .list (toPys (xs.map D.str))) hg (pyR_l h (plain_strs xs)) rfl (by rw [PyData.showable]; exact h1) (by rw [PyData.hasDict]; exact h2) (by rw [hd]; omega) ?_ q
  have := reprL_len hx
  show (reprL xs).length ≤ _
  omega
def cutL {α : Type} (l : List α) (lo hi : Option Int) : List α := (l.drop (HT.sIx l.length 0 lo)).take (HT.sIx l.length l.length hi - HT.sIx l.length 0 lo)
theorem cutD_map {α : Type} (f : α → D) (l : List α) (lo hi : Option Int) : cutD (l.map f) lo hi = (cutL l lo hi).map f := by
  unfold cutD cutL
  rw [List.length_map, List.map_take, List.map_drop]
theorem cutL_mem {α : Type} {l : List α} {lo hi : Option Int} {x : α} (h : x ∈ cutL l lo hi) : x ∈ l := List.mem_of_mem_drop (List.mem_of_mem_take h)
theorem sub_sum {l m : List Str} (h : m.Sublist l) : (m.map (·.length)).sum ≤ (l.map (·.length)).sum := by
  induction h with
  | slnil => simp
  | cons a _ ih => simp only [List.map_cons, List.sum_cons]; omega
  | cons_cons a _ ih => simp only [List.map_cons, List.sum_cons]; omega
theorem cutL_sum {l : List Str} {lo hi : Option Int} : ((cutL l lo hi).map (·.length)).sum + (cutL l lo hi).length ≤ (l.map (·.length)).sum + l.length := by
  have sub : (cutL l lo hi).Sublist l := (List.take_sublist _ _).trans (List.drop_sublist _ _)
  have h1 := sub.length_le
  have h2 := sub_sum sub
  omega
/-! ### cells in another order, or some of them -/
theorem stp_part {K : W.Frag} {H0 H : Hp} {C C' r : Cells} (c : CellsR K H0 C H) (pm : C.Perm (C' ++ r)) : Stp H0 C H H0 C' H ∧ CellsR K H0 C' H :=
  ⟨⟨Same.refl _, fun a o h _ => h, fun a h e n => ⟨e, fun ⟨x, hx⟩ => n ⟨x, pm.mem_iff.mpr (List.mem_append_left _ hx)⟩⟩⟩, c.part pm⟩
theorem wss_part {C' r : Cells} (pm : C.Perm (C' ++ r)) (h : WSs T st ρ C' N) : WSs T st ρ C N :=
  PSs.imp h fun Dn σ H ⟨H0, at_, k⟩ => let ⟨p, c⟩ := stp_part at_.c pm; ⟨H0, at_.step p c, k.after p c⟩
theorem we_part {C' r : Cells} (pm : C.Perm (C' ++ r)) (h : WE T e ρ C' Q) : WE T e ρ C Q :=
  PE.imp h fun σ H R ⟨H0, at_, k⟩ => let ⟨p, c⟩ := stp_part at_.c pm; ⟨H0, at_.step p c, k.after p c fun _ _ z => z⟩
/-- xs[i] = d on a list that is a cell -/
theorem wg_subL {Q : QS} (j : Nat) (h : WE T o ρ C fun od C1 => WE T b ρ C1 fun id C2 => ∃ z ds k n, od = .raw (.ref z) ∧ id = .int k ∧ C2[j]? = some (z, .lst ds) ∧ ixN ds.length k = some n ∧ Q ρ (C2.set j (z, .lst (ds.set n d))))
    (ha : ∀ v, assign (.Subscript o b pos) X.env v = (do
      let ov ← holding [v] (eval o X.env)
      let iv ← holding [v, ov] (eval b X.env)
      standAt pos
      holding [v, ov, iv] (setItem ov iv v)
      release [v, ov, iv] []) := by intro _; rfl) : WG T (.Subscript o b pos) d ρ C Q :=
  PG.imp (pg_sub h (pe_some T ρ b) set_list ha) fun v σ H R ⟨H0, at_, r, k⟩ => ⟨H0, at_, fun v1 od C1 H1 H01 p1 c1 r1 q1 => ⟨C1, _, q1, H01, at_.step p1 c1, fun v2 id C2 H2 H02 p2 c2 r2 ⟨z, ds, kk, n, e1, e2, hi, hn, q⟩ => by
    subst e1; subst e2
    obtain rfl : v1 = .ref z := r1
    cases r2
    obtain ⟨vs, g1, g2⟩ := c2.ok z _ (List.mem_iff_getElem?.mpr ⟨j, hi⟩)
    obtain ⟨p3, c3⟩ := stp_write (o := .lst (vs.set n v)) c2 hi (c' := .lst (ds.set n d)) ⟨_, upd_same, Reps.set ((r.mono p1.base).mono p2.base) n g2⟩
    have at3 := ((at_.step p1 c1).step p2 c2).step p3 c3
    exact ⟨z, vs, kk, n, rfl, rfl, g1, by rw [← g2.length]; exact hn, k _ _ _ _ _ ((p1.trans c1 p2).trans c2 p3) c3 at3.s at3.l q⟩⟩⟩
end
end Tr

set_option maxHeartbeats 2000000
namespace Tr
open PySem L2 PySem.Spec PyProof.Rows
section
variable {X : Cx} {T : TX X} {ρ : Rho} {C : Cells} {Q : QE} {e a b c o : Expr} {pos p apos cpos tpos px py pz pt : Pos} {es elts : List Expr} {d d1 d2 : D} {ds ds2 : List D} {N N' : TEnds} {st : List Stmt} {x y z : Str} {kt k2 : Nat} {pt2 : Pos}
/-- x, y = a, b -/
theorem ws_par (i j : Nat) (hN : X.N.Nodup) (hi : X.N[i]? = some x) (hj : X.N[j]? = some y) (hij : i ≠ j) (hx : X.env.scope.names.lookup x = some .local) (hy : X.env.scope.names.lookup y = some .local)
    (hw : swappedStores [.Tuple [.Name x px, .Name y py] kt pt] (.Tuple [a, b] k2 pt2) X.env = pure (some [x, y]))
    (h : WA T [a, b] ρ C fun ds C1 => ∃ d1 d2, ds = [d1, d2] ∧ N.nx ((ρ.set i (some d1)).set j (some d2)) C1)
    (hs : swapsWithSole [.Tuple [.Name x px, .Name y py] kt pt] (.Tuple [a, b] k2 pt2) pos.line X.env = pure false := by rfl) (hc : X.calm = true := by rfl) :
    WS T (.Assign [.Tuple [.Name x px, .Name y py] kt pt] (.Tuple [a, b] k2 pt2) pos) ρ C N :=
  PS.imp (ps_par hc hN hi hj hij hx hy h hw hs) fun Dn σ H ⟨H0, at_, k⟩ => ⟨H0, at_, fun vs ds C1 H1 H01 p1 c1 r1 ⟨d1, d2, e1, q⟩ => by
    subst e1
    obtain ⟨v, w, e2, g1, g2⟩ := r1.two
    subst e2
    have at1 := at_.step p1 c1
    refine ⟨v, w, rfl, (k.after p1 c1).nx _ _ C1 H1 H01 (Stp.refl _ _ _) c1 (SlotsR.set j (SlotsR.set i at1.s g1 at1.l) g2 (by rw [List.length_set, List.length_set]; exact at1.l)) (by simp only [List.length_set]; exact at1.l) q⟩⟩
theorem Reps.mapF {K : W.Frag} {H : Hp} {α : Type} {f : α → D} {g : α → V} : ∀ {l : List α}, (∀ x ∈ l, Rep K H (f x) (g x)) → Reps K H (l.map f) (l.map g)
  | [], _ => rfl
  | x :: l, h => ⟨_, _, rfl, h x List.mem_cons_self, Reps.mapF fun y hy => h y (List.mem_cons_of_mem _ hy)⟩
/-- list(range(n)) -/
theorem we_listRg1 {p2 pos2 : Pos} (hgl : Gl X "list") (hml : X.mg "list" = none) (hg : Gl X "range") (hm : X.mg "range" = none) (h : WE T a ρ C fun d C1 => ∃ n : Int, d = .int n ∧ 0 ≤ n ∧ n ≤ 100000 ∧ Q (.lst (rangeD 0 n.toNat)) C1)
    (na : starEach [a] X.env = (false, eval a X.env) :: starEach [] X.env := by rfl) (na2 : starEach [.Call (.Name "range" p2) [a] [] pos2] X.env = (false, eval (.Call (.Name "range" p2) [a] [] pos2) X.env) :: starEach [] X.env := by rfl) (hc : X.calm = true := by rfl) :
    WE T (.Call (.Name "list" p) [.Call (.Name "range" p2) [a] [] pos2] [] pos) ρ C Q :=
  PE.imp (pe_listRg hc hgl hml (prg_1 hg hm h na) na2) fun σ H R ⟨H0, at_, k⟩ => ⟨H0, at_, fun v d C1 H1 H01 p1 c1 r1 ⟨n, e1, h0, h1, q⟩ => by
    subst e1
    refine ⟨n, r1, RgOk.of_le (by decide) (by omega) (by decide) h0, fun z hz => ?_⟩
    obtain ⟨p2, c2⟩ := stp_new (o := .lst (rgV 0 n)) c1 hz
    refine k _ (.lst (rangeD 0 n.toNat)) C1 _ _ (p1.trans c1 p2) c2 ⟨z, _, rfl, .inl (.inl upd_same), ?_⟩ q
    unfold rangeD rgV
    rw [Int.sub_zero]
    exact Reps.mapF fun x _ => rfl⟩
/-- a comprehension by its invariant -/
theorem lcw_inv {scope : Scope} {bd : Bind} {elt : Expr} {vs : List Nat} {P : Cells → Prop} (J : Nat → List D → Cells → Prop) (hp : ∀ i acc C, J i acc C → P C)
    (step : ∀ i d acc C, ds[i]? = some d → J i acc C → ∃ ρ', bd.to d (wipeR ρ vs) = some ρ' ∧ InBlk T scope fun T' => WE T' elt ρ' C fun y C2 => acc.length < 100000 ∧ J (i + 1) (acc ++ [y]) C2) (fin : ∀ acc C, J ds.length acc C → Q (.lst acc) C) (h0 : J 0 [] C) :
    LcW T scope bd elt vs ρ P Q ds [] C := by
  have all : ∀ (r : List D) (i : Nat), ds.drop i = r → i ≤ ds.length → ∀ acc C, J i acc C → LcW T scope bd elt vs ρ P Q r acc C := by
    intro r
    induction r with
    | nil =>
      intro i hd hi acc C h
      have e : i = ds.length := by
        have := congrArg List.length hd
        simp at this; omega
      subst e
      exact ⟨hp _ _ _ h, fin _ _ h⟩
    | cons d r ih =>
      intro i hd hi acc C h
      have hlt : i < ds.length := by
        have := congrArg List.length hd
        simp at this; omega
      rw [List.drop_eq_getElem_cons hlt] at hd
      injection hd with h1 h2
      obtain ⟨ρ', g1, g2⟩ := step i d acc C (by rw [← h1]; simp [hlt]) h
      exact ⟨hp _ _ _ h, ρ', g1, fun s H Ca cl fp => (g2 s H Ca cl fp).mono fun y C2 ⟨l, j⟩ => ⟨l, ih (i + 1) h2 hlt _ _ j⟩⟩
  exact all ds 0 (by simp) (Nat.zero_le _) [] C h0
theorem wss_perm {C' : Cells} (pm : C.Perm C') (h : WSs T st ρ C' N) : WSs T st ρ C N := wss_part (r := []) (by rw [List.append_nil]; exact pm) h
theorem ow_ne_bl {x y : Bool} (q : Q (.bl (x != y)) C) : OW T (compareOp .NotEq) (.bl x) (.bl y) C Q :=
  ow_look (d := .bl (x != y)) op_ne (fun u v H H0 c r1 r2 => by cases r1; cases r2; exact ⟨.bl (x != y), rfl, fun R k => ⟨rfl, by
    rw [show (!decide (V.bl x = V.bl y)) = (x != y) by cases x <;> cases y <;> decide]; exact k⟩⟩) q
theorem ow_eq_bl {x y : Bool} (q : Q (.bl (x == y)) C) : OW T (compareOp .Eq) (.bl x) (.bl y) C Q :=
  ow_look (d := .bl (x == y)) op_eq (fun u v H H0 c r1 r2 => by cases r1; cases r2; exact ⟨.bl (x == y), rfl, fun R k => ⟨rfl, by
    rw [show decide (V.bl x = V.bl y) = (x == y) by cases x <;> cases y <;> decide]; exact k⟩⟩) q
/-- a new instance that stands still from now on; the same with a list -/
theorem we_frzI (h : WE T e ρ C fun d C1 => ∃ (i : Nat) (z Cl : Addr) (ns : List Str) (ds : List D), d = .raw (.ref z) ∧ C1[i]? = some (z, .ins Cl ns ds) ∧ Q (.ins Cl ns ds) (C1.eraseIdx i)) : WE T e ρ C Q :=
  we_frz (h.mono fun d C1 ⟨i, z, Cl, ns, ds, h1, h2, h3⟩ => ⟨i, z, _, h1, h2, h3⟩)
theorem we_frzL (h : WE T e ρ C fun d C1 => ∃ (i : Nat) (z : Addr) (ds : List D), d = .raw (.ref z) ∧ C1[i]? = some (z, .lst ds) ∧ Q (.lst ds) (C1.eraseIdx i)) : WE T e ρ C Q :=
  we_frz (h.mono fun d C1 ⟨i, z, ds, h1, h2, h3⟩ => ⟨i, z, _, h1, h2, h3⟩)
end
end Tr

set_option maxHeartbeats 4000000
namespace Tr
open PySem L2 PySem.Spec PyProof.Rows

/-! ### an own exception whose __init__ calls super().__init__ and stores one field -/
section
variable {prog : Program} {w : World} {A : Around} {E : Value → Shared → Prop} {R : Result → Shared → Prop} {hp : Heap} {g : Array GenState} {d : Drawn} {t : Nat} {os : OsState}
variable {nm q : Str} {C N : Addr} {bs bm bmB : List Value} {hdct : Bool} {sn : List Str} {sub : List Value} {ab : Bool} {col : Option Bool} {dd : Option Addr} {k0 k1 k2 k3 k5 : Option Value} {B newId initId : String}
/-- the bound base __init__: the args are laid anew -/
theorem call_mwI (FB : ExcBaseFacts B newId initId bmB) {u e t0 : Addr} {rest : List Value} {Q : Value → Shared → Prop}
    (hC : hp.get? C = some (excClassObj nm q C N bs bm hdct sn sub ab col dd k0 k1 k2 k3 k5 newId)) (he : hp.get? e = some (HandSPX.excO C t0)) (hu : hp.get? u = some (W.kxs_mw initId e)) (hrest : rest.length ≤ sizeLine)
    (hq : ∀ h' t1, (∀ b o, b ≠ e → hp.get? b = some o → h'.get? b = some o) → h'.get? e = some (HandSPX.excO C t1) → Q .none ⟨h', g, d, t, os⟩) :
    wpAny (model prog w) A (call (.ref u) rest) Q E ⟨hp, g, d, t, os⟩ := by
  refine wpAny_call (codeAny_of_tree ?_)
  show wpAny _ A.in1 (callAny (.ref u) ⟨rest, []⟩) _ _ _
  simp only [callAny]
  refine wpAny_bind (wpAny_load hu ?_)
  simp only [W.kxs_mw, show (Value.type "method-wrapper" == Value.type "method" || Value.type "method-wrapper" == Value.type "builtin_function_or_method" || Value.type "method-wrapper" == Value.type "method-wrapper") = true by decide, if_true]
  refine W.KFB.if_so (by decide) ?_
  refine wpAny_bind (W.check_bound_init FB.toExcCallFacts hC he rfl ?_)
  refine wpAny_bind (wpAny_pure (wpAny_pure ?_))
  refine ⟨plainId_quiet FB.init.plain _, codeAny_builtin FB.initEntry ?_⟩
  rw [Around.under_plainId FB.init.plain _]
  wp_walk
  refine hq _ hp.objs.size (fun b o hb ho => ?_) ?_
  · rw [Heap.get?_update_other _ _ (Ne.symm hb)]
    exact Heap.get?_push_of_some _ ho
  · rw [Heap.get?_update_self _ (Heap.get?_push_of_some _ he) rfl]
    rfl
end
section
variable {prog : Program} {w : World} {A : Around} {R : Result → Shared → Prop} {hp : Heap} {g : Array GenState} {d : Drawn} {t : Nat} {os : OsState} {K : W.Frag} {mg mb : Str → Option Value}
variable {nm q : Str} {C N fI cda cc a t0 : Addr} {bs bm bmB : List Value} {sn : List Str} {sub : List Value} {ab : Bool} {col : Option Bool} {dd od an cdd cld : Option Addr} {k0 k1 k2 k3 k5 : Option Value} {B newId initId : String}
variable {name qual selfN argN fld file : Str} {params : Arguments} {body : List Stmt} {scope : Scope} {oc kV doc pm ct ccl cl v : Value} {osl ccs csl : Array (Option Value)} {vs : Array Value} {tf : Tok} {ar : Arg} {p0 p1 p2 p3 p4 p5 p6 p7 p8 p9 : Pos}
theorem sup_init (FB : ExcBaseFacts B newId initId bmB) (KF : W.KxsFacts B initId) (X : K.In hp) (hg : hp.Ns mainGlobals mg) (hb : hp.Ns builtinsNs mb) (hbb : ∀ x : Str, x ≠ "__name__" → mb x = bootBuiltins x) (hlim : hp.NoLimit)
    (hC : K.lookup C = some (excClassObj nm q C N bs bm true sn sub ab col dd k0 k1 k2 k3 k5 newId)) (hm : HandSPX.refsVE bm = true) (sa : W.findIn K (.ref C) "__setattr__" = some (some (.builtin "object.__setattr__"))) (hno : W.findIn K (.ref C) fld = some none)
    (lf : K.lookup fI = some ⟨oc, od, .func (W.ksFn name qual params body scope .none kV doc pm an (.ref cda) ct cc), osl⟩)
    (lcd : K.lookup cda = some ⟨ccl, cdd, .fields vs, ccs⟩) (hvs : vs[2]? = some (.str file tf)) (hfile : ((prog.main.file : Str) == file) = true) (hcdin : W.codeIn K (.ref cda) qual = true)
    (lcc : K.lookup cc = some ⟨cl, cld, .cell (some (.ref C)), csl⟩) (hsup : mg "super" = none) (hks : scope.names.lookup ("super" : Str) = some .globalImplicit) (hkc : scope.names.lookup ("__class__" : Str) = some .free) (hk : scope.kind = .function)
    (hself : scope.names.lookup selfN = some .local) (harg : scope.names.lookup argN = some .local) (hne : argN ≠ selfN) (hds : (selfN == ("__debug__" : Str)) = false) (hda : (argN == ("__debug__" : Str)) = false)
    (hpar : (params.posonlyargs ++ params.args).head? = some ar) (har : ar.arg = selfN) (hcell : ∀ x ∈ scope.names, x.2 ≠ .cell) (hco : scope.isCoroutine = false) (hgen : scope.isGenerator = false)
    (hbind : ∀ s, BindsTo s (W.ksFn name qual params body scope .none kV doc pm an (.ref cda) ct cc) ⟨[.ref a, v], []⟩ [(selfN, .ref a), (argN, v)])
    (htop : (prog.main.scope.names.lookup ("super" : Str)).isSome = false) (hop : W.nsIn K cStatics "thirdparty.any" = some none) (hal : W.ks_superIn K C C "__init__" = some (some (.builtin initId))) (hBs : W.subIn K (.ref C) (.type B) = some true)
    (hbody : body = [.Expr (.Call (.Attribute (.Call (.Name "super" p0) [] [] p1) "__init__" p2) [.Name argN p3] [] p4) p5, .Assign [.Attribute (.Name selfN p6) fld p7] (.Name argN p8) p9]) (hroom : A.depth < recursionLimit)
    (hi : ∀ L, interactive (W.ksEnv qual scope L fI (.ref cda) cc) = false) (hsw1 : ∀ L, swapsWith (.Call (.Attribute (.Call (.Name "super" p0) [] [] p1) "__init__" p2) [.Name argN p3] [] p4) none p5.line (W.ksEnv qual scope L fI (.ref cda) cc) = pure false)
    (hsw2 : ∀ L, swapsWith (.Name argN p8) (some (.Attribute (.Name selfN p6) fld p7)) p9.line (W.ksEnv qual scope L fI (.ref cda) cc) = pure false)
    (pl : Addr → Sem Bool) (hev : ∀ L, eval (.Call (.Attribute (.Call (.Name "super" p0) [] [] p1) "__init__" p2) [.Name argN p3] [] p4) (W.ksEnv qual scope L fI (.ref cda) cc) = (do
      let ov ← attributeBase (.Call (.Name "super" p0) [] [] p1) "__init__" (W.ksEnv qual scope L fI (.ref cda) cc) (eval (.Call (.Name "super" p0) [] [] p1) (W.ksEnv qual scope L fI (.ref cda) cc))
      standAt p2.atName
      let (f, first) ← holding [ov] (getMethod ov "__init__" (pl L))
      callWith p4 f first (backTo p4 (starEach [.Name argN p3] (W.ksEnv qual scope L fI (.ref cda) cc))) []))
    (ha : hp.get? a = some (HandSPX.excO C t0)) (hKa : K.lookup a = none)
    (hq : ∀ h' tk' dx t1, (∀ b o, b ≠ a → hp.get? b = some o → h'.get? b = some o) → hp.objs.size ≤ dx → dx ≠ a → h'.get? a = some { cls := .ref C, dict := some dx, data := .fields #[.ref t1, .none, .none, .none, .bool false, .none] } →
      h'.Ns1 dx (fun y => if y = fld then some v else none) → R (.ok (.ret .none)) ⟨h', g, d, tk', os⟩) :
    codeAny (model prog w) A (.call (.ref fI) ⟨[.ref a, v], []⟩) R ⟨hp, g, d, t, os⟩ := by
  subst hbody
  have ca : W.clsIn K C = some { name := nm, bases := bs, mro := .ref C :: bm, ns := N, qualname := q, hasDict := true, slotNames := sn, subclasses := sub, abstract := ab, collection := col, hasDel := false } := by unfold W.clsIn; rw [hC] <;> rfl
  refine PySem.ks_codeAny_call_defAt (fd := W.ksFn name qual params _ scope .none kV doc pm an (.ref cda) ct cc) (binds := [(selfN, .ref a), (argN, v)]) hroom (X _ _ lf) rfl hlim (W.codeRec_of X hcdin) rfl (hbind _) hcell ?_ (fun h₁ hns hk₁ => ?_) hco hgen hk
  · intro x hx
    rcases List.mem_cons.mp hx with rfl | hx
    · exact hself
    · rw [List.mem_singleton.mp hx]; exact harg
  have X₁ : K.In h₁ := X.keeps hk₁
  have hs1 : (([(selfN, Value.ref a), (argN, v)] : List (Str × Value)).reverse.lookup selfN) = some (.ref a) := by
    show List.lookup selfN [(argN, v), (selfN, Value.ref a)] = _
    rw [List.lookup_cons, show (selfN == argN) = false from by simpa using Ne.symm hne, List.lookup_cons, beq_self_eq_true]
  have hs2 : (([(selfN, Value.ref a), (argN, v)] : List (Str × Value)).reverse.lookup argN) = some v := by
    show List.lookup argN [(argN, v), (selfN, Value.ref a)] = _
    rw [List.lookup_cons, beq_self_eq_true]
  refine PySem.ks_wpAt_execs_cons ?_
  show _root_.PySem.wpAt _ _ _ (exec _ (W.ksEnv qual scope hp.objs.size fI (.ref cda) cc)) _ _ _
  refine PySem.ks_wpAt_Expr_any (PySem.ks_wpAt_MethodCall (pl := pl hp.objs.size) ?_ (hev _)) (hi _) (hsw1 _)
  have ha₁ : h₁.get? a = some (HandSPX.excO C t0) := hk₁ _ _ ha
  have I₁ : W.InstAt h₁ a (HandSPX.excO C t0) C none := ⟨ha₁, rfl, rfl, trivial⟩
  obtain ⟨hf1, hf2⟩ : (∃ oD, h₁.get? C = some oD ∧ oD.data = .cls { name := nm, bases := bs, mro := .ref C :: bm, ns := N, qualname := q, hasDict := true, slotNames := sn, subclasses := sub, abstract := ab, collection := col, hasDel := false }) ∧ True := ⟨⟨_, X₁ _ _ hC, rfl⟩, trivial⟩
  obtain ⟨oD, hD1, hD2⟩ := hf1
  have hsubC : W.mroIn K C (.ref C) = some true := by
    unfold W.mroIn
    rw [ca]
    simp
  refine PySem.ks_wpAt_super_base (env := W.ksEnv qual scope hp.objs.size fI (.ref cda) cc) hks hkc (by decide) rfl (X₁ _ _ lf) rfl hpar rfl (X₁ _ _ lcd) rfl hvs hfile htop ?_
  refine W.ks_loadName_global hk hks (Calls.loadGlobal_builtin (env := W.ksEnv qual scope hp.objs.size fI (.ref cda) cc) (hg.keeps hk₁) hsup (hb.keeps hk₁) ((hbb _ (by decide +kernel)).trans (by decide +kernel)) ⟨rfl, ?_⟩)
  refine wpAny_loadName_free hk hkc rfl ⟨_, X₁ _ _ lcc, rfl⟩ ?_
  rw [har]
  refine wpAny_loadName_local hk hself hns hs1 ?_
  refine ks_wpAny_isType_cls hD1 hD2 ⟨rfl, ?_⟩
  refine ks_wpAny_call_super hD1 hD2 ha₁ rfl (fun c e => by cases e) (W.looks_mroIn X₁ hsubC) (fun h₂ e₂ k₂ => ?_)
  have X₂ : K.In h₂ := X₁.keeps k₂
  have ha₂ := k₂ _ _ ha₁
  have I₂ : W.InstAt h₂ a (HandSPX.excO C t0) C none := ⟨ha₂, rfl, rfl, trivial⟩
  have hal' := hal
  unfold W.ks_superIn at hal'
  rw [ca] at hal'
  have mroL : ∀ {h : Heap}, K.In h → W.Looks (model prog w) h (mroOf (.ref C)) (.ref C :: bm) := fun Xh => (W.looks_clsIn Xh ca).andThen .now
  refine W.kxs_getMethod KF e₂ (W.looks_opaque X₂ hop) (mroL X₂) rfl X₂ hal' (I₂.type.andThen (W.looks_subIn X₂ hBs)) (W.ks_ne X₂ I₂ ca) rfl ?_
  have k₃ : ∀ y o, h₂.get? y = some o → (h₂.push (W.kxs_mw initId a)).get? y = some o := fun y o e => Heap.get?_push_of_some _ e
  have hu : (h₂.push (W.kxs_mw initId a)).get? h₂.objs.size = some (W.kxs_mw initId a) := Heap.get?_push_at rfl rfl
  have hns₃ := (hns.keeps k₂).keeps k₃
  refine W.kxs_callWith (i := initId) (x := a) (by rfl) (Calls.evalArgs_plain (Calls.spliced_cons (wpAny_Name (wpAny_loadName_local hk harg hns₃ hs2 (Calls.spliced_nil ⟨hu, ?_⟩)) hda)))
  refine call_mwI FB (X₂.keeps k₃ _ _ hC) (k₃ _ _ ha₂) hu (by show 1 ≤ sizeLine; decide) (fun h₄ t1 k₄ ha₄ => ?_)
  have nC : C ≠ a := fun z => by
    have e1 := X _ _ hC
    rw [z, ha] at e1
    cases e1
  have keepAll : ∀ b o, b ≠ a → hp.get? b = some o → h₄.get? b = some o := fun b o nb e => k₄ b o nb (k₃ _ _ (k₂ _ _ (hk₁ _ _ e)))
  have hL : hp.objs.size ≠ a := Ne.symm (Nat.ne_of_lt (Heap.lt_size ha))
  have X₄ : K.In h₄ := fun b o e => keepAll b o (fun z => by rw [z, hKa] at e; cases e) (X _ _ e)
  obtain ⟨oL, esL, epL, hoL, rL⟩ := hns₃
  have hns₄ : h₄.Ns hp.objs.size fun x => ([(selfN, Value.ref a), (argN, v)] : List (Str × Value)).reverse.lookup x := ⟨oL, esL, epL, k₄ _ _ hL hoL, rL⟩
  have sz₄ : hp.objs.size ≤ h₄.objs.size := Nat.le_of_lt (Heap.lt_size (k₄ _ _ hL hoL))
  show _root_.PySem.wpAt _ _ _ (execs _ (W.ksEnv qual scope hp.objs.size fI (.ref cda) cc)) _ _ _
  refine PySem.ks_wpAt_execs_cons (PySem.ks_wpAt_Assign_Attr (wpAt_of_wpAny (wpAny_Name (wpAny_loadName_local hk harg hns₄ hs2 (wpAny_Name (wpAny_loadName_local hk hself hns₄ hs1 ?_) hds)) hda)) (hsw2 _))
  refine W.set_plain X₄ (ox := HandSPX.excO C t1) (od := none) ⟨ha₄, rfl, rfl, trivial⟩ sa ?_
  refine HandSPX.exc_osa X₄ ha₄ ca (show HandSPX.refsVE (.ref C :: bm) = true from hm) rfl hno (fun h' tk' dx k₅ dn dne hx hn => ?_)
  show _root_.PySem.wpAt _ _ _ (execs [] (W.ksEnv qual scope hp.objs.size fI (.ref cda) cc)) _ _ _
  refine wpAt_of_wpAny ?_
  show wpAny _ _ (pure Flow.next) _ _ _
  refine wpAny_pure ?_
  exact hq h' tk' dx t1 (fun b o nb e => k₅ b o nb (keepAll b o nb e)) (Nat.le_trans sz₄ dn) dne hx hn
end
/-- what such an __init__ does, wherever there is room for it -/
def SupRun (prog : Program) (K : W.Frag) (mg : Str → Option Value) (C fI : Addr) (fld : Str) : Prop :=
  ∀ (w : World) (A : Around) (R : Result → Shared → Prop) (hp : Heap) (g : Array GenState) (d : Drawn) (t : Nat) (os : OsState) (mb : Str → Option Value) (a t0 : Addr) (v : Value),
    K.In hp → hp.Ns mainGlobals mg → hp.Ns builtinsNs mb → (∀ x : Str, x ≠ "__name__" → mb x = bootBuiltins x) → hp.NoLimit → A.depth < recursionLimit → hp.get? a = some (HandSPX.excO C t0) → K.lookup a = none →
    (∀ h' tk' dx t1, (∀ b o, b ≠ a → hp.get? b = some o → h'.get? b = some o) → hp.objs.size ≤ dx → dx ≠ a → h'.get? a = some { cls := .ref C, dict := some dx, data := .fields #[.ref t1, .none, .none, .none, .bool false, .none] } →
      h'.Ns1 dx (fun y => if y = fld then some v else none) → R (.ok (.ret .none)) ⟨h', g, d, tk', os⟩) →
    codeAny (model prog w) A (.call (.ref fI) ⟨[.ref a, v], []⟩) R ⟨hp, g, d, t, os⟩
section
variable {X : Cx} {C fI : Addr} {x fld : Str} {e : Expr} {te : TE} {p pos : Pos} {k : Nat}
theorem pmk_sup (Tc : OexC X.K C) (iC : W.findIn X.K (.ref C) "__init__" = some (some (.ref fI))) (tI : W.typeIn X.K (.ref fI) = some (.type "function")) (S : SupRun X.prog X.K X.mg C fI fld) (hr : Room (k + 1) X.A) (hg : Gl X x) (hm : X.mg x = some (.ref C)) (he : PE X e te)
    (hs : starEach [e] X.env = (false, eval e X.env) :: starEach [] X.env := by rfl) (hdb : (x == ("__debug__" : Str)) = false := by decide) :
    PMk X (.Call (.Name x p) [e] [] pos) (fun σ H Q => te σ H fun y H1 => ∀ dx, H1 dx = none → Q (.ref C) (some dx) (upd H1 dx (.xd [(fld, y)]))) := by
  intro pins s σ H Q I h
  obtain ⟨nm, q, N, bs, bm, sn, sub, ab, col, dd, k0, k1, k2, k3, k5, hC, hbm⟩ := Tc.cls
  refine wpAny_Call_Name_kw (ld_glob I hg hm ?_ hdb)
  refine W.callWith_K (h₀ := X.base) I.ok.mod.kin Tc.kC ?_ hs (by rfl)
  rw [hs]
  show wpAny _ _ (spliced ((false, eval e X.env) :: backTo pos (starEach [] X.env))) _ _ s
  refine Calls.spliced_cons (thn (he.run pins s σ H _ I h) fun u s1 ⟨y, H1, I1, ry, q1⟩ => ?_)
  refine Calls.spliced_nil ⟨I1.kIn, ?_⟩
  show wpAny _ _ (call (.ref C) [u]) _ _ _
  obtain ⟨hp, g, dr, tk, os⟩ := s1
  have kk : ∀ b o, hp.get? b = some o → ((hp.push (W.kdv_tup [u])).push (HandSPX.excO C hp.objs.size)).get? b = some o := fun b o e => Heap.get?_push_of_some _ (Heap.get?_push_of_some _ e)
  have hget : ((hp.push (W.kdv_tup [u])).push (HandSPX.excO C hp.objs.size)).get? (hp.objs.size + 1) = some (HandSPX.excO C hp.objs.size) := by heap_get
  have gone : hp.get? (hp.objs.size + 1) = none := by
    cases e1 : hp.get? (hp.objs.size + 1) with
    | none => rfl
    | some o => exact absurd (Heap.lt_size e1) (Nat.not_lt.mpr (Nat.le_succ _))
  have hKa : X.K.lookup (hp.objs.size + 1) = none := by
    cases e1 : X.K.lookup (hp.objs.size + 1) with
    | none => rfl
    | some o =>
      have e2 := I1.kIn _ _ e1
      rw [gone] at e2; cases e2
  obtain ⟨mb, b1, b2⟩ := I1.mod.blt
  refine wpAny_call (HandSPX.call_own PySem.F.excBase_ValueError (fun Y => HandSPX.refsVE_contains Y bm hbm) (I1.kIn _ _ hC) (W.looks_findIn I1.kIn iC) (fun self => W.bind_fn I1.kIn self tI) (by show 1 ≤ sizeLine; decide) ?_)
  refine S _ _ _ _ _ _ _ _ mb (hp.objs.size + 1) hp.objs.size u (I1.kIn.keeps kk) ((I1.mod.glob.keeps I1.bk).keeps kk) ((b1.keeps I1.bk).keeps kk) b2 ((I1.mod.nolimit.keeps I1.bk).keeps kk) ((hr.make C [u] []).depth) hget hKa (fun h' tk' dx t1 keep sz ne ha' hn => ?_)
  have szdx : hp.objs.size ≤ dx := Nat.le_trans (show hp.objs.size ≤ ((hp.push (W.kdv_tup [u])).push (HandSPX.excO C hp.objs.size)).objs.size by rw [Heap.size_push, Heap.size_push]; exact Nat.le_add_right _ 2) sz
  have ndx : H1 dx = none := I1.hok.fresh szdx
  obtain ⟨G, g1, g2⟩ := restrict h' fun b => decide (b ≠ hp.objs.size + 1)
  have gk : ∀ b, b ≠ hp.objs.size + 1 → G.get? b = h'.get? b := fun b hb => g1 b (decide_eq_true hb)
  have ge : G.get? (hp.objs.size + 1) = none := g2 _ (by simp)
  have gg : ∀ b o, G.get? b = some o → h'.get? b = some o := fun b o e => by
    by_cases hb : b = hp.objs.size + 1
    · rw [hb, ge] at e; cases e
    · rw [← gk b hb]; exact e
  have ka : ∀ b o, hp.get? b = some o → G.get? b = some o := fun b o e => by
    have nb : b ≠ hp.objs.size + 1 := fun z => by rw [z, gone] at e; cases e
    rw [gk b nb]
    exact keep b o nb (kk b o e)
  obtain ⟨oD, esD, epD, hD1, hD2, hD3⟩ := hn
  have I2 : Inv X pins σ (upd H1 dx (.xd [(fld, y)])) ⟨G, g, dr, tk', os⟩ := I1.laid (t' := tk') (a := dx) (o := .xd [(fld, y)]) (h' := G) ka szdx
    ⟨_, ⟨oD, esD, epD, by rw [gk dx ne]; exact hD1, hD2, hD3⟩, relO_put (fs := []) ry fun _ => True.intro⟩
  exact ⟨rfl, hp.objs.size + 1, _, _, ⟨G, g, dr, tk', os⟩, _, .ref C, some dx, rfl, I2, gg, ge, ha', ⟨rfl, rfl⟩, rfl, rfl, by rw [upd_ne (Ne.symm ne)]; exact I1.hok.fresh (Nat.le_succ _), rfl, I1.bare, raises_own Tc.exC Tc.tyC, q1 dx ndx⟩
end
/-- an own exception class with such an __init__ -/
structure XCls (prog : Program) (K : W.Frag) (mg : Str → Option Value) (C : Addr) (fld : Str) : Prop where
  o : OexC K C
  ex : ∃ fI, W.findIn K (.ref C) "__init__" = some (some (.ref fI)) ∧ W.typeIn K (.ref fI) = some (.type "function") ∧ SupRun prog K mg C fI fld
section
variable {X : Cx} {T : TX X} {ρ : Rho} {C : Cells} {N : TEnds} {e : Expr} {p pos pos' : Pos} {x fld : Str} {Cl : Addr} {k : Nat}
/-- raise C(e) -/
theorem ws_raise (hx : XCls X.prog X.K X.mg Cl fld) (hr : RoomG (k + 1) X.A) (hg : Gl X x) (hm : X.mg x = some (.ref Cl)) (h : WE T e ρ C fun d C1 => T.XQ (.ref Cl) (some ([fld], [d])) ρ C1)
    (hs : starEach [e] X.env = (false, eval e X.env) :: starEach [] X.env := by rfl) (hdb : (x == ("__debug__" : Str)) = false := by decide) (hc : X.calm = true := by rfl) :
    WS T (.Raise (some (.Call (.Name x p) [e] [] pos)) none pos') ρ C N := by
  obtain ⟨fI, i1, i2, S⟩ := hx.ex
  refine PS.imp (ps_raise hc T.tk (pmk_sup hx.o i1 i2 S hr.rm hg hm h hs hdb)) fun Dn σ H ⟨H0, at_, _⟩ => ⟨H0, at_, fun v d C1 H1 H01 p1 c1 r1 q dx hdx => ?_⟩
  obtain ⟨p2, c2⟩ := stp_new (o := .xd [(fld, v)]) c1 hdx
  have a2 := (at_.step p1 c1).step p2 c2
  exact ⟨some ([fld], [d]), ρ, C1, _, a2.a, a2.c, a2.s, a2.l, ⟨[v], upd_same, rfl, Reps.cons (r1.mono p2.base) Reps.nil⟩, q⟩
end
end Tr

set_option maxHeartbeats 4000000
namespace Tr
open PySem L2 PySem.Spec PyProof.Rows

/-! ### try: .. except x as n: .. -/
theorem ExcR.step {K : W.Frag} {H0 H H0' H' : Hp} {C C' : Cells} {d : Option Addr} {fs : XF} (h : ExcR K H0 H d fs) (c : CellsR K H0 C H) (p : Stp H0 C H H0' C' H') : ExcR K H0' H' d fs := by
  cases d with
  | none => cases fs with
    | none => exact True.intro
    | some f => exact h
  | some dd => cases fs with
    | none => exact h
    | some f =>
      obtain ⟨ns, ds⟩ := f
      obtain ⟨vs, h1, h2, h3⟩ := h
      refine ⟨vs, p.fr dd _ h1 fun ⟨x, hx⟩ => ?_, h2, h3.mono p.base⟩
      have ok := c.ok dd x hx
      cases x with
      | lst ds => obtain ⟨_, e, _⟩ := ok; rw [h1] at e; cases e
      | dK ks ds => obtain ⟨_, e, _⟩ := ok; rw [h1] at e; cases e
      | ins Cl ns ds => obtain ⟨_, _, e, _⟩ := ok; rw [h1] at e; cases e
section
variable {X : Cx} {T : TX X} {ρ : Rho} {C : Cells} {N : TEnds} {Q : QE} {e : Expr} {pos pos' np : Pos} {x n : Str} {c : Value} {i : Nat} {body suite : List Stmt} {b₀ : Stmt} {XQ' : Value → XF → Rho → Cells → Prop}
/-- the body of a try, wherever it stands -/
def tbT (T : TX X) (XQ' : Value → XF → Rho → Cells → Prop) (ρ : Rho) (C : Cells) (N : TEnds) (W : WX) : TS := fun D σ H => ∃ H0, At T H0 ρ C σ H ∧ Tail X H0 C H N D ∧
  ∀ cls d σ' H' fs ρ' C' H0', Stp H0 C H H0' C' H' → CellsR X.K H0' C' H' → SlotsR X.K H0' ρ' σ' → ρ'.length = σ'.length → ExcR X.K H0' H' d fs → XQ' cls fs ρ' C' → W cls d σ' H'
/-- the suite, whatever the exception's object -/
def tsT (X : Cx) (st : List Stmt) (a : Addr) (cls : Value) (d : Option Addr) : TS := fun D σ H => ∃ (fs : XF) (ρ' : Rho) (C' : Cells) (H0' : Hp) (N' : TEnds), CellsR X.K H0' C' H ∧ SlotsR X.K H0' ρ' σ ∧ ρ'.length = σ.length ∧ ExcR X.K H0' H d fs ∧ Tail X H0' C' H N' D ∧
  ∀ (oe : Obj) (pn : List (Addr × Obj)) (T' : TX (X.suite a ((a, oe) :: pn))), Zc cls d oe → (∃ vs, oe.data = .fields vs) → (∀ H0 C H, T'.A H0 C H → ExcR X.K H0 H d fs) → WSs T' st ρ' C' N'
theorem ws_try (hs : X.stack = X.env :: X.outer) (hf : X.env.frame = some X.env.locals) (hN : X.N.Nodup) (hi : X.N[i]? = some n) (hln : X.env.kindOf n = some .local) (hc : Names X x c) (XQ' : Value → XF → Rho → Cells → Prop)
    (hb : ∀ (pn : List (Addr × Obj)) (xe : Value → Shared → Prop) (T' : TX (X.tr pn xe)), T'.XQ = XQ' → WSs T' body ρ C N)
    (hh : ∀ cls fs ρ' C', XQ' cls fs ρ' C' → ∃ b, W.exmOne X.K cls c = some b ∧ (b = false → T.XQ cls fs ρ' C') ∧
      (b = true → ∀ (a : Addr) (oe : Obj) (d : Option Addr) (pn : List (Addr × Obj)) (T' : TX (X.suite a ((a, oe) :: pn))), Zc cls d oe → (∃ vs, oe.data = .fields vs) → (∀ H0 C H, T'.A H0 C H → ExcR X.K H0 H d fs) →
        WSs T' (b₀ :: suite) (ρ'.set i (some (.raw (.ref a)))) C' { nx := fun ρ C => N.nx (ρ.set i none) C, rt := N.rt, bk := fun ρ C => N.bk (ρ.set i none) C, ct := fun ρ C => N.ct (ρ.set i none) C })) :
    WS T (.Try body [.ExceptHandler (some (.Name x np)) (some n) (b₀ :: suite) pos'] [] [] pos) ρ C N := by
  refine PS.imp (ps_try_as (ts := tsT X (b₀ :: suite)) (tb := tbT T XQ' ρ C N) hs hf hN hi hln hc T.tk (fun W pn xe tkW pass => ⟨fun pins s σ H D I ⟨H0, at_, k, imp⟩ => ?_⟩) (fun a oe cls d pn hz hfl => ⟨fun pins s σ H D I ⟨fs, ρ', C', H0', N', cc, sl, l, ex, k, w⟩ => ?_⟩)) fun D σ H ⟨H0, at_, k⟩ => ⟨H0, at_, k, fun cls d σ' H' fs ρ' C' H0' p cc s l ex xq => ?_⟩
  · have T' : TX (X.tr pn xe) := { A := fun H0' C' H' => Stp H0 C H H0' C' H', up := fun a c p _ => a.trans c p, XQ := XQ', tk := tkW.imp fun cls d σ' H' ⟨fs, ρ', C', H0', a, c, s, l, ex, q⟩ => imp cls d σ' H' fs ρ' C' H0' a c s l ex q, pass := pass }
    exact (hb pn xe { A := fun H0' C' H' => Stp H0 C H H0' C' H', up := fun a c p _ => a.trans c p, XQ := XQ', tk := tkW.imp fun cls d σ' H' ⟨fs, ρ', C', H0', a, c, s, l, ex, q⟩ => imp cls d σ' H' fs ρ' C' H0' a c s l ex q, pass := pass } rfl).run pins s σ H D I ⟨H0, ⟨Stp.refl _ _ _, at_.c, at_.s, at_.l⟩, ⟨k.nx, k.rt, k.bk, k.ct⟩⟩
  · exact (w oe pn { A := fun H0 _ H => ExcR X.K H0 H d fs, up := fun h c p _ => h.step c p, XQ := fun _ _ _ _ => False, tk := fun u s' ⟨_, _, _, _, _, _, _, _, _, _, _, _, _, _, _, _, w⟩ => (let ⟨_, _, _, _, _, _, _, _, _, q⟩ := w; q), pass := PassesOwn.never } hz hfl fun _ _ _ h => h).run pins s σ H D I ⟨H0', ⟨ex, cc, sl, l⟩, ⟨k.nx, k.rt, k.bk, k.ct⟩⟩
  · obtain ⟨b, h1, h2, h3⟩ := hh cls fs ρ' C' xq
    refine ⟨b, h1, fun hb1 a ha => ?_, fun hb0 => ⟨fs, ρ', C', H0', T.up at_.a at_.c p cc, cc, s, l, ex, h2 hb0⟩⟩
    have k' := k.after p cc
    have un : ∀ {Q : QS} {R : L2.St → Hp → Prop}, ContS X H0' C' H' Q R → ContS X H0' C' H' (fun ρ C => Q (ρ.set i none) C) (fun σ H => R (σ.set i none) H) := fun kk ρ1 σ1 C1 H1 H01 p1 c1 s1 l1 q1 =>
      kk _ _ C1 H1 H01 p1 c1 (SlotsR.unset i s1) (by rw [List.length_set, List.length_set]; exact l1) q1
    exact ⟨fs, ρ'.set i (some (.raw (.ref a))), C', H0', { nx := fun ρ C => N.nx (ρ.set i none) C, rt := N.rt, bk := fun ρ C => N.bk (ρ.set i none) C, ct := fun ρ C => N.ct (ρ.set i none) C }, cc, SlotsR.set i s rfl l, by rw [List.length_set, List.length_set]; exact l, ex, ⟨un k'.nx, k'.rt, un k'.bk, un k'.ct⟩, fun oe pn T' hz hfl hA => h3 hb1 a oe d pn T' hz hfl hA⟩
end
section
variable {X : Cx} {a Cl : Addr} {oe : Obj} {d : Option Addr} {pn : List (Addr × Obj)} {T' : TX (X.suite a ((a, oe) :: pn))} {ρ : Rho} {C : Cells} {Q : QE} {e : Expr} {pos : Pos} {n : Str} {ns : List Str} {ds : List D}
/-- e.f of the exception that is held -/
theorem we_xf (Tx : XfC X.K Cl) (hno : W.findIn X.K (.ref Cl) n = some none) (hz : Zc (.ref Cl) d oe) (hfl : ∃ vs, oe.data = .fields vs) (hA : ∀ H0 C H, T'.A H0 C H → ExcR X.K H0 H d (some (ns, ds)))
    (h : WE T' e ρ C fun d1 C1 => d1 = .raw (.ref a) ∧ ∃ y, (ns.zip ds).lookup n = some y ∧ Q y C1) (hb : attributeBase e n X.env (eval e X.env) = eval e X.env := by rfl) : WE T' (.Attribute e n pos) ρ C Q :=
  PE.imp (pe_xf Tx hno hz hfl h hb) fun σ H R ⟨H0, at_, k⟩ => ⟨H0, at_, fun v d1 C1 H1 H01 p1 c1 r1 ⟨e1, y, hl, q⟩ => by
    subst e1
    have at1 := at_.step p1 c1
    have ex := hA _ _ _ at1.a
    cases d with
    | none => exact ex.elim
    | some dd =>
      obtain ⟨vs, h1, h2, h3⟩ := ex
      obtain ⟨v', g1, g2⟩ := lookup_zip h3 h2 hl
      exact ⟨r1, rfl, dd, _, v', rfl, h1, g1, k v' y C1 H1 H01 p1 c1 g2 q⟩⟩
end
section
variable {X : Cx} {a Cl : Addr} {oe : Obj} {d : Option Addr} {pn : List (Addr × Obj)} {T' : TX (X.suite a ((a, oe) :: pn))} {ρ : Rho} {C : Cells} {Q : QE} {e c : Expr} {p pos : Pos} {fs : XF}
/-- isinstance of the exception that is held, with fields or without -/
theorem call_isX (G : ExcC X.K Cl) (hz : Zc (.ref Cl) d oe) (hf : ∃ vs, oe.data = .fields vs) : CallR (X.suite a ((a, oe) :: pn)) (.builtin "isinstance")
    (fun xs H Q => ∃ (c : V) (cv : Value) (b : Bool), xs = [.ref a, c] ∧ ClsV c cv ∧ W.kitOne X.K (.ref Cl) cv = some b ∧ (∀ dd, d = some dd → ∃ gs, H dd = some (.xd gs)) ∧ Q (.bl b) H) := by
  intro pins s σ H xs us Q I r h
  obtain ⟨c, cv, b, rfl, hcv, e, hd, q⟩ := h
  obtain ⟨u1, u2, rfl, r1, r2⟩ := vals2 r
  cases (show u1 = Value.ref a from r1)
  have ec := hcv.eq r2
  subst ec
  obtain ⟨hget, _⟩ := I.pin (a, oe) (List.mem_append.mpr (.inl List.mem_cons_self))
  obtain ⟨vs, hv⟩ := hf
  obtain ⟨oc, od, oda, osl⟩ := oe
  obtain ⟨h1, h2⟩ := hz
  dsimp only at h1 h2 hv
  subst h1 h2 hv
  obtain ⟨ob, J⟩ : ∃ ob, W.InstAt s.heap a ⟨.ref Cl, od, .fields vs, osl⟩ Cl ob := by
    cases od with
    | none => exact ⟨none, hget, rfl, rfl, trivial⟩
    | some dd =>
      obtain ⟨gs, hg⟩ := hd dd rfl
      have hx : ObjOk X.prog X.w H s.heap dd (.xd gs) := I.hok dd _ hg
      obtain ⟨mA, hns, _⟩ := hx
      obtain ⟨ob, ho, _⟩ := lookIn_ns hns
      exact ⟨some ob, hget, rfl, rfl, ho⟩
  exact W.kia_one (W.kitx_exc (by obtain ⟨cd, hc, _⟩ := PySem.W.any_some G.hd; rw [hc]; rfl) G.hg G.hk G.hs G.ha G.hn G.ht G.hm) I.kIn J e (fun z => nomatch z) fun tk => ⟨.bl b, H, I.tok tk, rfl, q⟩
theorem we_isX {u : Value} {b : Bool} (G : ExcC X.K Cl) (hz : Zc (.ref Cl) d oe) (hfl : ∃ vs, oe.data = .fields vs) (hA : ∀ H0 C H, T'.A H0 C H → ExcR X.K H0 H d fs) (hk : W.kitOne X.K (.ref Cl) u = some b) (hg : Gl X "isinstance") (hm : X.mg "isinstance" = none)
    (h : WA T' [e, c] ρ C fun ds C1 => ∃ d2, ds = [.raw (.ref a), d2] ∧ ClsD d2 u ∧ Q (.bl b) C1)
    (he : starEach [e, c] X.env = (false, eval e X.env) :: starEach [c] X.env := by rfl) (hpl : (backTo pos (starEach [c] X.env)).any (·.1) = false := by rfl) :
    WE T' (.Call (.Name "isinstance" p) [e, c] [] pos) ρ C Q :=
  PE.imp (pe_callB (call_isX G hz hfl) hg hm (by rfl) h (by decide) (by decide) he hpl) fun σ H R ⟨H0, at_, k⟩ => ⟨H0, at_, fun vs ds C1 H1 H01 p1 c1 r1 q1 => by
    obtain ⟨d2, e1, hc, q⟩ := q1
    subst e1
    have at1 := at_.step p1 c1
    have ex := hA _ _ _ at1.a
    obtain ⟨v, w, e1, r2, r3⟩ := r1.two
    subst e1
    cases r2
    refine ⟨w, u, b, rfl, cls_at r3 hc, hk, fun dd hd => ?_, k (.bl b) (.bl b) C1 H1 H01 p1 c1 rfl q⟩
    subst hd
    cases fs with
    | none => exact ex.elim
    | some f => obtain ⟨vs, h1, _⟩ := ex; exact ⟨_, h1⟩⟩
end
end Tr

set_option maxHeartbeats 4000000
namespace Tr
open PySem L2 PySem.Spec PyProof.Rows
theorem iteP {c : Prop} [Decidable c] {A B : Prop} (h : c) (a : A) : if c then A else B := by rw [if_pos h]; exact a
theorem iteN {c : Prop} [Decidable c] {A B : Prop} (h : ¬ c) (b : B) : if c then A else B := by rw [if_neg h]; exact b
section
variable {X : Cx} {T : TX X} {ρ : Rho} {C : Cells} {N : TEnds} {st : Stmt}
theorem ws_part {C' r : Cells} (pm : C.Perm (C' ++ r)) (h : WS T st ρ C' N) : WS T st ρ C N :=
  PS.imp h fun Dn σ H ⟨H0, at_, k⟩ => let ⟨p, c⟩ := stp_part at_.c pm; ⟨H0, at_.step p c, k.after p c⟩
theorem ws_perm {C' : Cells} (pm : C.Perm C') (h : WS T st ρ C' N) : WS T st ρ C N := ws_part (r := []) (by rw [List.append_nil]; exact pm) h
/-- two ways that come together -/
theorem ite_join {k : Bool} {a b : Expr} {Q : QE} (J : QE) (h1 : k = true → WE T a ρ C J) (h2 : k = false → WE T b ρ C J) (h : ∀ d C', J d C' → Q d C') : if k = true then WE T a ρ C Q else WE T b ρ C Q := by
  cases k with
  | true => exact (h1 rfl).mono h
  | false => exact (h2 rfl).mono h
theorem kit_tyF {K : W.Frag} {C : Addr} {U : String} {b : Bool} (ss : W.subIn K (.ref C) (.type U) = some b) (m : W.kitMeta U = true) : W.kitOne K (.ref C) (.type U) = some b := by
  unfold W.kitOne
  rw [if_neg (by intro h; cases h)]
  unfold W.kitCls
  simp only [m, ss]
  rfl
theorem cutL_to {α : Type} {l : List α} {k : Int} (h0 : 0 ≤ k) : cutL l none (some k) = l.take k.toNat := by
  obtain ⟨n, rfl⟩ := Int.eq_ofNat_of_zero_le h0
  unfold cutL
  rw [HT.sIx_nat, HT.sIx_none, Int.toNat_natCast]
  simp
theorem cutL_from {α : Type} {l : List α} {k : Int} (h0 : 0 ≤ k) : cutL l (some k) none = l.drop k.toNat := by
  obtain ⟨n, rfl⟩ := Int.eq_ofNat_of_zero_le h0
  unfold cutL
  rw [HT.sIx_nat, HT.sIx_none, Int.toNat_natCast]
  by_cases h : n ≤ l.length
  · rw [Nat.min_eq_left h, List.take_of_length_le (by simp)]
  · rw [Nat.min_eq_right (by omega)]
    simp [List.drop_eq_nil_of_le (show l.length ≤ n by omega)]
theorem cutD_to {l : List D} {k : Int} (h0 : 0 ≤ k) : cutD l none (some k) = l.take k.toNat := cutL_to h0
theorem cutD_from {l : List D} {k : Int} (h0 : 0 ≤ k) : cutD l (some k) none = l.drop k.toNat := cutL_from h0
end
end Tr

set_option maxHeartbeats 4000000
namespace Kk
open PySem L2 PySem.Spec PyProof.Rows Tr
def barred : List Str := ["no", "yes", "do", "if", "and", "not", "then"]
def top (i : Nat) : Stmt := PySem.Challenge.pw_hastypage_k17_weavings_refused.main.body.getD i (.Pass ⟨0, 0, 0, 0⟩)
abbrev s_is_name : Stmt := top 8
abbrev s_is_sequence : Stmt := top 9
abbrev s_is_decimal : Stmt := top 10
abbrev s_event_in : Stmt := top 12
abbrev s__law_deal : Stmt := top 15
abbrev s__law_draw : Stmt := top 16
abbrev s__law_any : Stmt := top 17
abbrev s__law_tried : Stmt := top 18
abbrev s__law_bad : Stmt := top 19
abbrev s_law : Stmt := top 20
abbrev s_Weaving_init : Stmt := inClass (top 13) 0
theorem sc_is_name : FnScope ["value", "letter"] ["value"] (defScope s_is_name) := ⟨rfl, rfl, rfl, by decide +kernel, rfl, by decide +kernel, by decide +kernel⟩
abbrev FN_is_name (P : Program) (w : World) (K : W.Frag) (mg : Str → Option Value) (base : Heap) (k : Nat) (f : Addr) (fd : FuncData) (F : FS) : Prop := FnG P w K mg base k f fd ["value"] F
theorem sc_is_sequence : FnScope ["value"] ["value"] (defScope s_is_sequence) := ⟨rfl, rfl, rfl, by decide +kernel, rfl, by decide +kernel, by decide +kernel⟩
abbrev FN_is_sequence (P : Program) (w : World) (K : W.Frag) (mg : Str → Option Value) (base : Heap) (k : Nat) (f : Addr) (fd : FuncData) (F : FS) : Prop := FnG P w K mg base k f fd ["value"] F
theorem sc_is_decimal : FnScope ["text", "sign"] ["text"] (defScope s_is_decimal) := ⟨rfl, rfl, rfl, by decide +kernel, rfl, by decide +kernel, by decide +kernel⟩
abbrev FN_is_decimal (P : Program) (w : World) (K : W.Frag) (mg : Str → Option Value) (base : Heap) (k : Nat) (f : Addr) (fd : FuncData) (F : FS) : Prop := FnG P w K mg base k f fd ["text"] F
theorem sc_event_in : FnScope ["text", "word", "blank", "rest"] ["text"] (defScope s_event_in) := ⟨rfl, rfl, rfl, by decide +kernel, rfl, by decide +kernel, by decide +kernel⟩
abbrev FN_event_in (P : Program) (w : World) (K : W.Frag) (mg : Str → Option Value) (base : Heap) (k : Nat) (f : Addr) (fd : FuncData) (F : FS) : Prop := FnG P w K mg base k f fd ["text"] F
theorem sc__law_deal : FnScope ["_law_script", "_law_base", "_law_cells", "_law_blend", "_law_cell"] ["_law_script", "_law_base"] (defScope s__law_deal) := ⟨rfl, rfl, rfl, by decide +kernel, rfl, by decide +kernel, by decide +kernel⟩
abbrev FN__law_deal (P : Program) (w : World) (K : W.Frag) (mg : Str → Option Value) (base : Heap) (k : Nat) (f : Addr) (fd : FuncData) (F : FS) : Prop := FnG P w K mg base k f fd ["_law_script", "_law_base"] F
theorem sc__law_draw : FnScope ["_law_deal_here", "_law_amount", "_law_left"] ["_law_deal_here", "_law_amount"] (defScope s__law_draw) := ⟨rfl, rfl, rfl, by decide +kernel, rfl, by decide +kernel, by decide +kernel⟩
abbrev FN__law_draw (P : Program) (w : World) (K : W.Frag) (mg : Str → Option Value) (base : Heap) (k : Nat) (f : Addr) (fd : FuncData) (F : FS) : Prop := FnG P w K mg base k f fd ["_law_deal_here", "_law_amount"] F
theorem sc__law_any : FnScope ["_law_deal_here", "_law_deep", "_law_inner", "_law_some", "_law_turn"] ["_law_deal_here", "_law_deep"] (defScope s__law_any) := ⟨rfl, rfl, rfl, by decide +kernel, rfl, by decide +kernel, by decide +kernel⟩
abbrev FN__law_any (P : Program) (w : World) (K : W.Frag) (mg : Str → Option Value) (base : Heap) (k : Nat) (f : Addr) (fd : FuncData) (F : FS) : Prop := FnG P w K mg base k f fd ["_law_deal_here", "_law_deep"] F
theorem sc__law_tried : FnScope ["_law_thing", "_law_found", "e"] ["_law_thing"] (defScope s__law_tried) := ⟨rfl, rfl, rfl, by decide +kernel, rfl, by decide +kernel, by decide +kernel⟩
abbrev FN__law_tried (P : Program) (w : World) (K : W.Frag) (mg : Str → Option Value) (base : Heap) (k : Nat) (f : Addr) (fd : FuncData) (F : FS) : Prop := FnG P w K mg base k f fd ["_law_thing"] F
theorem sc__law_bad : FnScope ["_law_deal_here", "_law_some"] ["_law_deal_here"] (defScope s__law_bad) := ⟨rfl, rfl, rfl, by decide +kernel, rfl, by decide +kernel, by decide +kernel⟩
abbrev FN__law_bad (P : Program) (w : World) (K : W.Frag) (mg : Str → Option Value) (base : Heap) (k : Nat) (f : Addr) (fd : FuncData) (F : FS) : Prop := FnG P w K mg base k f fd ["_law_deal_here"] F
theorem sc_law : FnScope ["_law_script", "_law_deal_here", "_law_good", "_law_turn", "_law_some", "_law_at", "_law_bad_here", "_law_spoilt", "_law_thing", "_law_event"] ["_law_script"] (defScope s_law) := ⟨rfl, rfl, rfl, by decide +kernel, rfl, by decide +kernel, by decide +kernel⟩
abbrev FN_law (P : Program) (w : World) (K : W.Frag) (mg : Str → Option Value) (base : Heap) (k : Nat) (f : Addr) (fd : FuncData) (F : FS) : Prop := FnG P w K mg base k f fd ["_law_script"] F
theorem sc_Weaving_init : FnScope ["self", "events", "at", "event"] ["self", "events"] (defScope s_Weaving_init) := ⟨rfl, rfl, rfl, by decide +kernel, rfl, by decide +kernel, by decide +kernel⟩
abbrev FN_Weaving_init (P : Program) (w : World) (K : W.Frag) (mg : Str → Option Value) (base : Heap) (k : Nat) (f : Addr) (fd : FuncData) (F : FS) : Prop := FnG P w K mg base k f fd ["self", "events"] F
abbrev s_InvalidEvent_init : Stmt := inClass (top 4) 0
theorem sup_InvalidEvent {P : Program} {K : W.Frag} {mg : Str → Option Value} {c_InvalidEvent f_InvalidEvent_init cda_InvalidEvent cc_InvalidEvent N_InvalidEvent : Addr} {nm_InvalidEvent qn_InvalidEvent : Str} {bs_InvalidEvent bm_InvalidEvent sub_InvalidEvent : List Value} {sn_InvalidEvent : List Str} {ab_InvalidEvent : Bool} {col_InvalidEvent : Option Bool} {dd_InvalidEvent od_InvalidEvent an_InvalidEvent cdd_InvalidEvent cld_InvalidEvent : Option Addr} {k0_InvalidEvent k1_InvalidEvent k2_InvalidEvent k3_InvalidEvent k5_InvalidEvent : Option Value} {oc_InvalidEvent kV_InvalidEvent dc_InvalidEvent pm_InvalidEvent ct_InvalidEvent ccl_InvalidEvent cl0_InvalidEvent : Value} {sl_InvalidEvent ccs_InvalidEvent csl_InvalidEvent : Array (Option Value)} {vs_InvalidEvent : Array Value} {file_InvalidEvent : Str} {tf_InvalidEvent : Tok}
    (lc : K.lookup c_InvalidEvent = some (excClassObj nm_InvalidEvent qn_InvalidEvent c_InvalidEvent N_InvalidEvent bs_InvalidEvent bm_InvalidEvent true sn_InvalidEvent sub_InvalidEvent ab_InvalidEvent col_InvalidEvent dd_InvalidEvent k0_InvalidEvent k1_InvalidEvent k2_InvalidEvent k3_InvalidEvent k5_InvalidEvent "ValueError.__new__")) (rv : HandSPX.refsVE bm_InvalidEvent = true) (sa : W.findIn K (.ref c_InvalidEvent) "__setattr__" = some (some (.builtin "object.__setattr__"))) (no : W.findIn K (.ref c_InvalidEvent) "at" = some none)
    (lf : K.lookup f_InvalidEvent_init = some ⟨oc_InvalidEvent, od_InvalidEvent, .func (W.ksFn "__init__" "InvalidEvent.__init__" (defArgs s_InvalidEvent_init) (defBody s_InvalidEvent_init) (defScope s_InvalidEvent_init) .none kV_InvalidEvent dc_InvalidEvent pm_InvalidEvent an_InvalidEvent (.ref cda_InvalidEvent) ct_InvalidEvent cc_InvalidEvent), sl_InvalidEvent⟩) (lcd : K.lookup cda_InvalidEvent = some ⟨ccl_InvalidEvent, cdd_InvalidEvent, .fields vs_InvalidEvent, ccs_InvalidEvent⟩) (hv : vs_InvalidEvent[2]? = some (.str file_InvalidEvent tf_InvalidEvent)) (hf : ((P.main.file : Str) == file_InvalidEvent) = true) (ci : W.codeIn K (.ref cda_InvalidEvent) "InvalidEvent.__init__" = true)
    (lcc : K.lookup cc_InvalidEvent = some ⟨cl0_InvalidEvent, cld_InvalidEvent, .cell (some (.ref c_InvalidEvent)), csl_InvalidEvent⟩) (zs : mg "super" = none) (zt : (P.main.scope.names.lookup ("super" : Str)).isSome = false) (za : W.nsIn K cStatics "thirdparty.any" = some none) (si : W.ks_superIn K c_InvalidEvent c_InvalidEvent "__init__" = some (some (.builtin "ValueError.__init__"))) (sv : W.subIn K (.ref c_InvalidEvent) (.type "ValueError") = some true) :
    SupRun P K mg c_InvalidEvent f_InvalidEvent_init "at" := fun w A R hp g d t os mb a t0 v X hg hb hbb hlim hroom ha hKa hq =>
  sup_init (selfN := "self") (argN := "at") PySem.F.excBase_ValueError W.kxs_ValueError X hg hb hbb hlim lc rv sa no lf lcd hv hf ci lcc zs (by rfl) (by rfl) (by rfl) (by rfl) (by rfl) (by decide) (by rfl) (by rfl) (by rfl) (by rfl) (by decide +kernel) (by rfl) (by rfl) (fun s => BindsTo.of_eq (by rfl)) zt za si sv (by rfl) hroom (fun _ => by rfl) (fun _ => by rfl) (fun _ => by rfl) _ (fun _ => by rfl) ha hKa hq
/-- what the top has left -/
structure Tp (prog : Program) (K : W.Frag) (mg : Str → Option Value) where
  c_Weaving : Addr
  f_is_name : Addr
  d_is_name : FuncData
  f_is_sequence : Addr
  d_is_sequence : FuncData
  f_is_decimal : Addr
  d_is_decimal : FuncData
  f_event_in : Addr
  d_event_in : FuncData
  f__law_deal : Addr
  d__law_deal : FuncData
  f__law_draw : Addr
  d__law_draw : FuncData
  f__law_any : Addr
  d__law_any : FuncData
  f__law_tried : Addr
  d__law_tried : FuncData
  f__law_bad : Addr
  d__law_bad : FuncData
  f_law : Addr
  d_law : FuncData
  f_Weaving_init : Addr
  d_Weaving_init : FuncData
  e_W : Addr
  a_B : Addr
  i_Weaving : ClsI K c_Weaving
  g_Weaving : mg "Weaving" = some (.ref c_Weaving)
  na_Weaving_events : NoAttr K c_Weaving "events"
  isi_Weaving_tuple : W.kitOne K (.type "tuple") (.ref c_Weaving) = some false
  isi_Weaving_str : W.kitOne K (.type "str") (.ref c_Weaving) = some false
  kin_Weaving_list : W.kitOne K (.ref c_Weaving) (.type "list") = some false
  kin_Weaving_tuple : W.kitOne K (.ref c_Weaving) (.type "tuple") = some false
  g_is_name : mg "is_name" = some (.ref f_is_name)
  F_is_name : FunD K "is_name" "is_name" (defArgs s_is_name) (defBody s_is_name) (defScope s_is_name) [] [] f_is_name d_is_name
  b_is_name : Binds K d_is_name ["value"] []
  g_is_sequence : mg "is_sequence" = some (.ref f_is_sequence)
  F_is_sequence : FunD K "is_sequence" "is_sequence" (defArgs s_is_sequence) (defBody s_is_sequence) (defScope s_is_sequence) [] [] f_is_sequence d_is_sequence
  b_is_sequence : Binds K d_is_sequence ["value"] []
  g_is_decimal : mg "is_decimal" = some (.ref f_is_decimal)
  F_is_decimal : FunD K "is_decimal" "is_decimal" (defArgs s_is_decimal) (defBody s_is_decimal) (defScope s_is_decimal) [] [] f_is_decimal d_is_decimal
  b_is_decimal : Binds K d_is_decimal ["text"] []
  g_event_in : mg "event_in" = some (.ref f_event_in)
  F_event_in : FunD K "event_in" "event_in" (defArgs s_event_in) (defBody s_event_in) (defScope s_event_in) [] [] f_event_in d_event_in
  b_event_in : Binds K d_event_in ["text"] []
  g__law_deal : mg "_law_deal" = some (.ref f__law_deal)
  F__law_deal : FunD K "_law_deal" "_law_deal" (defArgs s__law_deal) (defBody s__law_deal) (defScope s__law_deal) [] [] f__law_deal d__law_deal
  b__law_deal : Binds K d__law_deal ["_law_script", "_law_base"] []
  g__law_draw : mg "_law_draw" = some (.ref f__law_draw)
  F__law_draw : FunD K "_law_draw" "_law_draw" (defArgs s__law_draw) (defBody s__law_draw) (defScope s__law_draw) [] [] f__law_draw d__law_draw
  b__law_draw : Binds K d__law_draw ["_law_deal_here", "_law_amount"] []
  g__law_any : mg "_law_any" = some (.ref f__law_any)
  F__law_any : FunD K "_law_any" "_law_any" (defArgs s__law_any) (defBody s__law_any) (defScope s__law_any) [] [] f__law_any d__law_any
  b__law_any : Binds K d__law_any ["_law_deal_here", "_law_deep"] []
  g__law_tried : mg "_law_tried" = some (.ref f__law_tried)
  F__law_tried : FunD K "_law_tried" "_law_tried" (defArgs s__law_tried) (defBody s__law_tried) (defScope s__law_tried) [] [] f__law_tried d__law_tried
  b__law_tried : Binds K d__law_tried ["_law_thing"] []
  g__law_bad : mg "_law_bad" = some (.ref f__law_bad)
  F__law_bad : FunD K "_law_bad" "_law_bad" (defArgs s__law_bad) (defBody s__law_bad) (defScope s__law_bad) [] [] f__law_bad d__law_bad
  b__law_bad : Binds K d__law_bad ["_law_deal_here"] []
  g_law : mg "law" = some (.ref f_law)
  F_law : FunD K "law" "law" (defArgs s_law) (defBody s_law) (defScope s_law) [] [] f_law d_law
  b_law : Binds K d_law ["_law_script"] []
  mk_Weaving : Mk K c_Weaving f_Weaving_init
  F_Weaving_init : FunD K "__init__" "Weaving.__init__" (defArgs s_Weaving_init) (defBody s_Weaving_init) (defScope s_Weaving_init) [.ref e_W] [] f_Weaving_init d_Weaving_init
  b_Weaving_init : Binds K d_Weaving_init ["self", "events"] []
  b0_Weaving_init : ∃ ds, Vals [.ref e_W] ds ∧ Binds K d_Weaving_init ["self", "events"] ds
  c_HastyError : Addr
  g_HastyError : mg "HastyError" = some (.ref c_HastyError)
  c_InvalidEvent : Addr
  g_InvalidEvent : mg "InvalidEvent" = some (.ref c_InvalidEvent)
  o_InvalidEvent : OexC K c_InvalidEvent
  xf_InvalidEvent : XfC K c_InvalidEvent
  xc_InvalidEvent : ExcC K c_InvalidEvent
  na_InvalidEvent_at : W.findIn K (.ref c_InvalidEvent) "at" = some none
  x_InvalidEvent : XCls prog K mg c_InvalidEvent "at"
  exm_InvalidEvent_InvalidEvent : W.exmOne K (.ref c_InvalidEvent) (.ref c_InvalidEvent) = some true
  isx_InvalidEvent_HastyError : W.kitOne K (.ref c_InvalidEvent) (.ref c_HastyError) = some true
  z_isinstance : mg "isinstance" = none
  z_str : mg "str" = none
  z_len : mg "len" = none
  z_all : mg "all" = none
  z_list : mg "list" = none
  z_tuple : mg "tuple" = none
  z_int : mg "int" = none
  z_enumerate : mg "enumerate" = none
  z_abs : mg "abs" = none
  z_range : mg "range" = none
  re_W : ∀ H : Hp, Rep K H (.tup []) (.ref e_W)
  g_SMALL : ∃ t, mg "SMALL" = some (.str "abcdefghijklmnopqrstuvwxyz" t)
  g_BARRED : mg "BARRED" = some (.ref a_B)
  r_B : ∀ H : Hp, Rep K H (.tup (barred.map D.str)) (.ref a_B)
theorem tp_mk {P : Program} {K : W.Frag} {h : Heap} {mg : Str → Option Value} (X : K.In h) (G : h.Ns mainGlobals mg) {c_Weaving f_is_name f_is_sequence f_is_decimal f_event_in f__law_deal f__law_draw f__law_any f__law_tried f__law_bad f_law f_Weaving_init tD_Weaving_init e_W a_B : Addr} {od_is_name od_is_sequence od_is_decimal od_event_in od__law_deal od__law_draw od__law_any od__law_tried od__law_bad od_law od_Weaving_init an_is_name an_is_sequence an_is_decimal an_event_in an__law_deal an__law_draw an__law_any an__law_tried an__law_bad an_law an_Weaving_init dT_Weaving_init de_W dB : Option Addr} {sl_is_name sl_is_sequence sl_is_decimal sl_event_in sl__law_deal sl__law_draw sl__law_any sl__law_tried sl__law_bad sl_law sl_Weaving_init sT_Weaving_init se_W sB : Array (Option Value)} {oc_is_name kV_is_name dc_is_name pm_is_name cd_is_name ct_is_name oc_is_sequence kV_is_sequence dc_is_sequence pm_is_sequence cd_is_sequence ct_is_sequence oc_is_decimal kV_is_decimal dc_is_decimal pm_is_decimal cd_is_decimal ct_is_decimal oc_event_in kV_event_in dc_event_in pm_event_in cd_event_in ct_event_in oc__law_deal kV__law_deal dc__law_deal pm__law_deal cd__law_deal ct__law_deal oc__law_draw kV__law_draw dc__law_draw pm__law_draw cd__law_draw ct__law_draw oc__law_any kV__law_any dc__law_any pm__law_any cd__law_any ct__law_any oc__law_tried kV__law_tried dc__law_tried pm__law_tried cd__law_tried ct__law_tried oc__law_bad kV__law_bad dc__law_bad pm__law_bad cd__law_bad ct__law_bad oc_law kV_law dc_law pm_law cd_law ct_law oc_Weaving_init kV_Weaving_init dc_Weaving_init pm_Weaving_init cd_Weaving_init ct_Weaving_init oT_Weaving_init : Value} {nT_Weaving_init ne_W nB : Nat} {cd_Weaving : ClassData} {tk1 tk2 tk3 tk4 tk5 tk6 tk7 tkS : Tok} {c_HastyError c_InvalidEvent N_InvalidEvent cda_InvalidEvent cc_InvalidEvent f_InvalidEvent_init : Addr} {nm_InvalidEvent qn_InvalidEvent file_InvalidEvent : Str} {bs_InvalidEvent bm_InvalidEvent sub_InvalidEvent : List Value} {sn_InvalidEvent : List Str} {ab_InvalidEvent : Bool} {col_InvalidEvent : Option Bool} {dd_InvalidEvent od_InvalidEvent an_InvalidEvent cdd_InvalidEvent cld_InvalidEvent : Option Addr} {k0_InvalidEvent k1_InvalidEvent k2_InvalidEvent k3_InvalidEvent k5_InvalidEvent : Option Value} {oc_InvalidEvent kV_InvalidEvent dc_InvalidEvent pm_InvalidEvent ct_InvalidEvent ccl_InvalidEvent cl0_InvalidEvent : Value} {sl_InvalidEvent ccs_InvalidEvent csl_InvalidEvent : Array (Option Value)} {vs_InvalidEvent : Array Value} {tf_InvalidEvent : Tok} {cd_HastyError : ClassData}
    (cnn : W.specialIn K (.builtin "object.__class__") "__get__" = some (some (.builtin "getset_descriptor.__get__"))) (ctt : W.takesIn K (.builtin "object.__class__") = some true)
    (a_Weaving : W.nsIn K mainGlobals "Weaving" = some (some (.ref c_Weaving)))
    (pg_Weaving : W.plainGet K c_Weaving Str.empty = true)
    (hd_Weaving : W.hasDictIn K c_Weaving = true)
    (po_Weaving : W.plainOver K c_Weaving = true)
    (sa_Weaving : W.findIn K (.ref c_Weaving) "__setattr__" = some (some (.builtin "object.__setattr__")))
    (ca_Weaving : W.findIn K (.ref c_Weaving) "__class__" = some (some (.builtin "object.__class__")))
    (cm_Weaving : W.mroIn K c_Weaving (.type "object") = some true)
    (na_Weaving_events : W.findIn K (.ref c_Weaving) "events" = some none)
    (ss_Weaving_tuple : W.subIn K (.type "tuple") (.ref c_Weaving) = some false)
    (ss_Weaving_str : W.subIn K (.type "str") (.ref c_Weaving) = some false)
    (sk_Weaving_list : W.subIn K (.ref c_Weaving) (.type "list") = some false)
    (sk_Weaving_tuple : W.subIn K (.ref c_Weaving) (.type "tuple") = some false)
    (cl_Weaving : W.clsIn K c_Weaving = some cd_Weaving)
    (ty_Weaving : W.typeIn K (.ref c_Weaving) = some (.type "type"))
    (a_is_name : W.nsIn K mainGlobals "is_name" = some (some (.ref f_is_name)))
    (l_is_name : K.lookup f_is_name = some ⟨oc_is_name, od_is_name, .func (W.fnOf "is_name" "is_name" (defArgs s_is_name) (defBody s_is_name) (defScope s_is_name) .none kV_is_name dc_is_name pm_is_name an_is_name cd_is_name ct_is_name), sl_is_name⟩)
    (cc_is_name : W.codeIn K cd_is_name "is_name" = true)
    (k_is_name : W.keepIn K (.ref f_is_name) = true)
    (a_is_sequence : W.nsIn K mainGlobals "is_sequence" = some (some (.ref f_is_sequence)))
    (l_is_sequence : K.lookup f_is_sequence = some ⟨oc_is_sequence, od_is_sequence, .func (W.fnOf "is_sequence" "is_sequence" (defArgs s_is_sequence) (defBody s_is_sequence) (defScope s_is_sequence) .none kV_is_sequence dc_is_sequence pm_is_sequence an_is_sequence cd_is_sequence ct_is_sequence), sl_is_sequence⟩)
    (cc_is_sequence : W.codeIn K cd_is_sequence "is_sequence" = true)
    (k_is_sequence : W.keepIn K (.ref f_is_sequence) = true)
    (a_is_decimal : W.nsIn K mainGlobals "is_decimal" = some (some (.ref f_is_decimal)))
    (l_is_decimal : K.lookup f_is_decimal = some ⟨oc_is_decimal, od_is_decimal, .func (W.fnOf "is_decimal" "is_decimal" (defArgs s_is_decimal) (defBody s_is_decimal) (defScope s_is_decimal) .none kV_is_decimal dc_is_decimal pm_is_decimal an_is_decimal cd_is_decimal ct_is_decimal), sl_is_decimal⟩)
    (cc_is_decimal : W.codeIn K cd_is_decimal "is_decimal" = true)
    (k_is_decimal : W.keepIn K (.ref f_is_decimal) = true)
    (a_event_in : W.nsIn K mainGlobals "event_in" = some (some (.ref f_event_in)))
    (l_event_in : K.lookup f_event_in = some ⟨oc_event_in, od_event_in, .func (W.fnOf "event_in" "event_in" (defArgs s_event_in) (defBody s_event_in) (defScope s_event_in) .none kV_event_in dc_event_in pm_event_in an_event_in cd_event_in ct_event_in), sl_event_in⟩)
    (cc_event_in : W.codeIn K cd_event_in "event_in" = true)
    (k_event_in : W.keepIn K (.ref f_event_in) = true)
    (a__law_deal : W.nsIn K mainGlobals "_law_deal" = some (some (.ref f__law_deal)))
    (l__law_deal : K.lookup f__law_deal = some ⟨oc__law_deal, od__law_deal, .func (W.fnOf "_law_deal" "_law_deal" (defArgs s__law_deal) (defBody s__law_deal) (defScope s__law_deal) .none kV__law_deal dc__law_deal pm__law_deal an__law_deal cd__law_deal ct__law_deal), sl__law_deal⟩)
    (cc__law_deal : W.codeIn K cd__law_deal "_law_deal" = true)
    (k__law_deal : W.keepIn K (.ref f__law_deal) = true)
    (a__law_draw : W.nsIn K mainGlobals "_law_draw" = some (some (.ref f__law_draw)))
    (l__law_draw : K.lookup f__law_draw = some ⟨oc__law_draw, od__law_draw, .func (W.fnOf "_law_draw" "_law_draw" (defArgs s__law_draw) (defBody s__law_draw) (defScope s__law_draw) .none kV__law_draw dc__law_draw pm__law_draw an__law_draw cd__law_draw ct__law_draw), sl__law_draw⟩)
    (cc__law_draw : W.codeIn K cd__law_draw "_law_draw" = true)
    (k__law_draw : W.keepIn K (.ref f__law_draw) = true)
    (a__law_any : W.nsIn K mainGlobals "_law_any" = some (some (.ref f__law_any)))
    (l__law_any : K.lookup f__law_any = some ⟨oc__law_any, od__law_any, .func (W.fnOf "_law_any" "_law_any" (defArgs s__law_any) (defBody s__law_any) (defScope s__law_any) .none kV__law_any dc__law_any pm__law_any an__law_any cd__law_any ct__law_any), sl__law_any⟩)
    (cc__law_any : W.codeIn K cd__law_any "_law_any" = true)
    (k__law_any : W.keepIn K (.ref f__law_any) = true)
    (a__law_tried : W.nsIn K mainGlobals "_law_tried" = some (some (.ref f__law_tried)))
    (l__law_tried : K.lookup f__law_tried = some ⟨oc__law_tried, od__law_tried, .func (W.fnOf "_law_tried" "_law_tried" (defArgs s__law_tried) (defBody s__law_tried) (defScope s__law_tried) .none kV__law_tried dc__law_tried pm__law_tried an__law_tried cd__law_tried ct__law_tried), sl__law_tried⟩)
    (cc__law_tried : W.codeIn K cd__law_tried "_law_tried" = true)
    (k__law_tried : W.keepIn K (.ref f__law_tried) = true)
    (a__law_bad : W.nsIn K mainGlobals "_law_bad" = some (some (.ref f__law_bad)))
    (l__law_bad : K.lookup f__law_bad = some ⟨oc__law_bad, od__law_bad, .func (W.fnOf "_law_bad" "_law_bad" (defArgs s__law_bad) (defBody s__law_bad) (defScope s__law_bad) .none kV__law_bad dc__law_bad pm__law_bad an__law_bad cd__law_bad ct__law_bad), sl__law_bad⟩)
    (cc__law_bad : W.codeIn K cd__law_bad "_law_bad" = true)
    (k__law_bad : W.keepIn K (.ref f__law_bad) = true)
    (a_law : W.nsIn K mainGlobals "law" = some (some (.ref f_law)))
    (l_law : K.lookup f_law = some ⟨oc_law, od_law, .func (W.fnOf "law" "law" (defArgs s_law) (defBody s_law) (defScope s_law) .none kV_law dc_law pm_law an_law cd_law ct_law), sl_law⟩)
    (cc_law : W.codeIn K cd_law "law" = true)
    (k_law : W.keepIn K (.ref f_law) = true)
    (a_Weaving_init : W.findIn K (.ref c_Weaving) "__init__" = some (some (.ref f_Weaving_init)))
    (n_Weaving_init : W.isFn K (.ref f_Weaving_init) = true)
    (mm_Weaving : W.makesIn K c_Weaving = true)
    (kc_Weaving : W.keepIn K (.ref c_Weaving) = true)
    (l_Weaving_init : K.lookup f_Weaving_init = some ⟨oc_Weaving_init, od_Weaving_init, .func (W.fnOf "__init__" "Weaving.__init__" (defArgs s_Weaving_init) (defBody s_Weaving_init) (defScope s_Weaving_init) (.ref tD_Weaving_init) kV_Weaving_init dc_Weaving_init pm_Weaving_init an_Weaving_init cd_Weaving_init ct_Weaving_init), sl_Weaving_init⟩)
    (lT_Weaving_init : K.lookup tD_Weaving_init = some ⟨oT_Weaving_init, dT_Weaving_init, .seq #[.ref e_W] nT_Weaving_init, sT_Weaving_init⟩)
    (cc_Weaving_init : W.codeIn K cd_Weaving_init "Weaving.__init__" = true)
    (k_Weaving_init : W.keepIn K (.ref f_Weaving_init) = true)
    (a_HastyError : W.nsIn K mainGlobals "HastyError" = some (some (.ref c_HastyError)))
    (cl_HastyError : W.clsIn K c_HastyError = some cd_HastyError)
    (ty_HastyError : W.typeIn K (.ref c_HastyError) = some (.type "type"))
    (zt_super : (P.main.scope.names.lookup ("super" : Str)).isSome = false)
    (zz_super : W.nsIn K mainGlobals "super" = some none)
    (zz_any : W.nsIn K cStatics "thirdparty.any" = some none)
    (a_InvalidEvent : W.nsIn K mainGlobals "InvalidEvent" = some (some (.ref c_InvalidEvent)))
    (lc_InvalidEvent : K.lookup c_InvalidEvent = some (excClassObj nm_InvalidEvent qn_InvalidEvent c_InvalidEvent N_InvalidEvent bs_InvalidEvent bm_InvalidEvent true sn_InvalidEvent sub_InvalidEvent ab_InvalidEvent col_InvalidEvent dd_InvalidEvent k0_InvalidEvent k1_InvalidEvent k2_InvalidEvent k3_InvalidEvent k5_InvalidEvent "ValueError.__new__"))
    (rv_InvalidEvent : HandSPX.refsVE bm_InvalidEvent = true)
    (sa_InvalidEvent : W.findIn K (.ref c_InvalidEvent) "__setattr__" = some (some (.builtin "object.__setattr__")))
    (ex_InvalidEvent : W.subIn K (.ref c_InvalidEvent) (.type "BaseException") = some true)
    (ty_InvalidEvent : W.typeIn K (.ref c_InvalidEvent) = some (.type "type"))
    (kc_InvalidEvent : W.keepIn K (.ref c_InvalidEvent) = true)
    (ga_InvalidEvent : W.findIn K (.ref c_InvalidEvent) "__getattribute__" = some (some (.builtin "BaseException.__getattribute__")))
    (gg_InvalidEvent : W.findIn K (.ref c_InvalidEvent) "__getattr__" = some none)
    (hd_InvalidEvent : W.hasDictIn K c_InvalidEvent = true)
    (ca_InvalidEvent : W.findIn K (.ref c_InvalidEvent) "__class__" = some (some (.builtin "object.__class__")))
    (cm_InvalidEvent : W.mroIn K c_InvalidEvent (.type "object") = some true)
    (na_InvalidEvent_at : W.findIn K (.ref c_InvalidEvent) "at" = some none)
    (ai_InvalidEvent : W.findIn K (.ref c_InvalidEvent) "__init__" = some (some (.ref f_InvalidEvent_init)))
    (ti_InvalidEvent : W.typeIn K (.ref f_InvalidEvent_init) = some (.type "function"))
    (lf_InvalidEvent : K.lookup f_InvalidEvent_init = some ⟨oc_InvalidEvent, od_InvalidEvent, .func (W.ksFn "__init__" "InvalidEvent.__init__" (defArgs s_InvalidEvent_init) (defBody s_InvalidEvent_init) (defScope s_InvalidEvent_init) .none kV_InvalidEvent dc_InvalidEvent pm_InvalidEvent an_InvalidEvent (.ref cda_InvalidEvent) ct_InvalidEvent cc_InvalidEvent), sl_InvalidEvent⟩)
    (ld_InvalidEvent : K.lookup cda_InvalidEvent = some ⟨ccl_InvalidEvent, cdd_InvalidEvent, .fields vs_InvalidEvent, ccs_InvalidEvent⟩)
    (hv_InvalidEvent : vs_InvalidEvent[2]? = some (.str file_InvalidEvent tf_InvalidEvent))
    (hf_InvalidEvent : ((P.main.file : Str) == file_InvalidEvent) = true)
    (ci_InvalidEvent : W.codeIn K (.ref cda_InvalidEvent) "InvalidEvent.__init__" = true)
    (lk_InvalidEvent : K.lookup cc_InvalidEvent = some ⟨cl0_InvalidEvent, cld_InvalidEvent, .cell (some (.ref c_InvalidEvent)), csl_InvalidEvent⟩)
    (si_InvalidEvent : W.ks_superIn K c_InvalidEvent c_InvalidEvent "__init__" = some (some (.builtin "ValueError.__init__")))
    (sv_InvalidEvent : W.subIn K (.ref c_InvalidEvent) (.type "ValueError") = some true)
    (su_InvalidEvent_InvalidEvent : W.subIn K (.ref c_InvalidEvent) (.ref c_InvalidEvent) = some true)
    (su_InvalidEvent_HastyError : W.subIn K (.ref c_InvalidEvent) (.ref c_HastyError) = some true)
    (nq_InvalidEvent_HastyError : ((.ref c_InvalidEvent : Value) == .ref c_HastyError) = false)
    (z_isinstance : W.nsIn K mainGlobals "isinstance" = some none)
    (z_str : W.nsIn K mainGlobals "str" = some none)
    (z_len : W.nsIn K mainGlobals "len" = some none)
    (z_all : W.nsIn K mainGlobals "all" = some none)
    (z_list : W.nsIn K mainGlobals "list" = some none)
    (z_tuple : W.nsIn K mainGlobals "tuple" = some none)
    (z_int : W.nsIn K mainGlobals "int" = some none)
    (z_enumerate : W.nsIn K mainGlobals "enumerate" = some none)
    (z_abs : W.nsIn K mainGlobals "abs" = some none)
    (z_range : W.nsIn K mainGlobals "range" = some none)
    (le_W : K.lookup e_W = some ⟨.type "tuple", de_W, .seq (#[] : Array Value) ne_W, se_W⟩)
    (a_SMALL : W.nsIn K mainGlobals "SMALL" = some (some (.str "abcdefghijklmnopqrstuvwxyz" tkS)))
    (a_BARRED : W.nsIn K mainGlobals "BARRED" = some (some (.ref a_B)))
    (l_B : K.lookup a_B = some ⟨.type "tuple", dB, .seq (#[.str "no" tk1, .str "yes" tk2, .str "do" tk3, .str "if" tk4, .str "and" tk5, .str "not" tk6, .str "then" tk7] : Array Value) nB, sB⟩)
    : Nonempty (Tp P K mg) :=
  ⟨{ c_Weaving := c_Weaving, c_HastyError := c_HastyError, c_InvalidEvent := c_InvalidEvent, f_is_name := f_is_name, f_is_sequence := f_is_sequence, f_is_decimal := f_is_decimal, f_event_in := f_event_in, f__law_deal := f__law_deal, f__law_draw := f__law_draw, f__law_any := f__law_any, f__law_tried := f__law_tried, f__law_bad := f__law_bad, f_law := f_law, f_Weaving_init := f_Weaving_init, d_is_name := W.fnOf "is_name" "is_name" (defArgs s_is_name) (defBody s_is_name) (defScope s_is_name) .none kV_is_name dc_is_name pm_is_name an_is_name cd_is_name ct_is_name, d_is_sequence := W.fnOf "is_sequence" "is_sequence" (defArgs s_is_sequence) (defBody s_is_sequence) (defScope s_is_sequence) .none kV_is_sequence dc_is_sequence pm_is_sequence an_is_sequence cd_is_sequence ct_is_sequence, d_is_decimal := W.fnOf "is_decimal" "is_decimal" (defArgs s_is_decimal) (defBody s_is_decimal) (defScope s_is_decimal) .none kV_is_decimal dc_is_decimal pm_is_decimal an_is_decimal cd_is_decimal ct_is_decimal, d_event_in := W.fnOf "event_in" "event_in" (defArgs s_event_in) (defBody s_event_in) (defScope s_event_in) .none kV_event_in dc_event_in pm_event_in an_event_in cd_event_in ct_event_in, d__law_deal := W.fnOf "_law_deal" "_law_deal" (defArgs s__law_deal) (defBody s__law_deal) (defScope s__law_deal) .none kV__law_deal dc__law_deal pm__law_deal an__law_deal cd__law_deal ct__law_deal, d__law_draw := W.fnOf "_law_draw" "_law_draw" (defArgs s__law_draw) (defBody s__law_draw) (defScope s__law_draw) .none kV__law_draw dc__law_draw pm__law_draw an__law_draw cd__law_draw ct__law_draw, d__law_any := W.fnOf "_law_any" "_law_any" (defArgs s__law_any) (defBody s__law_any) (defScope s__law_any) .none kV__law_any dc__law_any pm__law_any an__law_any cd__law_any ct__law_any, d__law_tried := W.fnOf "_law_tried" "_law_tried" (defArgs s__law_tried) (defBody s__law_tried) (defScope s__law_tried) .none kV__law_tried dc__law_tried pm__law_tried an__law_tried cd__law_tried ct__law_tried, d__law_bad := W.fnOf "_law_bad" "_law_bad" (defArgs s__law_bad) (defBody s__law_bad) (defScope s__law_bad) .none kV__law_bad dc__law_bad pm__law_bad an__law_bad cd__law_bad ct__law_bad, d_law := W.fnOf "law" "law" (defArgs s_law) (defBody s_law) (defScope s_law) .none kV_law dc_law pm_law an_law cd_law ct_law, d_Weaving_init := W.fnOf "__init__" "Weaving.__init__" (defArgs s_Weaving_init) (defBody s_Weaving_init) (defScope s_Weaving_init) (.ref tD_Weaving_init) kV_Weaving_init dc_Weaving_init pm_Weaving_init an_Weaving_init cd_Weaving_init ct_Weaving_init, e_W := e_W, a_B := a_B,
       i_Weaving := ⟨⟨pg_Weaving, hd_Weaving, po_Weaving, sa_Weaving⟩, ca_Weaving, cnn, ctt, cm_Weaving⟩,
       g_Weaving := W.mg_of X G a_Weaving,
       na_Weaving_events := na_Weaving_events,
       isi_Weaving_tuple := kit_ref cl_Weaving ty_Weaving ss_Weaving_tuple (by first | rfl | decide | (exact bne_of (by decide))),
       isi_Weaving_str := kit_ref cl_Weaving ty_Weaving ss_Weaving_str (by first | rfl | decide | (exact bne_of (by decide))),
       kin_Weaving_list := kit_tyF sk_Weaving_list (by decide +kernel),
       kin_Weaving_tuple := kit_tyF sk_Weaving_tuple (by decide +kernel),
       g_is_name := W.mg_of X G a_is_name,
       F_is_name := funD0 l_is_name cc_is_name k_is_name,
       b_is_name := (funD0 l_is_name cc_is_name k_is_name).bindsN fun _ _ _ _ _ _ us hl => match us, hl with | [_], _ => rfl,
       g_is_sequence := W.mg_of X G a_is_sequence,
       F_is_sequence := funD0 l_is_sequence cc_is_sequence k_is_sequence,
       b_is_sequence := (funD0 l_is_sequence cc_is_sequence k_is_sequence).bindsN fun _ _ _ _ _ _ us hl => match us, hl with | [_], _ => rfl,
       g_is_decimal := W.mg_of X G a_is_decimal,
       F_is_decimal := funD0 l_is_decimal cc_is_decimal k_is_decimal,
       b_is_decimal := (funD0 l_is_decimal cc_is_decimal k_is_decimal).bindsN fun _ _ _ _ _ _ us hl => match us, hl with | [_], _ => rfl,
       g_event_in := W.mg_of X G a_event_in,
       F_event_in := funD0 l_event_in cc_event_in k_event_in,
       b_event_in := (funD0 l_event_in cc_event_in k_event_in).bindsN fun _ _ _ _ _ _ us hl => match us, hl with | [_], _ => rfl,
       g__law_deal := W.mg_of X G a__law_deal,
       F__law_deal := funD0 l__law_deal cc__law_deal k__law_deal,
       b__law_deal := (funD0 l__law_deal cc__law_deal k__law_deal).bindsN fun _ _ _ _ _ _ us hl => match us, hl with | [_, _], _ => rfl,
       g__law_draw := W.mg_of X G a__law_draw,
       F__law_draw := funD0 l__law_draw cc__law_draw k__law_draw,
       b__law_draw := (funD0 l__law_draw cc__law_draw k__law_draw).bindsN fun _ _ _ _ _ _ us hl => match us, hl with | [_, _], _ => rfl,
       g__law_any := W.mg_of X G a__law_any,
       F__law_any := funD0 l__law_any cc__law_any k__law_any,
       b__law_any := (funD0 l__law_any cc__law_any k__law_any).bindsN fun _ _ _ _ _ _ us hl => match us, hl with | [_, _], _ => rfl,
       g__law_tried := W.mg_of X G a__law_tried,
       F__law_tried := funD0 l__law_tried cc__law_tried k__law_tried,
       b__law_tried := (funD0 l__law_tried cc__law_tried k__law_tried).bindsN fun _ _ _ _ _ _ us hl => match us, hl with | [_], _ => rfl,
       g__law_bad := W.mg_of X G a__law_bad,
       F__law_bad := funD0 l__law_bad cc__law_bad k__law_bad,
       b__law_bad := (funD0 l__law_bad cc__law_bad k__law_bad).bindsN fun _ _ _ _ _ _ us hl => match us, hl with | [_], _ => rfl,
       g_law := W.mg_of X G a_law,
       F_law := funD0 l_law cc_law k_law,
       b_law := (funD0 l_law cc_law k_law).bindsN fun _ _ _ _ _ _ us hl => match us, hl with | [_], _ => rfl,
       mk_Weaving := ⟨mm_Weaving, a_Weaving_init, n_Weaving_init, kc_Weaving⟩,
       F_Weaving_init := funD1 l_Weaving_init cc_Weaving_init k_Weaving_init lT_Weaving_init (show Vals [V.ref e_W] [Value.ref e_W] from .cons rfl .nil) (by simp),
       b_Weaving_init := binds_all (ps := ["self", "events"]) (funD1 l_Weaving_init cc_Weaving_init k_Weaving_init lT_Weaving_init (show Vals [V.ref e_W] [Value.ref e_W] from .cons rfl .nil) (by simp)) 2 rfl (by simp) fun _ _ _ _ _ _ _ us its hu hi => match us, its, hu, hi with | [_, _], [_], _, _ => ⟨_, rfl, rfl⟩,
       b0_Weaving_init := (funD1 l_Weaving_init cc_Weaving_init k_Weaving_init lT_Weaving_init (show Vals [V.ref e_W] [Value.ref e_W] from .cons rfl .nil) (by simp)).binds1 (ps := ["self", "events"]) 1 0 (by simp) rfl fun _ _ _ _ _ _ _ us its hu hi => match us, its, hu, hi with | [_], [_], _, _ => ⟨_, rfl, rfl⟩,
       g_HastyError := W.mg_of X G a_HastyError,
       g_InvalidEvent := W.mg_of X G a_InvalidEvent,
       o_InvalidEvent := ⟨⟨_, _, _, _, _, _, _, _, _, _, _, _, _, _, _, lc_InvalidEvent, rv_InvalidEvent⟩, sa_InvalidEvent, ex_InvalidEvent, ty_InvalidEvent, kc_InvalidEvent⟩,
       xf_InvalidEvent := ⟨ga_InvalidEvent, gg_InvalidEvent, ex_InvalidEvent, hd_InvalidEvent⟩,
       xc_InvalidEvent := ⟨ga_InvalidEvent, gg_InvalidEvent, ex_InvalidEvent, hd_InvalidEvent, ca_InvalidEvent, cnn, ctt, cm_InvalidEvent⟩,
       na_InvalidEvent_at := na_InvalidEvent_at,
       x_InvalidEvent := ⟨⟨⟨_, _, _, _, _, _, _, _, _, _, _, _, _, _, _, lc_InvalidEvent, rv_InvalidEvent⟩, sa_InvalidEvent, ex_InvalidEvent, ty_InvalidEvent, kc_InvalidEvent⟩, _, ai_InvalidEvent, ti_InvalidEvent, sup_InvalidEvent lc_InvalidEvent rv_InvalidEvent sa_InvalidEvent na_InvalidEvent_at lf_InvalidEvent ld_InvalidEvent hv_InvalidEvent hf_InvalidEvent ci_InvalidEvent lk_InvalidEvent (W.mg_none_of X G zz_super) zt_super zz_any si_InvalidEvent sv_InvalidEvent⟩,
       exm_InvalidEvent_InvalidEvent := W.exm_ref ex_InvalidEvent hd_InvalidEvent ty_InvalidEvent su_InvalidEvent_InvalidEvent,
       isx_InvalidEvent_HastyError := kit_ref cl_HastyError ty_HastyError su_InvalidEvent_HastyError nq_InvalidEvent_HastyError,
       z_isinstance := W.mg_none_of X G z_isinstance,
       z_str := W.mg_none_of X G z_str,
       z_len := W.mg_none_of X G z_len,
       z_all := W.mg_none_of X G z_all,
       z_list := W.mg_none_of X G z_list,
       z_tuple := W.mg_none_of X G z_tuple,
       z_int := W.mg_none_of X G z_int,
       z_enumerate := W.mg_none_of X G z_enumerate,
       z_abs := W.mg_none_of X G z_abs,
       z_range := W.mg_none_of X G z_range,
       re_W := fun H => rep_ktup le_W (by simp) .nil Reps.nil,
       g_SMALL := ⟨tkS, W.mg_of X G a_SMALL⟩,
       g_BARRED := W.mg_of X G a_BARRED,
       r_B := fun H => rep_ktup (vs := barred.map V.str) l_B (by simp) (.cons ⟨_, rfl⟩ (.cons ⟨_, rfl⟩ (.cons ⟨_, rfl⟩ (.cons ⟨_, rfl⟩ (.cons ⟨_, rfl⟩ (.cons ⟨_, rfl⟩ (.cons ⟨_, rfl⟩ .nil))))))) (Reps.strs barred)
     }⟩
theorem tp_fa {P : Program} {K : W.Frag} {mg : Str → Option Value} {fa : Addr} (h : mg "law" = some (.ref fa)) (T : Nonempty (Tp P K mg)) : ∃ T : Tp P K mg, T.f_law = fa := by
  obtain ⟨T⟩ := T
  refine ⟨T, ?_⟩
  have e := h.symm.trans T.g_law
  cases e
  rfl
theorem law_binds {P : Program} {K : W.Frag} {mg : Str → Option Value} (T : Tp P K mg) (s : Shared) (u : Value) : BindsTo s T.d_law ⟨[u], []⟩ [("_law_script", u)] := T.F_law.bindsA (ps := ["_law_script"]) (fun _ _ _ _ _ _ us hl => match us, hl with | [_], _ => rfl) s [u] rfl
end Kk

namespace Kk
open PySem L2 PySem.Spec PyProof.Rows Tr
set_option hygiene false
local macro_rules | `(tactic| walk_at "E") => `(tactic| first
  | ((with_reducible show Tr.WE _ (.Name _ _) _ _ _); walk_at "N")
  | ((with_reducible show Tr.WE _ (.Constant _ _ _) _ _ _); first | with_reducible refine we_int ?_ | with_reducible refine we_str ?_ | with_reducible refine we_bl ?_ | with_reducible refine we_non ?_)
  | ((with_reducible show Tr.WE _ (.Call _ _ _ _) _ _ _); first | ((with_reducible show Tr.WE _ (.Call (.Name _ _) _ _ _) _ _ _); walk_at "call") | ((with_reducible show Tr.WE _ (.Call (.Attribute _ _ _) _ _ _) _ _ _); walk_at "meth"))
  | ((with_reducible show Tr.WE _ (.Attribute _ _ _) _ _ _); walk_at "attr")
  | ((with_reducible show Tr.WE _ (.Subscript _ _ _) _ _ _); first | ((with_reducible show Tr.WE _ (.Subscript _ (.Slice _ _ none _) _) _ _ _); refine we_slice ?_) | ((with_reducible show Tr.WE _ (.Subscript _ (.Slice none none (some _) _) _) _ _ _); refine we_rev ?_) | refine we_ix ?_ (fun _ _ => rfl))
  | ((with_reducible show Tr.WE _ (.BinOp _ _ _ _) _ _ _); refine we_bin ?_)
  | ((with_reducible show Tr.WE _ (.Compare _ _ _ _) _ _ _); refine we_cmp ?_ (by rfl))
  | ((with_reducible show Tr.WE _ (.List _ _) _ _ _); refine we_lst ?_)
  | ((with_reducible show Tr.WE _ (.Tuple _ _ _) _ _ _); refine we_tup ?_)
  | ((with_reducible show Tr.WE _ (.IfExp _ _ _ _) _ _ _); refine we_ifExp ?_)
  | ((with_reducible show Tr.WE _ (.UnaryOp _ _ _) _ _ _); first | with_reducible refine we_not ?_ | with_reducible refine we_neg (i := 0) ?_)
  | ((with_reducible show Tr.WE _ (.BoolOp _ _ _) _ _ _); first | with_reducible refine we_one ?_ | with_reducible refine we_and ?_ | with_reducible refine we_or ?_)
  | ((with_reducible show Tr.WE _ (.ListComp _ _ _ _) _ _ _); walk_at "lc"))
local macro_rules | `(tactic| walk_at "T") => `(tactic| first
  | ((with_reducible show WT _ (.Compare _ [_] [_] _) _ _ _); refine wt_cmp ?_ (by rfl))
  | ((with_reducible show WT _ (.UnaryOp .Not _ _) _ _ _); refine wt_not ?_)
  | ((with_reducible show WT _ (.BoolOp _ _ _) _ _ _); refine wt_p ?_)
  | ((with_reducible show WT _ (.Compare _ [_, _] [_, _] _) _ _ _); refine wt_chain2 ?_)
  | refine wt_val ?_)
local macro_rules | `(tactic| walk_at "P") => `(tactic| first
  | with_reducible refine wp_and1 ?_
  | with_reducible refine wp_or1 ?_
  | with_reducible refine wp_and ?_
  | with_reducible refine wp_or ?_)
local macro_rules | `(tactic| walk_at "s") => `(tactic| first
  | ((with_reducible show WSs _ [] _ _ _); refine wss_nil ?_)
  | ((with_reducible show WSs _ _ _ _ _); first | refine wss_one ?_ | refine wss_cons ?_)
  | ((with_reducible show WS _ (.Assign _ _ _) _ _ _); first
    | ((with_reducible show WS _ (.Assign [.Name _ _] _ _) _ _ _); first | ((with_reducible show WS _ (.Assign [.Name _ _] (.ListComp _ _ _ _) _) _ _ _); walk_at "slc") | walk_at "set")
    | ((with_reducible show WS _ (.Assign [.Tuple [.Name _ _, .Name _ _] _ _] (.Tuple [_, _] _ _) _) _ _ _); walk_at "par")
    | ((with_reducible show WS _ (.Assign [.Attribute _ _ _] _ _) _ _ _); walk_at "sfld")
    | refine ws_asg ?_)
  | ((with_reducible show WS _ (.If _ _ _ _) _ _ _); refine ws_if ?_)
  | ((with_reducible show WS _ (.Return _ _) _ _ _); first | with_reducible refine ws_ret ?_ | with_reducible refine ws_retN ?_)
  | ((with_reducible show WS _ (.Expr _ _) _ _ _); refine ws_expr ?_)
  | ((with_reducible show WS _ (.Pass _) _ _ _); refine ws_pass ?_)
  | ((with_reducible show WS _ (.Break _) _ _ _); refine ws_break ?_)
  | ((with_reducible show WS _ (.Continue _) _ _ _); refine ws_continue ?_)
  | ((with_reducible show WS _ (.AugAssign _ _ _ _) _ _ _); walk_at "aug"))
local macro_rules | `(tactic| walk_at "G") => `(tactic| first
  | ((with_reducible show WG _ (.Name _ _) _ _ _ _); walk_at "tgt")
  | ((with_reducible show WG _ (.Tuple _ _ _) _ _ _ _); refine wg_tup rfl ?_ rfl)
  | ((with_reducible show WG _ (.Subscript _ _ _) _ _ _ _); walk_at "gsub"))
local macro_rules | `(tactic| walk_at "Gs") => `(tactic| first
  | with_reducible refine wgs_nil ?_
  | refine wgs_cons ?_)
local macro_rules | `(tactic| walk_at "e") => `(tactic| first
  | ((with_reducible show Tr.WE _ _ _ _ _); walk_at "E")
  | ((with_reducible show OW _ _ _ _ _ _); walk_at "o")
  | ((with_reducible show CW _ _ _ _ _); walk_at "c")
  | ((with_reducible show WA _ _ _ _ _); first | with_reducible refine wa_nil ?_ | refine wa_cons ?_ rfl)
  | ((with_reducible show WT _ _ _ _ _); walk_at "T")
  | ((with_reducible show WP _ _ _ _ _); walk_at "P")
  | walk_at "s"
  | ((with_reducible show IW _ _ _ _ _); first | refine iw_tup (by rfl) ?_ | refine iw_lst (by walk_at "cell") (by rfl) ?_)
  | ((with_reducible show SW _ _ _ _ _ _); first | refine sw_lst (by walk_at "cell") ?_ | (with_reducible (refine sw_str ?hs ?_); (case hs => (with_unfolding_all walk_at "n"))))
  | ((with_reducible show WO _ _ _ _ _); first | with_reducible refine wo_none ?_ | with_reducible refine wo_some ?_)
  | ((with_reducible show WG _ _ _ _ _ _); walk_at "G")
  | ((with_reducible show WGs _ _ _ _ _ _); walk_at "Gs")
  | ((with_reducible show if _ then _ else _); first | with_reducible refine iteT ?_ | with_reducible refine iteF ?_ | ((with_reducible show if (!false) = true then _ else _); refine iteT ?_) | ((with_reducible show if (!true) = true then _ else _); refine iteF ?_))
  | ((with_reducible show _ ≤ 100000 ∧ _); refine ⟨by simp, ?_⟩)
  | ((with_reducible show ∃ _, _); walk_at "ex"))
local macro_rules | `(tactic| walk_at "ex") => `(tactic| first
  | ((with_reducible show ∃ _, D.bl _ = D.bl _ ∧ _); refine ⟨_, rfl, ?_⟩)
  | ((with_reducible show ∃ _, D.int _ = D.int _ ∧ _); refine ⟨_, rfl, ?_⟩)
  | ((with_reducible show ∃ _, D.str _ = D.str _ ∧ _); refine ⟨_, rfl, ?_⟩)
  | ((with_reducible show ∃ _, D.lst _ = D.lst _ ∧ _); refine ⟨_, rfl, ?_⟩)
  | ((with_reducible show ∃ _, D.tup _ = D.tup _ ∧ _); refine ⟨_, rfl, ?_⟩)
  | ((with_reducible show ∃ d1 d2 : D, [_, _] = [d1, d2] ∧ _); refine ⟨_, _, rfl, ?_⟩)
  | ((with_reducible show ∃ ds2 : List D, _ ∧ ds2.length < 100000 ∧ _); refine ⟨_, rfl, by walk_at "len", ?_⟩))
local macro_rules | `(tactic| walk_at "o") => `(tactic| first
  | ((with_reducible show OW _ (compareOp .Eq) _ _ _ _); first | with_reducible refine ow_eq_int ?_ | with_reducible refine ow_eq_str ?_ | with_reducible refine ow_eq_bl ?_ | walk_at "eq")
  | ((with_reducible show OW _ (compareOp .NotEq) _ _ _ _); first | with_reducible refine ow_ne_int ?_ | with_reducible refine ow_ne_str ?_ | with_reducible refine ow_ne_bl ?_ | walk_at "ne")
  | ((with_reducible show OW _ (binaryOp .Add) _ _ _ _); first | with_reducible refine ow_add ?_ | (with_reducible (refine ow_add_str ?hs ?_); (case hs => (with_unfolding_all walk_at "n"))))
  | ((with_reducible show OW _ (compareOp .Is) _ _ _ _); refine ow_isN (by walk_at "noraw") ?_)
  | ((with_reducible show OW _ (compareOp .IsNot) _ _ _ _); refine ow_isNotN (by walk_at "noraw") ?_)
  | with_reducible refine ow_sub ?_
  | with_reducible refine ow_lt ?_
  | with_reducible refine ow_le ?_
  | with_reducible refine ow_gt ?_
  | with_reducible refine ow_ge ?_
  | ((with_reducible show OW _ (compareOp .In) _ _ _ _); walk_at "in")
  | ((with_reducible show OW _ (compareOp .NotIn) _ _ _ _); walk_at "in")
  | (with_reducible (refine ow_mod ?hs ?_); (case hs => (with_unfolding_all walk_at "n")))
  | (with_reducible (refine ow_mul ?hs ?_); (case hs => (with_unfolding_all walk_at "n")))
  | (with_reducible (refine ow_fdiv ?hs ?_); (case hs => (with_unfolding_all walk_at "n")))
  | (with_reducible (refine ow_pow ?hs ?_); (case hs => (with_unfolding_all walk_at "n"))))
local macro_rules | `(tactic| walk_at "eq") => `(tactic| first
  | fail)
local macro_rules | `(tactic| walk_at "ne") => `(tactic| first
  | fail)
local macro_rules | `(tactic| walk_at "in") => `(tactic| first
  | refine ow_inT (by rfl) ?_
  | refine ow_notInT (by rfl) ?_)
local macro_rules | `(tactic| walk_at "noraw") => `(tactic| first | assumption | (simp; done))
local macro_rules | `(tactic| walk_at "c") => `(tactic| first
  | ((with_reducible show CW _ (.builtin "len") _ _ _); first | refine cw_len (by walk_at "sq") ?_ | (with_reducible (refine cw_len_str ?hs ?_); (case hs => (with_unfolding_all walk_at "n"))))
  | ((with_reducible show CW _ (.type "tuple") _ _ _); refine cw_tuple (by walk_at "sq") ?_)
  | ((with_reducible show CW _ (.type "int") _ _ _); first | with_reducible refine cw_int ?_ | with_reducible refine cw_int_bl ?_)
  | ((with_reducible show CW _ (.type "str") _ _ _); first | with_reducible refine cw_str_str ?_ | (with_reducible (refine cw_str_int ?hs ?_); (case hs => (with_unfolding_all walk_at "n"))))
  | ((with_reducible show CW _ (.builtin "abs") _ _ _); with_reducible refine cw_abs ?_))
local macro_rules | `(tactic| walk_at "i") => `(tactic| refine ite2 (fun hk => ?_) (fun hk => ?_))
local macro_rules | `(tactic| walk_at "n") => `(tactic| first | assumption | decide | omega | exact ⟨by decide, by decide⟩ | exact ⟨by decide, by decide, by decide⟩ | exact Or.inl ⟨by decide, by decide⟩ | exact Or.inr ⟨by decide, by decide⟩ | (simp; done) | (simp; omega))
local macro_rules | `(tactic| walk_at "cell") => `(tactic| first | exact LstD.l | exact LstD.c (i := 0) rfl | exact LstD.c (i := 1) rfl | exact LstD.c (i := 2) rfl | exact LstD.c (i := 3) rfl | exact LstD.c (i := 4) rfl | exact LstD.c (i := 5) rfl | exact LstD.c (i := 6) rfl | exact LstD.c (i := 7) rfl)
local macro_rules | `(tactic| walk_at "sq") => `(tactic| first | assumption | exact SeqD.l | exact SeqD.t | exact SeqD.c (i := 0) rfl | exact SeqD.c (i := 1) rfl | exact SeqD.c (i := 2) rfl | exact SeqD.c (i := 3) rfl | exact SeqD.c (i := 4) rfl | exact SeqD.c (i := 5) rfl | exact SeqD.c (i := 6) rfl | exact SeqD.c (i := 7) rfl)
local macro_rules | `(tactic| walk_at "len") => `(tactic| first | assumption | decide | omega | (simp; done) | (simp; omega) | (simp at *; omega; done))
local macro_rules | `(tactic| walk_at "w") => `(tactic| repeat (walk_at "e"))
local macro_rules | `(tactic| walk_at "cat") => `(tactic| ((with_reducible show OW _ (binaryOp .Add) _ _ _ _); refine ow_cat (by walk_at "cell") (by walk_at "cell") (by walk_at "len") ?_))
local macro_rules | `(tactic| walk_at "W") => `(tactic| repeat (first | walk_at "e" | walk_at "cat"))
local macro_rules | `(tactic| walk_at "tt") => `(tactic| first | assumption | with_reducible_and_instances rfl | (simp [isNon]; done) | (simp; omega))
local macro_rules | `(tactic| walk_at "if") => `(tactic| ((with_reducible show if _ = true then _ else _); first | refine iteP (by walk_at "tt") ?_ | refine iteN (by walk_at "tt") ?_))
local macro_rules | `(tactic| walk_at "x") => `(tactic| repeat (first | walk_at "e" | walk_at "cat" | walk_at "if"))
local macro_rules | `(tactic| walk_at "it") => `(tactic| first
  | (refine wi_range1 rfl T.z_range ?_; walk_at "w")
  | (refine wi_range2 rfl T.z_range ?_; walk_at "w")
  | (refine wi_enumS rfl T.z_enumerate ?_; walk_at "w"; first | refine ⟨_, .l, ?_⟩ | refine ⟨_, .t, ?_⟩ | refine ⟨_, .c (i := 0) rfl, ?_⟩ | refine ⟨_, .c (i := 1) rfl, ?_⟩ | refine ⟨_, .c (i := 2) rfl, ?_⟩ | refine ⟨_, .c (i := 3) rfl, ?_⟩ | refine ⟨_, .c (i := 4) rfl, ?_⟩ | refine ⟨_, .c (i := 5) rfl, ?_⟩ | refine ⟨_, .c (i := 6) rfl, ?_⟩ | refine ⟨_, .c (i := 7) rfl, ?_⟩ | skip)
  | (refine wi_lst ?_; walk_at "w"; refine ⟨_, rfl, ?_⟩)
  | (refine wi_tup ?_; walk_at "w"; refine ⟨_, rfl, ?_⟩)
  | (refine wi_str ?_; walk_at "w"; refine ⟨_, rfl, ?_⟩)
  | (refine wi_lst ?_; walk_at "w"; done)
  | (refine wi_tup ?_; walk_at "w"; done)
  | (refine wi_str ?_; walk_at "w"; done))
local macro_rules | `(tactic| walk_at "app") => `(tactic| first | (refine we_append 0 ?_; walk_at "w"; refine ⟨_, _, rfl, rfl, ?_⟩) | (refine we_append 1 ?_; walk_at "w"; refine ⟨_, _, rfl, rfl, ?_⟩) | (refine we_append 2 ?_; walk_at "w"; refine ⟨_, _, rfl, rfl, ?_⟩) | (refine we_append 3 ?_; walk_at "w"; refine ⟨_, _, rfl, rfl, ?_⟩) | (refine we_append 4 ?_; walk_at "w"; refine ⟨_, _, rfl, rfl, ?_⟩) | (refine we_append 5 ?_; walk_at "w"; refine ⟨_, _, rfl, rfl, ?_⟩) | (refine we_append 6 ?_; walk_at "w"; refine ⟨_, _, rfl, rfl, ?_⟩) | (refine we_append 7 ?_; walk_at "w"; refine ⟨_, _, rfl, rfl, ?_⟩))
local macro_rules | `(tactic| walk_at "fldi") => `(tactic| refine we_fld rfl ?_)
local macro_rules | `(tactic| walk_at "attr") => `(tactic| first
  | refine we_fld rfl ?_)
local macro_rules | `(tactic| walk_at "call") => `(tactic| first
  | ((with_reducible show Tr.WE _ (.Call (.Name "len" _) (_ :: _) [] _) _ _ _); refine we_callB (id := "len") rfl T.z_len (by decide +kernel) ?_)
  | ((with_reducible show Tr.WE _ (.Call (.Name "isinstance" _) (_ :: _) [] _) _ _ _); refine we_callB (id := "isinstance") rfl T.z_isinstance (by decide +kernel) ?_)
  | ((with_reducible show Tr.WE _ (.Call (.Name "all" _) (_ :: _) [] _) _ _ _); refine we_callB (id := "all") rfl T.z_all (by decide +kernel) ?_)
  | ((with_reducible show Tr.WE _ (.Call (.Name "repr" _) (_ :: _) [] _) _ _ _); refine we_callB (id := "repr") rfl T.z_repr (by decide +kernel) ?_)
  | ((with_reducible show Tr.WE _ (.Call (.Name "any" _) (_ :: _) [] _) _ _ _); refine we_callB (id := "any") rfl T.z_any (by decide +kernel) ?_)
  | ((with_reducible show Tr.WE _ (.Call (.Name "abs" _) (_ :: _) [] _) _ _ _); refine we_callB (id := "abs") rfl T.z_abs (by decide +kernel) ?_)
  | ((with_reducible show Tr.WE _ (.Call (.Name "min" _) (_ :: _) [] _) _ _ _); refine we_callB (id := "min") rfl T.z_min (by decide +kernel) ?_)
  | ((with_reducible show Tr.WE _ (.Call (.Name "max" _) (_ :: _) [] _) _ _ _); refine we_callB (id := "max") rfl T.z_max (by decide +kernel) ?_)
  | ((with_reducible show Tr.WE _ (.Call (.Name "sorted" _) (_ :: _) [] _) _ _ _); refine we_callB (id := "sorted") rfl T.z_sorted (by decide +kernel) ?_)
  | ((with_reducible show Tr.WE _ (.Call (.Name "int" _) (_ :: _) [] _) _ _ _); refine we_callTy (id := "int") rfl T.z_int (by decide +kernel) ?_)
  | ((with_reducible show Tr.WE _ (.Call (.Name "str" _) (_ :: _) [] _) _ _ _); refine we_callTy (id := "str") rfl T.z_str (by decide +kernel) ?_)
  | ((with_reducible show Tr.WE _ (.Call (.Name "list" _) (_ :: _) [] _) _ _ _); refine we_callTy (id := "list") rfl T.z_list (by decide +kernel) ?_)
  | ((with_reducible show Tr.WE _ (.Call (.Name "tuple" _) (_ :: _) [] _) _ _ _); refine we_callTy (id := "tuple") rfl T.z_tuple (by decide +kernel) ?_))
local macro_rules | `(tactic| walk_at "N") => `(tactic| first
  | ((with_reducible show Tr.WE _ (.Name "list" _) _ _ _); refine we_ty (n := "list") rfl T.z_list (by decide +kernel) ?_)
  | ((with_reducible show Tr.WE _ (.Name "tuple" _) _ _ _); refine we_ty (n := "tuple") rfl T.z_tuple (by decide +kernel) ?_)
  | ((with_reducible show Tr.WE _ (.Name "int" _) _ _ _); refine we_ty (n := "int") rfl T.z_int (by decide +kernel) ?_)
  | ((with_reducible show Tr.WE _ (.Name "str" _) _ _ _); refine we_ty (n := "str") rfl T.z_str (by decide +kernel) ?_)
  | ((with_reducible show Tr.WE _ (.Name "bool" _) _ _ _); refine we_ty (n := "bool") rfl T.z_bool (by decide +kernel) ?_))
local macro_rules | `(tactic| walk_at "meth") => `(tactic| first
  | ((with_reducible show Tr.WE _ (.Call (.Attribute _ "append" _) _ _ _) _ _ _); walk_at "app")
  | ((with_reducible show Tr.WE _ (.Call (.Attribute _ "join" _) _ [] _) _ _ _); refine we_join ?_)
  | ((with_reducible show Tr.WE _ (.Call (.Attribute _ "split" _) _ [] _) _ _ _); refine we_split ?_)
  | ((with_reducible show Tr.WE _ (.Call (.Attribute _ "partition" _) _ [] _) _ _ _); refine we_partition ?_)
  | ((with_reducible show Tr.WE _ (.Call (.Attribute _ "startswith" _) _ [] _) _ _ _); refine we_startswith ?_))
local macro_rules | `(tactic| walk_at "N") => `(tactic| ((with_reducible show Tr.WE _ (.Name "SMALL" _) _ _ _); refine we_glob (d := .str small) (pe_glob (v := .str small) rfl hSm ⟨_, rfl⟩) (fun _ => rfl) ?_))
local macro_rules | `(tactic| walk_at "N") => `(tactic| ((with_reducible show Tr.WE _ (.Name "BARRED" _) _ _ _); refine we_glob (d := .tup (barred.map D.str)) (pe_glob (v := .ref T.a_B) rfl T.g_BARRED rfl) T.r_B ?_))
local macro_rules | `(tactic| walk_at "call") => `(tactic| ((with_reducible show Tr.WE _ (.Call (.Name "_law_any" _) (_ :: _) [] _) _ _ _); refine we_call (dds := []) (ok__law_any T 3) (hr.mono (by omega)) rfl T.g__law_any T.F__law_any.kp T.b__law_any .nil (fun _ => Reps.nil) ?_))
local macro_rules | `(tactic| walk_at "N") => `(tactic| first
  | ((with_reducible show Tr.WE _ (.Name "Weaving" _) _ _ _); refine we_glob (d := .raw (.ref T.c_Weaving)) (pe_glob (v := .ref T.c_Weaving) rfl T.g_Weaving rfl) (fun _ => rfl) ?_)
  | ((with_reducible show Tr.WE _ (.Name "HastyError" _) _ _ _); refine we_glob (d := .raw (.ref T.c_HastyError)) (pe_glob (v := .ref T.c_HastyError) rfl T.g_HastyError rfl) (fun _ => rfl) ?_)
  | ((with_reducible show Tr.WE _ (.Name "InvalidEvent" _) _ _ _); refine we_glob (d := .raw (.ref T.c_InvalidEvent)) (pe_glob (v := .ref T.c_InvalidEvent) rfl T.g_InvalidEvent rfl) (fun _ => rfl) ?_))
local macro_rules | `(tactic| walk_at "call") => `(tactic| first
  | ((with_reducible show Tr.WE _ (.Call (.Name "isinstance" _) (.Name "e" _ :: .Name "HastyError" _ :: []) [] _) _ _ _); refine we_isX (u := .ref T.c_HastyError) T.xc_InvalidEvent hz hfl hA T.isx_InvalidEvent_HastyError rfl T.z_isinstance ?_; walk_at "w"; refine ⟨_, rfl, .own _, ?_⟩))
local macro_rules | `(tactic| walk_at "attr") => `(tactic| first
  | ((with_reducible show Tr.WE _ (.Attribute _ "events" _) _ _ _); refine we_fld rfl ?_; walk_at "w"; refine ⟨_, _, _, _, .inl rfl, T.i_Weaving.c, T.na_Weaving_events, rfl, ?_⟩)
  | ((with_reducible show Tr.WE _ (.Attribute (.Name "e" _) "at" _) _ _ _); refine we_xf T.xf_InvalidEvent T.na_InvalidEvent_at hz hfl hA ?_; walk_at "w"; refine ⟨rfl, _, rfl, ?_⟩))
local macro_rules | `(tactic| walk_at "sfld") => `(tactic| first
  | ((with_reducible show WS _ (.Assign [.Attribute _ "events" _] _ _) _ _ _); first | (refine ws_fld 0 ?_; walk_at "w"; refine ⟨_, _, _, _, rfl, rfl, T.i_Weaving.c, T.na_Weaving_events, by decide, ?_⟩) | (refine ws_fld 1 ?_; walk_at "w"; refine ⟨_, _, _, _, rfl, rfl, T.i_Weaving.c, T.na_Weaving_events, by decide, ?_⟩) | (refine ws_fld 2 ?_; walk_at "w"; refine ⟨_, _, _, _, rfl, rfl, T.i_Weaving.c, T.na_Weaving_events, by decide, ?_⟩) | (refine ws_fld 3 ?_; walk_at "w"; refine ⟨_, _, _, _, rfl, rfl, T.i_Weaving.c, T.na_Weaving_events, by decide, ?_⟩) | refine ws_fld 0 ?_))

section
variable {P : Program} {w : World} {K : W.Frag} {mg : Str → Option Value} {base : Heap}
def small : Str := "abcdefghijklmnopqrstuvwxyz"
/-- any value whose type is known as far as str goes -/
def isStr : D → Bool
  | .str _ => true
  | _ => false
def strOf : D → Str
  | .str s => s
  | _ => Str.empty
structure AnyD (K : W.Frag) (C : Cells) (d : D) : Prop where
  ty : ∃ t, TyD K C d t ∧ W.kitOne K t (.type "str") = some (isStr d)
  ln : (strOf d).length ≤ 100000
def isNameS (s : Str) : Bool := decide (1 ≤ s.length ∧ s.length ≤ 4) && !decide (s ∈ barred) && s.cps.toList.all (fun c => decide (c ∈ small.cps.toList))
def isNameD (d : D) : Bool := isStr d && isNameS (strOf d)
def decS : Str := "0123456789"
def isDecS (s : Str) : Bool := decide (s.length ≠ 0) && s.cps.toList.all (fun c => decide (c ∈ decS.cps.toList)) && (decide (s = "0") || decide (s.cps.toList.head? ≠ some 48))
theorem str_nil {s : Str} (h : s.length = 0) : s = "" := by
  obtain ⟨a⟩ := s
  have : a = #[] := Array.eq_empty_of_size_eq_zero h
  subst this
  rfl
theorem atI_head {α : Type} {l : List α} {c : α} (h : l.head? = some c) : atI l 0 = some c := by
  cases l with
  | nil => cases h
  | cons a l =>
    cases h
    unfold atI ixN
    simp
def kSp : Str := " "
def wordOf (s : Str) : Str := (Txt.partition s kSp).1
def restOf (s : Str) : Str := (Txt.partition s kSp).2.2
def evS (s : Str) : D :=
  if s ∈ (["serve", "refuse"] : List Str) then .tup [.str s, .str ""]
  else if wordOf s ∈ (["click", "other"] : List Str) then (if isNameS (restOf s) = true then .tup [.str (wordOf s), .str (restOf s)] else .non)
  else if wordOf s ∈ (["answer", "list"] : List Str) ∧ isDecS (restOf s) = true ∧ (restOf s).length ≤ 4 ∧ s ≠ "answer 0" then .tup [.str (wordOf s), .int ((intText? (restOf s)).getD 0)]
  else .non
def evD (d : D) : D := if isStr d = true then evS (strOf d) else .non
theorem part_len (s : Str) : (wordOf s).length ≤ s.length ∧ (restOf s).length ≤ s.length := ⟨(PyProof.Rows.fact_partition s kSp).1, (PyProof.Rows.fact_partition s kSp).2.2⟩
theorem dec_int {r : Str} (h : isDecS r = true) (hl : r.length ≤ 4) : intText? r = some ((intText? r).getD 0) := by
  unfold isDecS at h
  rw [Bool.and_eq_true, Bool.and_eq_true, List.all_eq_true] at h
  have hd : NumText.AllDigits r.cps.toList := by
    intro c hc
    have := of_decide_eq_true (h.1.2 c hc)
    have e : decS.cps.toList = [48, 49, 50, 51, 52, 53, 54, 55, 56, 57] := by rfl
    rw [e] at this
    simp at this
    omega
  have hne : r.cps.toList ≠ [] := by
    intro z
    apply of_decide_eq_true h.1.1
    show r.cps.size = 0
    rw [← Array.length_toList, z]; rfl
  rw [PySem.intText_digits hd hne (by omega)]
  rfl
theorem any_str {K : W.Frag} {C : Cells} {s : Str} (h : s.length ≤ 100000) : AnyD K C (.str s) := ⟨⟨_, .str s, kit_ty (show kitB "str" "str" = some true by decide +kernel)⟩, h⟩
theorem evD_raw (d : D) (w : V) : evD d ≠ .raw w := by
  unfold evD evS
  split
  · split
    · simp
    · split
      · split <;> simp
      · split <;> simp
  · simp
structure EvOk (K : W.Frag) (C : Cells) (d : D) : Prop where
  any : AnyD K C d
  ok : isNon (evD d) = false
theorem EvOk.cells {K : W.Frag} {C C' : Cells} {s : Str} (h : EvOk K C (.str s)) : EvOk K C' (.str s) := ⟨any_str h.any.ln, h.ok⟩

section
local macro_rules | `(tactic| walk_at "N") => `(tactic| first
  | ((with_reducible show Tr.WE _ (.Name "value" _) _ _ _); refine we_var 0 rfl ?_ (pv 0)))
local macro_rules | `(tactic| walk_at "set") => `(tactic| first
  | ((with_reducible show WS _ (.Assign [.Name "value" _] _ _) _ _ _); first | refine ws_set 0 hN rfl (Or.inl rfl) ?_ rfl | refine ws_set 0 hN rfl (Or.inr rfl) ?_ rfl))
local macro_rules | `(tactic| walk_at "setC") => `(tactic| first
  | ((with_reducible show WS _ (.Assign [.Name "value" _] (.List _ _) _) _ _ _); first | refine ws_set 0 hN rfl (Or.inl rfl) (we_lstC ?_) rfl | refine ws_set 0 hN rfl (Or.inr rfl) (we_lstC ?_) rfl))
local macro_rules | `(tactic| walk_at "tgt") => `(tactic| first
  | ((with_reducible show WG _ (.Name "value" _) _ _ _ _); first | refine wg_name 0 ?_ (pg_name (i := 0) hN rfl (Or.inl rfl)) | refine wg_name 0 ?_ (pg_name (i := 0) hN rfl (Or.inr rfl))))
-- def: is_sequence
theorem seq_ty {C : Cells} {d : D} {xs : List D} (h : SeqD C d xs) : ∃ t, TyD K C d t ∧ W.kitAny K t [.type "list", .type "tuple"] = some true := by
  have kl : W.kitOne K (.type "list") (.type "list") = some true := kit_ty (by decide +kernel)
  have kt : W.kitOne K (.type "tuple") (.type "tuple") = some true := kit_ty (by decide +kernel)
  have klt : W.kitOne K (.type "tuple") (.type "list") = some false := kit_ty (by decide +kernel)
  rcases h with (rfl | ⟨a, rfl, hm⟩) | rfl
  · exact ⟨_, .lst _, kitAny_cons (b := true) kl (fun h => by cases h) (fun _ => rfl)⟩
  · exact ⟨_, .cl hm, kitAny_cons (b := true) kl (fun h => by cases h) (fun _ => rfl)⟩
  · exact ⟨_, .tup _, kitAny_cons (b := false) klt (fun _ => kitAny_cons (b := true) kt (fun h => by cases h) (fun _ => rfl)) (fun h => by cases h)⟩
/-- whether a value is a list or a tuple -/
def SqA (K : W.Frag) (C : Cells) (d : D) (b : Bool) : Prop := ∃ t, TyD K C d t ∧ W.kitAny K t [.type "list", .type "tuple"] = some b
theorem sq_seq {C : Cells} {d : D} {xs : List D} (h : SeqD C d xs) : SqA K C d true := seq_ty h
theorem sq_ty {C : Cells} {d : D} {t : String} {b : Bool} (h : TyD K C d (.type t)) (e : (kitB t "list" = some true ∧ b = true) ∨ (kitB t "list" = some false ∧ kitB t "tuple" = some b)) : SqA K C d b := by
  refine ⟨_, h, ?_⟩
  rcases e with ⟨e, rfl⟩ | ⟨e1, e2⟩
  · exact kitAny_cons (b := true) (kit_ty e) (fun h => by cases h) (fun _ => rfl)
  · cases b with
    | true => exact kitAny_cons (b := false) (kit_ty e1) (fun _ => kitAny_cons (b := true) (kit_ty e2) (fun h => by cases h) (fun _ => rfl)) (fun h => by cases h)
    | false => exact kitAny_cons (b := false) (kit_ty e1) (fun _ => kitAny_cons (b := false) (kit_ty e2) (fun _ => rfl) (fun h => by cases h)) (fun h => by cases h)
def fs_is_sequence (K : W.Frag) : FS := fun ds C Q _ => ∃ d b, ds = [d] ∧ SqA K C d b ∧ Q (.bl b) C
theorem ok_is_sequence (T : Tp P K mg) : FnG P w K mg base 1 T.f_is_sequence T.d_is_sequence ["value"] (fs_is_sequence K) := by
  refine fnT T.F_is_sequence sc_is_sequence (fun ds C Q Qx h => ?_) (fun cdv A outer s H E X ds C Q hr h => ?_)
  · obtain ⟨d, b, rfl, _⟩ := h; rfl
  · obtain ⟨d, b, rfl, ⟨t, ht, hk⟩, q⟩ := h
    walk_at "s"
    walk_at "w"
    exact cw_isiT (.cons (.ty _) (.cons (.ty _) .nil)) ht hk q

end
local macro_rules | `(tactic| walk_at "call") => `(tactic| ((with_reducible show Tr.WE _ (.Call (.Name "is_sequence" _) (_ :: _) [] _) _ _ _); refine we_call (dds := []) (ok_is_sequence T) (hr.mono (by omega)) rfl T.g_is_sequence T.F_is_sequence.kp T.b_is_sequence .nil (fun _ => Reps.nil) ?_))
section
local macro_rules | `(tactic| walk_at "N") => `(tactic| first
  | ((with_reducible show Tr.WE _ (.Name "value" _) _ _ _); refine we_var 0 rfl ?_ (pv 0))
  | ((with_reducible show Tr.WE _ (.Name "letter" _) _ _ _); refine we_var 1 rfl ?_ (pv 1)))
local macro_rules | `(tactic| walk_at "set") => `(tactic| first
  | ((with_reducible show WS _ (.Assign [.Name "value" _] _ _) _ _ _); first | refine ws_set 0 hN rfl (Or.inl rfl) ?_ rfl | refine ws_set 0 hN rfl (Or.inr rfl) ?_ rfl)
  | ((with_reducible show WS _ (.Assign [.Name "letter" _] _ _) _ _ _); first | refine ws_set 1 hN rfl (Or.inl rfl) ?_ rfl | refine ws_set 1 hN rfl (Or.inr rfl) ?_ rfl))
local macro_rules | `(tactic| walk_at "setC") => `(tactic| first
  | ((with_reducible show WS _ (.Assign [.Name "value" _] (.List _ _) _) _ _ _); first | refine ws_set 0 hN rfl (Or.inl rfl) (we_lstC ?_) rfl | refine ws_set 0 hN rfl (Or.inr rfl) (we_lstC ?_) rfl)
  | ((with_reducible show WS _ (.Assign [.Name "letter" _] (.List _ _) _) _ _ _); first | refine ws_set 1 hN rfl (Or.inl rfl) (we_lstC ?_) rfl | refine ws_set 1 hN rfl (Or.inr rfl) (we_lstC ?_) rfl))
local macro_rules | `(tactic| walk_at "tgt") => `(tactic| first
  | ((with_reducible show WG _ (.Name "value" _) _ _ _ _); first | refine wg_name 0 ?_ (pg_name (i := 0) hN rfl (Or.inl rfl)) | refine wg_name 0 ?_ (pg_name (i := 0) hN rfl (Or.inr rfl)))
  | ((with_reducible show WG _ (.Name "letter" _) _ _ _ _); first | refine wg_name 1 ?_ (pg_name (i := 1) hN rfl (Or.inl rfl)) | refine wg_name 1 ?_ (pg_name (i := 1) hN rfl (Or.inr rfl))))
local macro_rules | `(tactic| walk_at "lc") => `(tactic| first
  | ((with_reducible show Tr.WE _ (.ListComp _ [⟨.Name "letter" _, _, [], _⟩] _ _) _ _ _); refine we_lc [("letter", 1)] (.one 1) rfl hN (blkOk_by rfl) (fun _ _ _ _ _ => pg_name (i := 1) hN rfl (Or.inl rfl)) (by decide) ?_))
-- def: is_name
def fs_is_name (K : W.Frag) : FS := fun ds C Q _ => ∃ d, ds = [d] ∧ AnyD K C d ∧ Q (.bl (isNameD d)) C
theorem ok_is_name (T : Tp P K mg) : FnG P w K mg base 1 T.f_is_name T.d_is_name ["value"] (fs_is_name K) := by
  refine fnT T.F_is_name sc_is_name (fun ds C Q Qx h => ?_) (fun cdv A outer s H E X ds C Q hr h => ?_)
  · obtain ⟨d, rfl, _⟩ := h; rfl
  · obtain ⟨d, rfl, ha, q⟩ := h
    have hN := sc_is_name.nd
    obtain ⟨tS, hSm⟩ := T.g_SMALL
    obtain ⟨⟨t, ht, hk⟩, hl⟩ := ha
    walk_at "w"
    refine cw_isi (.ty _) ht hk ?_
    walk_at "w"
    by_cases hd : isStr d = true
    · obtain ⟨s, rfl⟩ : ∃ s, d = .str s := by cases d <;> first | exact ⟨_, rfl⟩ | cases hd
      refine iteF ?_
      have hl' : s.length ≤ 100000 := hl
      have q' : Q (.bl (isNameS s)) C := q
      unfold isNameS at q'
      walk_at "w"
      refine ite2 (fun h1 => ?_) (fun h1 => ?_)
      · walk_at "w"
        refine ite2 (fun h2 => ?_) (fun h2 => ?_)
        · walk_at "w"
          have e : decide (1 ≤ s.length ∧ s.length ≤ 4) = false := by simp at h1 h2 ⊢; omega
          rw [e] at q'
          exact q'
        · have e : decide (1 ≤ s.length ∧ s.length ≤ 4) = true := by simp at h1 h2 ⊢; omega
          rw [e] at q'
          walk_at "w"
          refine ite2 (fun h3 => ?_) (fun h3 => ?_)
          · walk_at "w"
            rw [h3] at q'
            exact q'
          · have e : decide (s ∈ barred) = false := by simpa using h3
            rw [e] at q'
            walk_at "w"
            refine wi_str ?_
            walk_at "w"
            refine lcw_map (fun d => .bl (match d with | .str z => decide (z.cps.toList.head! ∈ small.cps.toList) | _ => false)) trivial ?_ ?_ ?_
            · intro d hd
              unfold signsD at hd
              obtain ⟨n, hn, rfl⟩ := List.mem_map.mp hd
              refine ⟨_, rfl, fun s1 H1 Ca cl fp => ?_⟩
              walk_at "w"
              exact ow_inSign ⟨rfl, rfl⟩
            · unfold signsD; rw [List.length_map, Array.length_toList]; exact hl'
            · walk_at "w"
              have em : ∀ l : List Nat, List.map (fun d : D => D.bl (match d with | .str z => decide (z.cps.toList.head! ∈ small.cps.toList) | _ => false)) (l.map fun c => D.str ⟨#[c]⟩) = (l.map fun c => decide (c ∈ small.cps.toList)).map D.bl := by
                intro l; induction l with
                | nil => rfl
                | cons a l ih => rw [List.map_cons, List.map_cons, ih]; rfl
              rw [show signsD s = s.cps.toList.map fun c => D.str ⟨#[c]⟩ from rfl, em]
              refine cw_all rfl ?_
              rw [List.all_map]
              exact q'
      · walk_at "w"
        have e : decide (1 ≤ s.length ∧ s.length ≤ 4) = false := by simp at h1 ⊢; omega
        rw [e] at q'
        exact q'
    · have e : isStr d = false := by simpa using hd
      rw [e]
      walk_at "w"
      unfold isNameD at q
      rw [e] at q
      exact q


end
local macro_rules | `(tactic| walk_at "call") => `(tactic| ((with_reducible show Tr.WE _ (.Call (.Name "is_name" _) (_ :: _) [] _) _ _ _); refine we_call (dds := []) (ok_is_name T) (hr.mono (by omega)) rfl T.g_is_name T.F_is_name.kp T.b_is_name .nil (fun _ => Reps.nil) ?_))
section
local macro_rules | `(tactic| walk_at "N") => `(tactic| first
  | ((with_reducible show Tr.WE _ (.Name "text" _) _ _ _); refine we_var 0 rfl ?_ (pv 0))
  | ((with_reducible show Tr.WE _ (.Name "sign" _) _ _ _); refine we_var 1 rfl ?_ (pv 1)))
local macro_rules | `(tactic| walk_at "set") => `(tactic| first
  | ((with_reducible show WS _ (.Assign [.Name "text" _] _ _) _ _ _); first | refine ws_set 0 hN rfl (Or.inl rfl) ?_ rfl | refine ws_set 0 hN rfl (Or.inr rfl) ?_ rfl)
  | ((with_reducible show WS _ (.Assign [.Name "sign" _] _ _) _ _ _); first | refine ws_set 1 hN rfl (Or.inl rfl) ?_ rfl | refine ws_set 1 hN rfl (Or.inr rfl) ?_ rfl))
local macro_rules | `(tactic| walk_at "setC") => `(tactic| first
  | ((with_reducible show WS _ (.Assign [.Name "text" _] (.List _ _) _) _ _ _); first | refine ws_set 0 hN rfl (Or.inl rfl) (we_lstC ?_) rfl | refine ws_set 0 hN rfl (Or.inr rfl) (we_lstC ?_) rfl)
  | ((with_reducible show WS _ (.Assign [.Name "sign" _] (.List _ _) _) _ _ _); first | refine ws_set 1 hN rfl (Or.inl rfl) (we_lstC ?_) rfl | refine ws_set 1 hN rfl (Or.inr rfl) (we_lstC ?_) rfl))
local macro_rules | `(tactic| walk_at "tgt") => `(tactic| first
  | ((with_reducible show WG _ (.Name "text" _) _ _ _ _); first | refine wg_name 0 ?_ (pg_name (i := 0) hN rfl (Or.inl rfl)) | refine wg_name 0 ?_ (pg_name (i := 0) hN rfl (Or.inr rfl)))
  | ((with_reducible show WG _ (.Name "sign" _) _ _ _ _); first | refine wg_name 1 ?_ (pg_name (i := 1) hN rfl (Or.inl rfl)) | refine wg_name 1 ?_ (pg_name (i := 1) hN rfl (Or.inr rfl))))
local macro_rules | `(tactic| walk_at "lc") => `(tactic| first
  | ((with_reducible show Tr.WE _ (.ListComp _ [⟨.Name "sign" _, _, [], _⟩] _ _) _ _ _); refine we_lc [("sign", 1)] (.one 1) rfl hN (blkOk_by rfl) (fun _ _ _ _ _ => pg_name (i := 1) hN rfl (Or.inl rfl)) (by decide) ?_))
-- def: is_decimal
def fs_is_decimal : FS := fun ds C Q _ => ∃ s : Str, ds = [.str s] ∧ s.length ≤ 100000 ∧ Q (.bl (isDecS s)) C
theorem ok_is_decimal (T : Tp P K mg) : FnG P w K mg base 1 T.f_is_decimal T.d_is_decimal ["text"] fs_is_decimal := by
  refine fnT T.F_is_decimal sc_is_decimal (fun ds C Q Qx h => ?_) (fun cdv A outer s H E X ds C Q hr h => ?_)
  · obtain ⟨d, rfl, _⟩ := h; rfl
  · obtain ⟨s, rfl, hl, q⟩ := h
    have hN := sc_is_decimal.nd
    unfold isDecS at q
    walk_at "w"
    refine ite2 (fun h1 => ?_) (fun h1 => ?_)
    · walk_at "w"
      have e : s = "" := by simpa using h1
      subst e
      exact q
    · walk_at "w"
      have e : decide (s.length ≠ 0) = true := by
        rw [decide_eq_true_eq]
        intro z
        apply h1
        rw [decide_eq_true_eq]
        exact str_nil z
      rw [e] at q
      refine wi_str ?_
      walk_at "w"
      refine lcw_mapG s.cps.toList _ (fun c => .bl (decide (c ∈ decS.cps.toList))) trivial ?_ (by rw [Array.length_toList]; exact hl) ?_
      · intro n hn
        refine ⟨_, rfl, fun s1 H1 Ca cl fp => ?_⟩
        walk_at "w"
        exact ow_inSign ⟨rfl, rfl⟩
      · walk_at "w"
        rw [show s.cps.toList.map (fun c => D.bl (decide (c ∈ decS.cps.toList))) = (s.cps.toList.map fun c => decide (c ∈ decS.cps.toList)).map D.bl by rw [List.map_map]; rfl]
        refine cw_all rfl ?_
        rw [List.all_map]
        walk_at "w"
        refine ite2 (fun h2 => ?_) (fun h2 => ?_)
        · walk_at "w"
          have e2 : (s.cps.toList.all fun c => decide (c ∈ decS.cps.toList)) = false := by
            have z : (!(s.cps.toList.all fun c => decide (c ∈ decS.cps.toList))) = true := h2
            simpa using z
          rw [e2] at q
          exact q
        · have e2 : (s.cps.toList.all fun c => decide (c ∈ decS.cps.toList)) = true := by
            have z : ¬ (!(s.cps.toList.all fun c => decide (c ∈ decS.cps.toList))) = true := h2
            simpa using z
          rw [e2] at q
          walk_at "w"
          refine ite2 (fun h3 => ?_) (fun h3 => ?_)
          · rw [h3] at q
            exact q
          · have e3 : decide (s = ("0" : Str)) = false := by simpa using h3
            rw [e3] at q
            obtain ⟨c, hc⟩ : ∃ c, s.cps.toList.head? = some c := by
              cases hh : s.cps.toList.head? with
              | some c => exact ⟨c, rfl⟩
              | none =>
                exfalso
                rw [List.head?_eq_none_iff] at hh
                apply of_decide_eq_true e
                show s.cps.size = 0
                rw [← Array.length_toList, hh]; rfl
            walk_at "w"
            refine iw_str (c := c) hl ?_ ?_
            · exact atI_head hc
            · walk_at "w"
              rw [hc] at q
              have e4 : (!decide ((⟨#[c]⟩ : Str) = "0")) = decide (some c ≠ some 48) := by
                rw [show ("0" : Str) = ⟨#[48]⟩ from rfl]
                by_cases h : c = 48 <;> simp [h]
              rw [e4]
              exact q

end
local macro_rules | `(tactic| walk_at "call") => `(tactic| ((with_reducible show Tr.WE _ (.Call (.Name "is_decimal" _) (_ :: _) [] _) _ _ _); refine we_call (dds := []) (ok_is_decimal T) (hr.mono (by omega)) rfl T.g_is_decimal T.F_is_decimal.kp T.b_is_decimal .nil (fun _ => Reps.nil) ?_))
section
local macro_rules | `(tactic| walk_at "N") => `(tactic| first
  | ((with_reducible show Tr.WE _ (.Name "text" _) _ _ _); refine we_var 0 rfl ?_ (pv 0))
  | ((with_reducible show Tr.WE _ (.Name "word" _) _ _ _); refine we_var 1 rfl ?_ (pv 1))
  | ((with_reducible show Tr.WE _ (.Name "blank" _) _ _ _); refine we_var 2 rfl ?_ (pv 2))
  | ((with_reducible show Tr.WE _ (.Name "rest" _) _ _ _); refine we_var 3 rfl ?_ (pv 3)))
local macro_rules | `(tactic| walk_at "set") => `(tactic| first
  | ((with_reducible show WS _ (.Assign [.Name "text" _] _ _) _ _ _); first | refine ws_set 0 hN rfl (Or.inl rfl) ?_ rfl | refine ws_set 0 hN rfl (Or.inr rfl) ?_ rfl)
  | ((with_reducible show WS _ (.Assign [.Name "word" _] _ _) _ _ _); first | refine ws_set 1 hN rfl (Or.inl rfl) ?_ rfl | refine ws_set 1 hN rfl (Or.inr rfl) ?_ rfl)
  | ((with_reducible show WS _ (.Assign [.Name "blank" _] _ _) _ _ _); first | refine ws_set 2 hN rfl (Or.inl rfl) ?_ rfl | refine ws_set 2 hN rfl (Or.inr rfl) ?_ rfl)
  | ((with_reducible show WS _ (.Assign [.Name "rest" _] _ _) _ _ _); first | refine ws_set 3 hN rfl (Or.inl rfl) ?_ rfl | refine ws_set 3 hN rfl (Or.inr rfl) ?_ rfl))
local macro_rules | `(tactic| walk_at "setC") => `(tactic| first
  | ((with_reducible show WS _ (.Assign [.Name "text" _] (.List _ _) _) _ _ _); first | refine ws_set 0 hN rfl (Or.inl rfl) (we_lstC ?_) rfl | refine ws_set 0 hN rfl (Or.inr rfl) (we_lstC ?_) rfl)
  | ((with_reducible show WS _ (.Assign [.Name "word" _] (.List _ _) _) _ _ _); first | refine ws_set 1 hN rfl (Or.inl rfl) (we_lstC ?_) rfl | refine ws_set 1 hN rfl (Or.inr rfl) (we_lstC ?_) rfl)
  | ((with_reducible show WS _ (.Assign [.Name "blank" _] (.List _ _) _) _ _ _); first | refine ws_set 2 hN rfl (Or.inl rfl) (we_lstC ?_) rfl | refine ws_set 2 hN rfl (Or.inr rfl) (we_lstC ?_) rfl)
  | ((with_reducible show WS _ (.Assign [.Name "rest" _] (.List _ _) _) _ _ _); first | refine ws_set 3 hN rfl (Or.inl rfl) (we_lstC ?_) rfl | refine ws_set 3 hN rfl (Or.inr rfl) (we_lstC ?_) rfl))
local macro_rules | `(tactic| walk_at "tgt") => `(tactic| first
  | ((with_reducible show WG _ (.Name "text" _) _ _ _ _); first | refine wg_name 0 ?_ (pg_name (i := 0) hN rfl (Or.inl rfl)) | refine wg_name 0 ?_ (pg_name (i := 0) hN rfl (Or.inr rfl)))
  | ((with_reducible show WG _ (.Name "word" _) _ _ _ _); first | refine wg_name 1 ?_ (pg_name (i := 1) hN rfl (Or.inl rfl)) | refine wg_name 1 ?_ (pg_name (i := 1) hN rfl (Or.inr rfl)))
  | ((with_reducible show WG _ (.Name "blank" _) _ _ _ _); first | refine wg_name 2 ?_ (pg_name (i := 2) hN rfl (Or.inl rfl)) | refine wg_name 2 ?_ (pg_name (i := 2) hN rfl (Or.inr rfl)))
  | ((with_reducible show WG _ (.Name "rest" _) _ _ _ _); first | refine wg_name 3 ?_ (pg_name (i := 3) hN rfl (Or.inl rfl)) | refine wg_name 3 ?_ (pg_name (i := 3) hN rfl (Or.inr rfl))))
-- def: event_in
def fs_event_in (K : W.Frag) : FS := fun ds C Q _ => ∃ d, ds = [d] ∧ AnyD K C d ∧ Q (evD d) C
theorem ok_event_in (T : Tp P K mg) : FnG P w K mg base 2 T.f_event_in T.d_event_in ["text"] (fs_event_in K) := by
  refine fnT T.F_event_in sc_event_in (fun ds C Q Qx h => ?_) (fun cdv A outer s H E X ds C Q hr h => ?_)
  · obtain ⟨d, rfl, _⟩ := h; rfl
  · obtain ⟨d, rfl, ha, q⟩ := h
    have hN := sc_event_in.nd
    obtain ⟨⟨t, ht, hk⟩, hl⟩ := ha
    walk_at "w"
    refine cw_isi (.ty _) ht hk ?_
    walk_at "w"
    by_cases hd : isStr d = true
    · obtain ⟨s, rfl⟩ : ∃ s, d = .str s := by cases d <;> first | exact ⟨_, rfl⟩ | cases hd
      refine iteF ?_
      have hl' : s.length ≤ 100000 := hl
      have q' : Q (evS s) C := q
      have lw := (part_len s).1
      have lr := (part_len s).2
      unfold evS at q'
      walk_at "w"
      refine ⟨rfl, hl', ?_⟩
      walk_at "w"
      refine ow_inT (xs := ["serve", "refuse"]) rfl ?_
      walk_at "w"
      refine ite2 (fun h1 => ?_) (fun h1 => ?_)
      · walk_at "w"
        rw [if_pos (of_decide_eq_true h1)] at q'
        exact q'
      · rw [if_neg (fun z => h1 (decide_eq_true z))] at q'
        walk_at "w"
        refine ow_inT (xs := ["click", "other"]) rfl ?_
        walk_at "w"
        refine ite2 (fun h2 => ?_) (fun h2 => ?_)
        · rw [if_pos (show wordOf s ∈ _ from of_decide_eq_true h2)] at q'
          walk_at "w"
          refine asks_none ⟨_, rfl, any_str (Nat.le_trans lr hl'), ?_⟩
          walk_at "w"
          refine ite2 (fun h3 => ?_) (fun h3 => ?_)
          · rw [if_pos (show isNameS (restOf s) = true from h3)] at q'
            walk_at "w"
            exact q'
          · rw [if_neg (show ¬ isNameS (restOf s) = true from h3)] at q'
            walk_at "w"
            exact q'
        · have h2' : ¬ wordOf s ∈ (["click", "other"] : List Str) := fun z => h2 (decide_eq_true z)
          rw [if_neg h2'] at q'
          walk_at "w"
          refine ow_notInT (xs := ["answer", "list"]) rfl ?_
          have neg : ¬ (wordOf s ∈ (["answer", "list"] : List Str) ∧ isDecS (restOf s) = true ∧ (restOf s).length ≤ 4 ∧ s ≠ "answer 0") → Q .non C := fun z => by rw [if_neg z] at q'; exact q'
          walk_at "w"
          refine ite2 (fun h3 => ?_) (fun h3 => ?_)
          · walk_at "w"
            refine neg fun z => ?_
            have h3' : (!decide (wordOf s ∈ (["answer", "list"] : List Str))) = true := h3
            rw [decide_eq_true z.1] at h3'
            cases h3'
          · have h3' : wordOf s ∈ (["answer", "list"] : List Str) := nd h3
            walk_at "w"
            refine asks_none ⟨_, rfl, Nat.le_trans lr hl', ?_⟩
            walk_at "w"
            refine ite2 (fun h4 => ?_) (fun h4 => ?_)
            · walk_at "w"
              refine neg fun z => ?_
              have h4' : (!isDecS (restOf s)) = true := h4
              rw [z.2.1] at h4'
              cases h4'
            · have h4' : isDecS (restOf s) = true := by
                have z : ¬ (!isDecS (restOf s)) = true := h4
                simpa using z
              have lr' : (Txt.partition s (" " : Str)).2.2.length ≤ 100000 := Nat.le_trans lr hl'
              walk_at "w"
              refine ite2 (fun h5 => ?_) (fun h5 => ?_)
              · walk_at "w"
                refine neg fun z => ?_
                have h5' : (4 : Int) < ((restOf s).length : Int) := of_decide_eq_true h5
                have := z.2.2.1
                omega
              · have h5' : (restOf s).length ≤ 4 := by
                  have z : ¬ ((4 : Int) < ((restOf s).length : Int)) := fun z => h5 (decide_eq_true z)
                  omega
                walk_at "w"
                refine ite2 (fun h6 => ?_) (fun h6 => ?_)
                · walk_at "w"
                  exact neg fun z => z.2.2.2 (of_decide_eq_true h6)
                · rw [if_pos ⟨h3', h4', h5', fun z => h6 (decide_eq_true z)⟩] at q'
                  walk_at "w"
                  refine cw_int_str (dec_int h4' h5') (Nat.le_trans h5' (by decide)) ?_
                  walk_at "w"
                  exact q'
    · have e : isStr d = false := by simpa using hd
      rw [e]
      walk_at "w"
      unfold evD at q
      rw [e] at q
      exact q

end
local macro_rules | `(tactic| walk_at "call") => `(tactic| ((with_reducible show Tr.WE _ (.Call (.Name "event_in" _) (_ :: _) [] _) _ _ _); refine we_call (dds := []) (ok_event_in T) (hr.mono (by omega)) rfl T.g_event_in T.F_event_in.kp T.b_event_in .nil (fun _ => Reps.nil) ?_))
section
local macro_rules | `(tactic| walk_at "N") => `(tactic| first
  | ((with_reducible show Tr.WE _ (.Name "self" _) _ _ _); refine we_var 0 rfl ?_ (pv 0))
  | ((with_reducible show Tr.WE _ (.Name "events" _) _ _ _); refine we_var 1 rfl ?_ (pv 1))
  | ((with_reducible show Tr.WE _ (.Name "at" _) _ _ _); refine we_var 2 rfl ?_ (pv 2))
  | ((with_reducible show Tr.WE _ (.Name "event" _) _ _ _); refine we_var 3 rfl ?_ (pv 3)))
local macro_rules | `(tactic| walk_at "set") => `(tactic| first
  | ((with_reducible show WS _ (.Assign [.Name "self" _] _ _) _ _ _); first | refine ws_set 0 hN rfl (Or.inl rfl) ?_ rfl | refine ws_set 0 hN rfl (Or.inr rfl) ?_ rfl)
  | ((with_reducible show WS _ (.Assign [.Name "events" _] _ _) _ _ _); first | refine ws_set 1 hN rfl (Or.inl rfl) ?_ rfl | refine ws_set 1 hN rfl (Or.inr rfl) ?_ rfl)
  | ((with_reducible show WS _ (.Assign [.Name "at" _] _ _) _ _ _); first | refine ws_set 2 hN rfl (Or.inl rfl) ?_ rfl | refine ws_set 2 hN rfl (Or.inr rfl) ?_ rfl)
  | ((with_reducible show WS _ (.Assign [.Name "event" _] _ _) _ _ _); first | refine ws_set 3 hN rfl (Or.inl rfl) ?_ rfl | refine ws_set 3 hN rfl (Or.inr rfl) ?_ rfl))
local macro_rules | `(tactic| walk_at "setC") => `(tactic| first
  | ((with_reducible show WS _ (.Assign [.Name "self" _] (.List _ _) _) _ _ _); first | refine ws_set 0 hN rfl (Or.inl rfl) (we_lstC ?_) rfl | refine ws_set 0 hN rfl (Or.inr rfl) (we_lstC ?_) rfl)
  | ((with_reducible show WS _ (.Assign [.Name "events" _] (.List _ _) _) _ _ _); first | refine ws_set 1 hN rfl (Or.inl rfl) (we_lstC ?_) rfl | refine ws_set 1 hN rfl (Or.inr rfl) (we_lstC ?_) rfl)
  | ((with_reducible show WS _ (.Assign [.Name "at" _] (.List _ _) _) _ _ _); first | refine ws_set 2 hN rfl (Or.inl rfl) (we_lstC ?_) rfl | refine ws_set 2 hN rfl (Or.inr rfl) (we_lstC ?_) rfl)
  | ((with_reducible show WS _ (.Assign [.Name "event" _] (.List _ _) _) _ _ _); first | refine ws_set 3 hN rfl (Or.inl rfl) (we_lstC ?_) rfl | refine ws_set 3 hN rfl (Or.inr rfl) (we_lstC ?_) rfl))
local macro_rules | `(tactic| walk_at "tgt") => `(tactic| first
  | ((with_reducible show WG _ (.Name "self" _) _ _ _ _); first | refine wg_name 0 ?_ (pg_name (i := 0) hN rfl (Or.inl rfl)) | refine wg_name 0 ?_ (pg_name (i := 0) hN rfl (Or.inr rfl)))
  | ((with_reducible show WG _ (.Name "events" _) _ _ _ _); first | refine wg_name 1 ?_ (pg_name (i := 1) hN rfl (Or.inl rfl)) | refine wg_name 1 ?_ (pg_name (i := 1) hN rfl (Or.inr rfl)))
  | ((with_reducible show WG _ (.Name "at" _) _ _ _ _); first | refine wg_name 2 ?_ (pg_name (i := 2) hN rfl (Or.inl rfl)) | refine wg_name 2 ?_ (pg_name (i := 2) hN rfl (Or.inr rfl)))
  | ((with_reducible show WG _ (.Name "event" _) _ _ _ _); first | refine wg_name 3 ?_ (pg_name (i := 3) hN rfl (Or.inl rfl)) | refine wg_name 3 ?_ (pg_name (i := 3) hN rfl (Or.inr rfl))))
-- def: Weaving_init
/-- the place of the first thing that is no event -/
def badAt (xs : List D) : Option Nat := xs.findIdx? fun x => isNon (evD x)
theorem badAt_none {xs : List D} (h : badAt xs = none) : ∀ (i : Nat) (x : D), xs[i]? = some x → isNon (evD x) = false := fun i x hx => by
  have := List.findIdx?_eq_none_iff.mp h x (List.mem_of_getElem? hx)
  simpa using this
def fs_W_init (K : W.Frag) (c e : Addr) : FS := fun ds C Q Qx => ∃ z d b C', ds = [.raw (.ref z), d] ∧ C = (z, .ins c [] []) :: C' ∧ SqA K C d b ∧
  (b = false → Qx (.ref e) (some (["at"], [.int 0])) C) ∧
  (b = true → ∃ xs, SeqD C d xs ∧ (∀ x ∈ xs, AnyD K C x) ∧ (badAt xs = none → Q .non ((z, .ins c ["events"] [.tup xs]) :: C')) ∧ ∀ i, badAt xs = some i → Qx (.ref e) (some (["at"], [.int i])) C)
theorem ok_W_init (T : Tp P K mg) : FnG P w K mg base 3 T.f_Weaving_init T.d_Weaving_init ["self", "events"] (fs_W_init K T.c_Weaving T.c_InvalidEvent) := by
  refine fnT T.F_Weaving_init sc_Weaving_init (fun ds C Q Qx h => ?_) (fun cdv A outer s H E X ds C Q hr h => ?_)
  · obtain ⟨z, d, b, C', rfl, _⟩ := h; rfl
  · obtain ⟨z, d, b, C', rfl, rfl, hs, hb0, hb1⟩ := h
    have hN := sc_Weaving_init.nd
    walk_at "w"
    refine asks_all ⟨d, b, rfl, hs, ?_⟩
    walk_at "w"
    cases b with
    | false =>
      walk_at "w"
      refine ws_raise (k := 0) T.x_InvalidEvent (hr.mono (by decide)) rfl T.g_InvalidEvent ?_
      walk_at "w"
      exact hb0 rfl _
    | true =>
      obtain ⟨xs, hs, ha, hg, hb⟩ := hb1 rfl
      clear hb0 hb1
      walk_at "w"
      refine ws_for rfl ?_
      refine wi_enumS rfl T.z_enumerate ?_
      walk_at "w"
      refine ⟨xs, hs, ?_⟩
      refine forW_inv (fun i ρ C1 => C1 = (z, .ins T.c_Weaving [] []) :: C' ∧ (∀ (j : Nat) (x : D), j < i → xs[j]? = some x → isNon (evD x) = false) ∧ ∃ a b, ρ = [some (.raw (.ref z)), some d, a, b]) (fun i ρ C1 ⟨h, _⟩ => by rw [h]; exact hs) ?_ ?_ ⟨rfl, (fun j x hj => absurd hj (Nat.not_lt_zero _)), _, _, rfl⟩
      · rintro i dd ρ C1 hi ⟨rfl, ho, a, b, rfl⟩
        obtain ⟨y, h1, rfl⟩ := enumD_get hi
        have hy := ha y (List.mem_of_getElem? h1)
        walk_at "w"
        refine asks_all ⟨y, rfl, hy, ?_⟩
        have hraw := evD_raw y
        walk_at "w"
        cases hv : isNon (evD y) with
        | false =>
          walk_at "w"
          refine ⟨rfl, (fun j x hj hx => ?_), _, _, rfl⟩
          rcases Nat.lt_succ_iff_lt_or_eq.mp hj with hj | rfl
          · exact ho j x hj hx
          · rw [h1] at hx; cases hx; exact hv
        | true =>
          walk_at "w"
          refine ws_raise (k := 0) T.x_InvalidEvent (hr.mono (by decide)) rfl T.g_InvalidEvent ?_
          walk_at "w"
          refine hb _ ?_ _
          unfold badAt
          rw [List.findIdx?_eq_some_iff_getElem]
          obtain ⟨hl, e⟩ := List.getElem?_eq_some_iff.mp h1
          refine ⟨by omega, ?_, fun j hj => ?_⟩
          · simpa [e] using hv
          · have := ho j _ (by omega) (List.getElem?_eq_getElem (by omega))
            simp [this]
      · rintro ρ C1 ⟨rfl, ho, a, b, rfl⟩
        have hn : badAt xs = none := by
          unfold badAt
          rw [List.findIdx?_eq_none_iff]
          intro x hx
          obtain ⟨j, hj, e⟩ := List.getElem_of_mem hx
          exact ho j x (by have := enumD_len (n := 0) (ds := xs); omega) (by rw [List.getElem?_eq_getElem hj, e])
        walk_at "w"
        exact hg hn

end
local macro_rules | `(tactic| walk_at "call") => `(tactic| ((with_reducible show Tr.WE _ (.Call (.Name "Weaving" _) (_ :: _) [] _) _ _ _); refine we_make (dds := []) T.mk_Weaving (ok_W_init T) (hr.mono (by omega)) rfl T.g_Weaving T.b_Weaving_init .nil (fun _ => Reps.nil) ?_))
/-- the deal: the queue of big numbers, the blend -/
def dealC (p q : Addr) (qs : List Int) (m : Int) : Cells := [(p, .lst [.raw (.ref q), .int m]), (q, .lst (qs.map D.int))]
def absI (i : Int) : Int := if i < 0 then -i else i
def fs_deal : FS := fun ds C Q _ => ∃ (ns : List Int) (b : Int), ds = [.lst (ns.map .int), .int b] ∧ ns.length ≤ 63 ∧ 0 ≤ b ∧ b ≤ 63 ∧ C = [] ∧ ∀ p q qs m, qs.length ≤ 63 → 0 ≤ m → m < 2147483647 → Q (.raw (.ref p)) (dealC p q qs m)
def fs_draw : FS := fun ds C Q _ => ∃ p q qs m n, ds = [.raw (.ref p), .int n] ∧ 0 < n ∧ n < 1073741824 ∧ qs.length ≤ 63 ∧ 0 ≤ m ∧ m < 2147483647 ∧ C = dealC p q qs m ∧ ∀ k qs' m', 0 ≤ k → k < n → qs'.length ≤ 63 → 0 ≤ m' → m' < 2147483647 → Q (.int k) (dealC p q qs' m')
structure DealOk (qs : List Int) (m : Int) : Prop where
  l : qs.length ≤ 63
  a : 0 ≤ m
  b : m < 2147483647
theorem asks_deal {X : Cx} {T : TX X} {ρ : Rho} {C : Cells} {Q : QE} {ns : List Int} {b : Int} (hl : ns.length ≤ 63) (hb : 0 ≤ b) (hb2 : b ≤ 63) (h : ∀ p q qs m, DealOk qs m → Q (.raw (.ref p)) (dealC p q qs m ++ C)) :
    Asks T fs_deal ρ ([.lst (ns.map .int), .int b] ++ []) C Q :=
  asks_none ⟨ns, b, rfl, hl, hb, hb2, rfl, fun p q qs m h1 h2 h3 => h p q qs m ⟨h1, h2, h3⟩⟩
theorem asks_draw {X : Cx} {T : TX X} {ρ : Rho} {r : Cells} {Q : QE} {p q : Addr} {qs : List Int} {m n : Int} (hd : DealOk qs m) (hn : 0 < n) (hn2 : n < 1073741824) (h : ∀ k qs' m', 0 ≤ k → k < n → DealOk qs' m' → Q (.int k) (dealC p q qs' m' ++ r)) :
    Asks T fs_draw ρ ([.raw (.ref p), .int n] ++ []) (dealC p q qs m ++ r) Q :=
  ⟨dealC p q qs m, r, List.Perm.refl _, ⟨p, q, qs, m, n, rfl, hn, hn2, hd.l, hd.a, hd.b, rfl, fun k qs' m' h1 h2 h3 h4 h5 => h k qs' m' h1 h2 ⟨h3, h4, h5⟩⟩⟩
theorem atI_in {α : Type} {l : List α} {k : Int} (h0 : 0 ≤ k) (h1 : k < l.length) : ∃ d, atI l k = some d ∧ d ∈ l := by
  unfold atI ixN
  rw [if_pos h0, if_pos h1]
  have h : k.toNat < l.length := by omega
  exact ⟨l[k.toNat], by simp [h], List.getElem_mem h⟩
theorem iw_strs {X : Cx} {T : TX X} {C : Cells} {Q : QE} {ds : List D} {xs : List Str} {k : Int} (e : ds = xs.map D.str) (h0 : 0 ≤ k) (h1 : k < xs.length) (q : ∀ s ∈ xs, Q (.str s) C) : IW T (.lst ds) (.int k) C Q := by
  subst e
  obtain ⟨d, h2, h3⟩ := atI_in (l := xs.map D.str) h0 (by rw [List.length_map]; exact h1)
  obtain ⟨s, h4, rfl⟩ := List.mem_map.mp h3
  exact iw_lst .l h2 (q s h4)
theorem iw_ints {X : Cx} {T : TX X} {C : Cells} {Q : QE} {ds : List D} {xs : List Int} {k : Int} (e : ds = xs.map D.int) (h0 : 0 ≤ k) (h1 : k < xs.length) (q : ∀ s ∈ xs, Q (.int s) C) : IW T (.lst ds) (.int k) C Q := by
  subst e
  obtain ⟨d, h2, h3⟩ := atI_in (l := xs.map D.int) h0 (by rw [List.length_map]; exact h1)
  obtain ⟨s, h4, rfl⟩ := List.mem_map.mp h3
  exact iw_lst .l h2 (q s h4)
theorem int_len {i : Int} (h0 : 0 ≤ i) (h1 : i < 100) : (toString i : Str).length ≤ 2 := by
  obtain ⟨n, rfl⟩ := Int.eq_ofNat_of_zero_le h0
  have hn : n < 100 := by omega
  have all : ∀ n : _root_.Fin 100, (toString ((n.val : Nat) : Int) : Str).length ≤ 2 := by decide +kernel
  exact all ⟨n, hn⟩
theorem int_log {i : Int} (h0 : 0 ≤ i) (h1 : i < 1000000) : i.natAbs.log2 < 1920 := by
  obtain ⟨n, rfl⟩ := Int.eq_ofNat_of_zero_le h0
  show n.log2 < 1920
  have hn : n < 2 ^ 20 := by omega
  by_cases e : n = 0
  · subst e; decide
  · have := (Nat.log2_lt e).mpr hn
    omega
theorem atI_last {α : Type} {l : List α} {x : α} : atI (l ++ [x]) (-1) = some x := by
  unfold atI ixN
  rw [List.length_append, List.length_singleton, if_neg (by decide), if_pos (by omega)]
  show (l ++ [x])[((-1 : Int) + ((l.length + 1 : Nat) : Int)).toNat]? = some x
  rw [show ((-1 : Int) + ((l.length + 1 : Nat) : Int)).toNat = l.length by omega]
  simp

section
local macro_rules | `(tactic| walk_at "N") => `(tactic| first
  | ((with_reducible show Tr.WE _ (.Name "_law_script" _) _ _ _); refine we_var 0 rfl ?_ (pv 0))
  | ((with_reducible show Tr.WE _ (.Name "_law_base" _) _ _ _); refine we_var 1 rfl ?_ (pv 1))
  | ((with_reducible show Tr.WE _ (.Name "_law_cells" _) _ _ _); refine we_var 2 rfl ?_ (pv 2))
  | ((with_reducible show Tr.WE _ (.Name "_law_blend" _) _ _ _); refine we_var 3 rfl ?_ (pv 3))
  | ((with_reducible show Tr.WE _ (.Name "_law_cell" _) _ _ _); refine we_var 4 rfl ?_ (pv 4)))
local macro_rules | `(tactic| walk_at "set") => `(tactic| first
  | ((with_reducible show WS _ (.Assign [.Name "_law_script" _] _ _) _ _ _); first | refine ws_set 0 hN rfl (Or.inl rfl) ?_ rfl | refine ws_set 0 hN rfl (Or.inr rfl) ?_ rfl)
  | ((with_reducible show WS _ (.Assign [.Name "_law_base" _] _ _) _ _ _); first | refine ws_set 1 hN rfl (Or.inl rfl) ?_ rfl | refine ws_set 1 hN rfl (Or.inr rfl) ?_ rfl)
  | ((with_reducible show WS _ (.Assign [.Name "_law_cells" _] _ _) _ _ _); first | refine ws_set 2 hN rfl (Or.inl rfl) ?_ rfl | refine ws_set 2 hN rfl (Or.inr rfl) ?_ rfl)
  | ((with_reducible show WS _ (.Assign [.Name "_law_blend" _] _ _) _ _ _); first | refine ws_set 3 hN rfl (Or.inl rfl) ?_ rfl | refine ws_set 3 hN rfl (Or.inr rfl) ?_ rfl)
  | ((with_reducible show WS _ (.Assign [.Name "_law_cell" _] _ _) _ _ _); first | refine ws_set 4 hN rfl (Or.inl rfl) ?_ rfl | refine ws_set 4 hN rfl (Or.inr rfl) ?_ rfl))
local macro_rules | `(tactic| walk_at "setC") => `(tactic| first
  | ((with_reducible show WS _ (.Assign [.Name "_law_script" _] (.List _ _) _) _ _ _); first | refine ws_set 0 hN rfl (Or.inl rfl) (we_lstC ?_) rfl | refine ws_set 0 hN rfl (Or.inr rfl) (we_lstC ?_) rfl)
  | ((with_reducible show WS _ (.Assign [.Name "_law_base" _] (.List _ _) _) _ _ _); first | refine ws_set 1 hN rfl (Or.inl rfl) (we_lstC ?_) rfl | refine ws_set 1 hN rfl (Or.inr rfl) (we_lstC ?_) rfl)
  | ((with_reducible show WS _ (.Assign [.Name "_law_cells" _] (.List _ _) _) _ _ _); first | refine ws_set 2 hN rfl (Or.inl rfl) (we_lstC ?_) rfl | refine ws_set 2 hN rfl (Or.inr rfl) (we_lstC ?_) rfl)
  | ((with_reducible show WS _ (.Assign [.Name "_law_blend" _] (.List _ _) _) _ _ _); first | refine ws_set 3 hN rfl (Or.inl rfl) (we_lstC ?_) rfl | refine ws_set 3 hN rfl (Or.inr rfl) (we_lstC ?_) rfl)
  | ((with_reducible show WS _ (.Assign [.Name "_law_cell" _] (.List _ _) _) _ _ _); first | refine ws_set 4 hN rfl (Or.inl rfl) (we_lstC ?_) rfl | refine ws_set 4 hN rfl (Or.inr rfl) (we_lstC ?_) rfl))
local macro_rules | `(tactic| walk_at "tgt") => `(tactic| first
  | ((with_reducible show WG _ (.Name "_law_script" _) _ _ _ _); first | refine wg_name 0 ?_ (pg_name (i := 0) hN rfl (Or.inl rfl)) | refine wg_name 0 ?_ (pg_name (i := 0) hN rfl (Or.inr rfl)))
  | ((with_reducible show WG _ (.Name "_law_base" _) _ _ _ _); first | refine wg_name 1 ?_ (pg_name (i := 1) hN rfl (Or.inl rfl)) | refine wg_name 1 ?_ (pg_name (i := 1) hN rfl (Or.inr rfl)))
  | ((with_reducible show WG _ (.Name "_law_cells" _) _ _ _ _); first | refine wg_name 2 ?_ (pg_name (i := 2) hN rfl (Or.inl rfl)) | refine wg_name 2 ?_ (pg_name (i := 2) hN rfl (Or.inr rfl)))
  | ((with_reducible show WG _ (.Name "_law_blend" _) _ _ _ _); first | refine wg_name 3 ?_ (pg_name (i := 3) hN rfl (Or.inl rfl)) | refine wg_name 3 ?_ (pg_name (i := 3) hN rfl (Or.inr rfl)))
  | ((with_reducible show WG _ (.Name "_law_cell" _) _ _ _ _); first | refine wg_name 4 ?_ (pg_name (i := 4) hN rfl (Or.inl rfl)) | refine wg_name 4 ?_ (pg_name (i := 4) hN rfl (Or.inr rfl))))
local macro_rules | `(tactic| walk_at "lc") => `(tactic| first
  | ((with_reducible show Tr.WE _ (.ListComp _ [⟨.Name "_law_cell" _, _, [], _⟩] _ _) _ _ _); refine we_lc [("_law_cell", 4)] (.one 4) rfl hN (blkOk_by rfl) (fun _ _ _ _ _ => pg_name (i := 4) hN rfl (Or.inl rfl)) (by decide) ?_)
  | ((with_reducible show Tr.WE _ (.ListComp _ [⟨.Name "_law_cell" _, _, [_], _⟩] _ _) _ _ _); refine we_lc1 [("_law_cell", 4)] (.one 4) rfl hN (blkOk_by rfl) (fun _ _ _ _ _ => pg_name (i := 4) hN rfl (Or.inl rfl)) (by decide) ?_))
local macro_rules | `(tactic| walk_at "slc") => `(tactic| first
  | ((with_reducible show WS _ (.Assign [.Name "_law_cells" _] (.ListComp _ [⟨.Name "_law_cell" _, _, [], _⟩] _ _) _) _ _ _); refine ws_setLc [("_law_cell", 4)] (.one 4) 2 rfl hN rfl rfl (sw_true rfl rfl rfl rfl) (blkOk_by rfl) (fun _ _ _ _ _ => pg_name (i := 4) hN rfl (Or.inl rfl)) (by decide) ?_))
-- def: _law_deal
theorem ok__law_deal (T : Tp P K mg) : FnG P w K mg base 1 T.f__law_deal T.d__law_deal ["_law_script", "_law_base"] fs_deal := by
  refine fnT T.F__law_deal sc__law_deal (fun ds C Q Qx h => ?_) (fun cdv A outer s H E X ds C Q hr h => ?_)
  · obtain ⟨ns, b, rfl, _⟩ := h; rfl
  · obtain ⟨ns, b, rfl, hl, hb0, hb1, rfl, q⟩ := h
    have hN := sc__law_deal.nd
    walk_at "w"
    refine wi_lst ?_
    walk_at "w"
    rw [cutD_map]
    have hl2 : (cutL ns (some b) (some 63)).length ≤ 63 := by
      have := ((List.take_sublist (HT.sIx ns.length ns.length (some 63) - HT.sIx ns.length 0 (some b)) (ns.drop (HT.sIx ns.length 0 (some b)))).trans (List.drop_sublist _ _)).length_le
      exact Nat.le_trans this hl
    generalize cutL ns (some b) (some 63) = cs at hl2
    refine lcw_mapG cs _ (fun i => .int (absI i)) trivial ?_ (by omega) ?_
    · intro i hi
      refine ⟨_, rfl, fun s1 H1 Ca cl fp => ?_⟩
      walk_at "w"
      exact ⟨rfl, rfl⟩
    · walk_at "w"
      refine ws_for rfl ?_
      refine wi_lst ?_
      walk_at "w"
      refine forW_inv (fun i ρ C1 => C1 = [] ∧ ∃ m x, 0 ≤ m ∧ m < 2147483647 ∧ ρ = [some (.lst (ns.map .int)), some (.int b), some (.lst (cs.map fun i => .int (absI i))), some (.int m), x]) (fun _ _ _ _ => trivial) ?_ ?_ ⟨rfl, _, _, ?_, ?_, rfl⟩
      · rintro i dd ρ C1 hi ⟨rfl, m, x, hm0, hm1, rfl⟩
        obtain ⟨v, rfl⟩ : ∃ v, dd = .int v := by
          rw [List.getElem?_map] at hi
          cases e : cs[i]? with
          | none => rw [e] at hi; cases hi
          | some v => rw [e] at hi; cases hi; exact ⟨_, rfl⟩
        walk_at "w"
        exact ⟨rfl, _, _, Int.emod_nonneg _ (by decide), Int.emod_lt_of_pos _ (by decide), rfl⟩
      · rintro ρ C1 ⟨rfl, m, x, hm0, hm1, rfl⟩
        walk_at "s"
        refine ws_ret (we_lstC ?_)
        refine wa_cons (we_revC ?_) rfl
        walk_at "w"
        refine wi_lst ?_
        walk_at "w"
        refine lcw1_mapG cs _ (fun i => .int (absI i)) (fun i => decide ((10 : Int) ^ 18 ≤ absI i)) trivial ?_ (by omega) ?_
        · intro i hi
          refine ⟨_, rfl, fun s1 H1 Ca cl fp => ?_, fun _ s1 H1 Ca cl fp => ?_⟩
          · walk_at "w"
            exact ⟨rfl, rfl⟩
          · walk_at "w"
            exact ⟨rfl, rfl⟩
        · refine ⟨_, .l, fun p => ?_⟩
          walk_at "w"
          intro p2
          have := q p2 p ((cs.filter fun i => decide ((10 : Int) ^ 18 ≤ absI i)).map absI).reverse m (by rw [List.length_reverse, List.length_map]; exact Nat.le_trans (List.length_filter_le _ _) hl2) hm0 hm1
          unfold dealC at this
          rw [List.map_reverse, List.map_map] at this
          exact this
      · show (0 : Int) ≤ 15485863 + 11 * b
        omega
      · show 15485863 + 11 * b < (2147483647 : Int)
        omega

end
local macro_rules | `(tactic| walk_at "call") => `(tactic| ((with_reducible show Tr.WE _ (.Call (.Name "_law_deal" _) (_ :: _) [] _) _ _ _); refine we_call (dds := []) (ok__law_deal T) (hr.mono (by omega)) rfl T.g__law_deal T.F__law_deal.kp T.b__law_deal .nil (fun _ => Reps.nil) ?_))
section
local macro_rules | `(tactic| walk_at "N") => `(tactic| first
  | ((with_reducible show Tr.WE _ (.Name "_law_deal_here" _) _ _ _); refine we_var 0 rfl ?_ (pv 0))
  | ((with_reducible show Tr.WE _ (.Name "_law_amount" _) _ _ _); refine we_var 1 rfl ?_ (pv 1))
  | ((with_reducible show Tr.WE _ (.Name "_law_left" _) _ _ _); refine we_var 2 rfl ?_ (pv 2)))
local macro_rules | `(tactic| walk_at "set") => `(tactic| first
  | ((with_reducible show WS _ (.Assign [.Name "_law_deal_here" _] _ _) _ _ _); first | refine ws_set 0 hN rfl (Or.inl rfl) ?_ rfl | refine ws_set 0 hN rfl (Or.inr rfl) ?_ rfl)
  | ((with_reducible show WS _ (.Assign [.Name "_law_amount" _] _ _) _ _ _); first | refine ws_set 1 hN rfl (Or.inl rfl) ?_ rfl | refine ws_set 1 hN rfl (Or.inr rfl) ?_ rfl)
  | ((with_reducible show WS _ (.Assign [.Name "_law_left" _] _ _) _ _ _); first | refine ws_set 2 hN rfl (Or.inl rfl) ?_ rfl | refine ws_set 2 hN rfl (Or.inr rfl) ?_ rfl))
local macro_rules | `(tactic| walk_at "setC") => `(tactic| first
  | ((with_reducible show WS _ (.Assign [.Name "_law_deal_here" _] (.List _ _) _) _ _ _); first | refine ws_set 0 hN rfl (Or.inl rfl) (we_lstC ?_) rfl | refine ws_set 0 hN rfl (Or.inr rfl) (we_lstC ?_) rfl)
  | ((with_reducible show WS _ (.Assign [.Name "_law_amount" _] (.List _ _) _) _ _ _); first | refine ws_set 1 hN rfl (Or.inl rfl) (we_lstC ?_) rfl | refine ws_set 1 hN rfl (Or.inr rfl) (we_lstC ?_) rfl)
  | ((with_reducible show WS _ (.Assign [.Name "_law_left" _] (.List _ _) _) _ _ _); first | refine ws_set 2 hN rfl (Or.inl rfl) (we_lstC ?_) rfl | refine ws_set 2 hN rfl (Or.inr rfl) (we_lstC ?_) rfl))
local macro_rules | `(tactic| walk_at "tgt") => `(tactic| first
  | ((with_reducible show WG _ (.Name "_law_deal_here" _) _ _ _ _); first | refine wg_name 0 ?_ (pg_name (i := 0) hN rfl (Or.inl rfl)) | refine wg_name 0 ?_ (pg_name (i := 0) hN rfl (Or.inr rfl)))
  | ((with_reducible show WG _ (.Name "_law_amount" _) _ _ _ _); first | refine wg_name 1 ?_ (pg_name (i := 1) hN rfl (Or.inl rfl)) | refine wg_name 1 ?_ (pg_name (i := 1) hN rfl (Or.inr rfl)))
  | ((with_reducible show WG _ (.Name "_law_left" _) _ _ _ _); first | refine wg_name 2 ?_ (pg_name (i := 2) hN rfl (Or.inl rfl)) | refine wg_name 2 ?_ (pg_name (i := 2) hN rfl (Or.inr rfl))))
-- def: _law_draw
theorem ok__law_draw (T : Tp P K mg) : FnG P w K mg base 1 T.f__law_draw T.d__law_draw ["_law_deal_here", "_law_amount"] fs_draw := by
  refine fnT T.F__law_draw sc__law_draw (fun ds C Q Qx h => ?_) (fun cdv A outer s H E X ds C Q hr h => ?_)
  · obtain ⟨p, q, qs, m, n, rfl, _⟩ := h; rfl
  · obtain ⟨p, q, qs, m, n, rfl, hn0, hn1, hql, hm0, hm1, rfl, k⟩ := h
    have hN := sc__law_draw.nd
    have hu := hu_G hr
    walk_at "s"
    refine ws_while (fun j ρ C1 => ∃ qs : List Int, qs.length ≤ 63 ∧ j = qs.length ∧ ρ = [some (.raw (.ref p)), some (.int n), none] ∧ C1 = dealC p q qs m) qs.length ⟨qs, hql, rfl, rfl, rfl⟩ ?_
    clear hql
    rintro j ρ C1 ⟨qs, hql, rfl, rfl, rfl⟩
    walk_at "w"
    refine ow_neLI (xs := qs) (ys := []) hu (by walk_at "cell") (by exact .l) ?_
    walk_at "w"
    refine ite2 (fun h1 => ?_) (fun h1 => ?_)
    · have hne : qs ≠ [] := fun z => by subst z; cases h1
      obtain ⟨ys, y, rfl⟩ : ∃ ys y, qs = ys ++ [y] := ⟨_, _, (List.dropLast_concat_getLast hne).symm⟩
      have hq1 : (dealC p q (ys ++ [y]) m)[1]? = some (q, Cell.lst (ys.map .int ++ [.int y])) := by
        show some (q, Cell.lst ((ys ++ [y]).map D.int)) = _
        rw [List.map_append]; rfl
      walk_at "w"
      refine iw_lst (d := .int y) (by exact .c hq1) atI_last ?_
      walk_at "w"
      refine ite2 (fun h2 => ?_) (fun h2 => ?_)
      · walk_at "w"
        refine we_pop (d := .int y) 1 ?_
        walk_at "w"
        exact ⟨q, ys.map .int, rfl, hq1, ys.length, by simp, ys, by simp at hql; omega, rfl, rfl, rfl⟩
      · walk_at "w"
        refine ow_neLI (xs := ys ++ [y]) (ys := []) hu (by walk_at "cell") (by exact .l) ?_
        walk_at "w"
        rw [if_pos (show (!decide (ys ++ [y] = [])) = true by simp)]
        walk_at "w"
        refine we_pop (d := .int y) 1 ?_
        walk_at "w"
        refine ⟨q, ys.map .int, rfl, hq1, ?_⟩
        walk_at "w"
        have := k (y % n) (ys ++ [y / n]) m (Int.emod_nonneg _ (by omega)) (Int.emod_lt_of_pos _ hn0) (by simp at hql ⊢; omega) hm0 hm1
        unfold dealC at this
        rw [List.map_append] at this
        exact this
    · walk_at "w"
      refine ow_neLI (xs := qs) (ys := []) hu (by walk_at "cell") (by exact .l) ?_
      walk_at "w"
      rw [if_neg h1]
      walk_at "w"
      refine wg_subL 0 ?_
      walk_at "w"
      refine ⟨p, _, 1, 1, rfl, rfl, rfl, rfl, ?_⟩
      walk_at "w"
      exact k _ qs _ (Int.emod_nonneg _ (by omega)) (Int.emod_lt_of_pos _ hn0) hql (Int.emod_nonneg _ (by decide)) (Int.emod_lt_of_pos _ (by decide))

end
local macro_rules | `(tactic| walk_at "call") => `(tactic| ((with_reducible show Tr.WE _ (.Call (.Name "_law_draw" _) (_ :: _) [] _) _ _ _); refine we_call (dds := []) (ok__law_draw T) (hr.mono (by omega)) rfl T.g__law_draw T.F__law_draw.kp T.b__law_draw .nil (fun _ => Reps.nil) ?_))
/-- what the law's own any values are -/
def anyC : List D := [.non, .bl true, .bl false, .int 0, .int 1, .int (0 - 3), .int (10 ^ 9), .str "", .str "a", .str "no", .str "yes", .str "abcde", .str "A", .str "x y", .tup [.str "a", .tup [.str "a"]], .str "on"]
inductive AV : Nat → D → Prop
  | c {n d} (h : d ∈ anyC) : AV n d
  | l {n ds} (h : ∀ d ∈ ds, AV n d) (hl : ds.length ≤ 3) : AV (n + 1) (.lst ds)
  | t {n ds} (h : ∀ d ∈ ds, AV n d) (hl : ds.length ≤ 3) : AV (n + 1) (.tup ds)
def fs_any (n : Nat) : FS := fun ds C Q _ => ∃ p q qs m, ds = [.raw (.ref p), .int (n : Int)] ∧ DealOk qs m ∧ C = dealC p q qs m ∧ ∀ d qs' m', AV n d → DealOk qs' m' → Q d (dealC p q qs' m')
theorem asks_any {n : Nat} {X : Cx} {T : TX X} {ρ : Rho} {r : Cells} {Q : QE} {p q : Addr} {qs : List Int} {m : Int} (hd : DealOk qs m) (h : ∀ d qs' m', AV n d → DealOk qs' m' → Q d (dealC p q qs' m' ++ r)) :
    Asks T (fs_any n) ρ ([.raw (.ref p), .int (n : Int)] ++ []) (dealC p q qs m ++ r) Q :=
  ⟨dealC p q qs m, r, List.Perm.refl _, ⟨p, q, qs, m, rfl, hd, rfl, h⟩⟩
theorem iw_dat {X : Cx} {T : TX X} {C : Cells} {Q : QE} {ds : List D} {k : Int} (h0 : 0 ≤ k) (h1 : k < ds.length) (q : ∀ d ∈ ds, Q d C) : IW T (.lst ds) (.int k) C Q := by
  obtain ⟨d, h2, h3⟩ := atI_in (l := ds) h0 h1
  exact iw_lst .l h2 (q d h3)
theorem anyD_of {K : W.Frag} {C : Cells} {d : D} {t : String} (h : TyD K C d (.type t)) (hk : kitB t "str" = some (isStr d)) (hl : (strOf d).length ≤ 100000) : AnyD K C d := ⟨⟨_, h, kit_ty hk⟩, hl⟩
theorem AV.any {K : W.Frag} {C : Cells} {n : Nat} {d : D} (h : AV n d) : AnyD K C d := by
  cases h with
  | c h =>
    unfold anyC at h
    simp only [List.mem_cons, List.not_mem_nil, or_false] at h
    rcases h with rfl | rfl | rfl | rfl | rfl | rfl | rfl | rfl | rfl | rfl | rfl | rfl | rfl | rfl | rfl | rfl
    all_goals first
      | exact any_str (by decide)
      | exact anyD_of .non (by decide +kernel) (by decide)
      | exact anyD_of (.bl _) (by decide +kernel) (by decide)
      | exact anyD_of (.int _) (by decide +kernel) (by decide)
      | exact anyD_of (.tup _) (by decide +kernel) (by decide)
  | l h hl => exact anyD_of (.lst _) (show kitB "list" "str" = some false by decide +kernel) (by show Str.empty.length ≤ _; decide)
  | t h hl => exact anyD_of (.tup _) (show kitB "tuple" "str" = some false by decide +kernel) (by show Str.empty.length ≤ _; decide)
/-- a list, a tuple or neither -/
theorem AV.seq {K : W.Frag} {n : Nat} {d : D} (h : AV n d) : (∀ C, SqA K C d false) ∨ (∃ ds, (d = .lst ds ∨ d = .tup ds) ∧ ds.length ≤ 3 ∧ ∀ x ∈ ds, ∃ m, AV m x) ∨ d = .tup [.str "a", .tup [.str "a"]] := by
  cases h with
  | c h =>
    unfold anyC at h
    simp only [List.mem_cons, List.not_mem_nil, or_false] at h
    rcases h with rfl | rfl | rfl | rfl | rfl | rfl | rfl | rfl | rfl | rfl | rfl | rfl | rfl | rfl | rfl | rfl
    all_goals first
      | exact .inr (.inr rfl)
      | exact .inl fun C => sq_ty (.str _) (.inr ⟨by decide +kernel, by decide +kernel⟩)
      | exact .inl fun C => sq_ty .non (.inr ⟨by decide +kernel, by decide +kernel⟩)
      | exact .inl fun C => sq_ty (.bl _) (.inr ⟨by decide +kernel, by decide +kernel⟩)
      | exact .inl fun C => sq_ty (.int _) (.inr ⟨by decide +kernel, by decide +kernel⟩)
  | l h hl => exact .inr (.inl ⟨_, .inl rfl, hl, fun x hx => ⟨_, h x hx⟩⟩)
  | t h hl => exact .inr (.inl ⟨_, .inr rfl, hl, fun x hx => ⟨_, h x hx⟩⟩)
theorem AV.ev {n : Nat} {d : D} (h : AV n d) : isNon (evD d) = true := by
  cases h with
  | c h =>
    unfold anyC at h
    simp only [List.mem_cons, List.not_mem_nil, or_false] at h
    rcases h with rfl | rfl | rfl | rfl | rfl | rfl | rfl | rfl | rfl | rfl | rfl | rfl | rfl | rfl | rfl | rfl
    all_goals first | rfl | decide +kernel
  | l h hl => rfl
  | t h hl => rfl
theorem AV.seq2 {K : W.Frag} {n : Nat} {d : D} (h : AV n d) : (∀ C, SqA K C d false) ∨ ∃ ds, (∀ C, SeqD C d ds) ∧ ds.length ≤ 3 ∧ ∀ x ∈ ds, (∀ C, AnyD K C x) ∧ isNon (evD x) = true := by
  rcases h.seq (K := K) with h | ⟨ds, hd, hl, ha⟩ | rfl
  · exact .inl h
  · refine .inr ⟨ds, fun C => ?_, hl, fun x hx => ?_⟩
    · rcases hd with rfl | rfl
      · exact .l
      · exact .t
    · obtain ⟨m, hm⟩ := ha x hx
      exact ⟨fun C => hm.any, hm.ev⟩
  · refine .inr ⟨_, fun C => .t, by decide, fun x hx => ?_⟩
    rcases List.mem_cons.mp hx with rfl | hx
    · exact ⟨fun C => any_str (by decide), by decide +kernel⟩
    · rw [List.mem_singleton.mp hx]
      exact ⟨fun C => anyD_of (.tup _) (show kitB "tuple" "str" = some false by decide +kernel) (by decide), rfl⟩

section
local macro_rules | `(tactic| walk_at "N") => `(tactic| first
  | ((with_reducible show Tr.WE _ (.Name "_law_deal_here" _) _ _ _); refine we_var 0 rfl ?_ (pv 0))
  | ((with_reducible show Tr.WE _ (.Name "_law_deep" _) _ _ _); refine we_var 1 rfl ?_ (pv 1))
  | ((with_reducible show Tr.WE _ (.Name "_law_inner" _) _ _ _); refine we_var 2 rfl ?_ (pv 2))
  | ((with_reducible show Tr.WE _ (.Name "_law_some" _) _ _ _); refine we_var 3 rfl ?_ (pv 3))
  | ((with_reducible show Tr.WE _ (.Name "_law_turn" _) _ _ _); refine we_var 4 rfl ?_ (pv 4)))
local macro_rules | `(tactic| walk_at "set") => `(tactic| first
  | ((with_reducible show WS _ (.Assign [.Name "_law_deal_here" _] _ _) _ _ _); first | refine ws_set 0 hN rfl (Or.inl rfl) ?_ rfl | refine ws_set 0 hN rfl (Or.inr rfl) ?_ rfl)
  | ((with_reducible show WS _ (.Assign [.Name "_law_deep" _] _ _) _ _ _); first | refine ws_set 1 hN rfl (Or.inl rfl) ?_ rfl | refine ws_set 1 hN rfl (Or.inr rfl) ?_ rfl)
  | ((with_reducible show WS _ (.Assign [.Name "_law_inner" _] _ _) _ _ _); first | refine ws_set 2 hN rfl (Or.inl rfl) ?_ rfl | refine ws_set 2 hN rfl (Or.inr rfl) ?_ rfl)
  | ((with_reducible show WS _ (.Assign [.Name "_law_some" _] _ _) _ _ _); first | refine ws_set 3 hN rfl (Or.inl rfl) ?_ rfl | refine ws_set 3 hN rfl (Or.inr rfl) ?_ rfl)
  | ((with_reducible show WS _ (.Assign [.Name "_law_turn" _] _ _) _ _ _); first | refine ws_set 4 hN rfl (Or.inl rfl) ?_ rfl | refine ws_set 4 hN rfl (Or.inr rfl) ?_ rfl))
local macro_rules | `(tactic| walk_at "setC") => `(tactic| first
  | ((with_reducible show WS _ (.Assign [.Name "_law_deal_here" _] (.List _ _) _) _ _ _); first | refine ws_set 0 hN rfl (Or.inl rfl) (we_lstC ?_) rfl | refine ws_set 0 hN rfl (Or.inr rfl) (we_lstC ?_) rfl)
  | ((with_reducible show WS _ (.Assign [.Name "_law_deep" _] (.List _ _) _) _ _ _); first | refine ws_set 1 hN rfl (Or.inl rfl) (we_lstC ?_) rfl | refine ws_set 1 hN rfl (Or.inr rfl) (we_lstC ?_) rfl)
  | ((with_reducible show WS _ (.Assign [.Name "_law_inner" _] (.List _ _) _) _ _ _); first | refine ws_set 2 hN rfl (Or.inl rfl) (we_lstC ?_) rfl | refine ws_set 2 hN rfl (Or.inr rfl) (we_lstC ?_) rfl)
  | ((with_reducible show WS _ (.Assign [.Name "_law_some" _] (.List _ _) _) _ _ _); first | refine ws_set 3 hN rfl (Or.inl rfl) (we_lstC ?_) rfl | refine ws_set 3 hN rfl (Or.inr rfl) (we_lstC ?_) rfl)
  | ((with_reducible show WS _ (.Assign [.Name "_law_turn" _] (.List _ _) _) _ _ _); first | refine ws_set 4 hN rfl (Or.inl rfl) (we_lstC ?_) rfl | refine ws_set 4 hN rfl (Or.inr rfl) (we_lstC ?_) rfl))
local macro_rules | `(tactic| walk_at "tgt") => `(tactic| first
  | ((with_reducible show WG _ (.Name "_law_deal_here" _) _ _ _ _); first | refine wg_name 0 ?_ (pg_name (i := 0) hN rfl (Or.inl rfl)) | refine wg_name 0 ?_ (pg_name (i := 0) hN rfl (Or.inr rfl)))
  | ((with_reducible show WG _ (.Name "_law_deep" _) _ _ _ _); first | refine wg_name 1 ?_ (pg_name (i := 1) hN rfl (Or.inl rfl)) | refine wg_name 1 ?_ (pg_name (i := 1) hN rfl (Or.inr rfl)))
  | ((with_reducible show WG _ (.Name "_law_inner" _) _ _ _ _); first | refine wg_name 2 ?_ (pg_name (i := 2) hN rfl (Or.inl rfl)) | refine wg_name 2 ?_ (pg_name (i := 2) hN rfl (Or.inr rfl)))
  | ((with_reducible show WG _ (.Name "_law_some" _) _ _ _ _); first | refine wg_name 3 ?_ (pg_name (i := 3) hN rfl (Or.inl rfl)) | refine wg_name 3 ?_ (pg_name (i := 3) hN rfl (Or.inr rfl)))
  | ((with_reducible show WG _ (.Name "_law_turn" _) _ _ _ _); first | refine wg_name 4 ?_ (pg_name (i := 4) hN rfl (Or.inl rfl)) | refine wg_name 4 ?_ (pg_name (i := 4) hN rfl (Or.inr rfl))))
local macro_rules | `(tactic| walk_at "lc") => `(tactic| first
  | ((with_reducible show Tr.WE _ (.ListComp _ [⟨.Name "_law_turn" _, _, [], _⟩] _ _) _ _ _); refine we_lc [("_law_turn", 4)] (.one 4) rfl hN (blkOk_by rfl) (fun _ _ _ _ _ => pg_name (i := 4) hN rfl (Or.inl rfl)) (by decide) ?_))
local macro_rules | `(tactic| walk_at "slc") => `(tactic| first
  | ((with_reducible show WS _ (.Assign [.Name "_law_inner" _] (.ListComp _ [⟨.Name "_law_turn" _, _, [], _⟩] _ _) _) _ _ _); refine ws_setLc [("_law_turn", 4)] (.one 4) 2 rfl hN rfl rfl (sw_true rfl rfl rfl rfl) (blkOk_by rfl) (fun _ _ _ _ _ => pg_name (i := 4) hN rfl (Or.inl rfl)) (by decide) ?_))
-- def: _law_any
theorem any_step (T : Tp P K mg) (n : Nat) (ih : 0 < n → FnG P w K mg base (n - 1 + 2) T.f__law_any T.d__law_any ["_law_deal_here", "_law_deep"] (fs_any (n - 1))) : FnG P w K mg base (n + 2) T.f__law_any T.d__law_any ["_law_deal_here", "_law_deep"] (fs_any n) := by
  refine fnT T.F__law_any sc__law_any (fun ds C Q Qx h => ?_) (fun cdv A outer s H E X ds C Q hr h => ?_)
  · obtain ⟨p, q, qs, m, rfl, _⟩ := h; rfl
  · obtain ⟨p, q, qs, m, rfl, hd, rfl, k⟩ := h
    have hN := sc__law_any.nd
    have k' : ∀ d qs' m', AV n d → DealOk qs' m' → Q d (dealC p q qs' m' ++ []) := fun s qs' m' h1 h2 => by rw [List.append_nil]; exact k s qs' m' h1 h2
    rw [← List.append_nil (dealC p q qs m)]
    clear k
    walk_at "w"
    refine ite2 (fun h1 => ?_) (fun h1 => ?_)
    · walk_at "w"
      refine asks_draw hd (by decide) (by decide) fun f qs1 m1 hf0 hf1 hd1 => ?_
      walk_at "w"
      refine ite2 (fun h2 => ?_) (fun h2 => ?_)
      · have hn : 0 < n := by simpa using h1
        walk_at "w"
        walk_at "it"
        refine asks_draw hd1 (by decide) (by decide) fun f2 qs2 m2 hg0 hg1 hd2 => ?_
        refine ⟨f2, rfl, by omega, by omega, ?_⟩
        refine lcw_inv (fun i acc C1 => ∃ (qs : List Int) (m : Int), DealOk qs m ∧ acc.length = i ∧ i ≤ 3 ∧ (∀ x ∈ acc, AV (n - 1) x) ∧ C1 = dealC p q qs m ++ []) (fun _ _ _ _ => trivial) ?_ ?_ ⟨qs2, m2, hd2, rfl, by decide, by simp, rfl⟩
        · rintro i2 d2 acc C1 hi2 ⟨qs2, m2, hd2, rfl, hl, hx, rfl⟩
          have hlt : acc.length < 3 := by
            have := (List.getElem?_eq_some_iff.mp hi2).1
            rw [rangeD_len] at this
            omega
          refine ⟨_, rfl, fun s1 H1 Ca cl fp => ?_⟩
          refine we_call (dds := []) (ih hn) (hr.mono (by omega)) rfl T.g__law_any T.F__law_any.kp T.b__law_any .nil (fun _ => Reps.nil) ?_
          walk_at "w"
          rw [show (n : Int) - 1 = ((n - 1 : Nat) : Int) by omega]
          refine asks_any hd2 fun d qs3 m3 ha hd3 => ⟨by omega, qs3, m3, hd3, by simp, by omega, fun x h => ?_, rfl⟩
          rcases List.mem_append.mp h with h | h
          · exact hx x h
          · rw [List.mem_singleton.mp h]; exact ha
        · rintro acc C1 ⟨qs2, m2, hd2, hl, hl3, hx, rfl⟩
          rw [rangeD_len] at hl
          walk_at "w"
          refine asks_draw hd2 (by decide) (by decide) fun f4 qs4 m4 hf0 hf1 hd4 => ?_
          walk_at "w"
          obtain ⟨n, rfl⟩ : ∃ k, n = k + 1 := ⟨n - 1, by omega⟩
          refine ite2 (fun h2 => ?_) (fun h2 => ?_)
          · walk_at "w"
            exact k' _ _ _ (.l hx (by omega)) hd4
          · walk_at "w"
            exact k' _ _ _ (.t hx (by omega)) hd4
      · walk_at "w"
        refine asks_draw hd1 (by decide) (by decide) fun f qs1 m1 hf0 hf1 hd1 => ?_
        exact iw_dat hf0 hf1 fun d h => k' d _ _ (.c h) hd1
    · walk_at "w"
      refine asks_draw hd (by decide) (by decide) fun f qs1 m1 hf0 hf1 hd1 => ?_
      exact iw_dat hf0 hf1 fun d h => k' d _ _ (.c h) hd1

end
theorem ok__law_any (T : Tp P K mg) (n : Nat) : FnG P w K mg base (n + 2) T.f__law_any T.d__law_any ["_law_deal_here", "_law_deep"] (fs_any n) := by
  induction n with
  | zero => exact any_step T 0 (fun h => absurd h (by decide))
  | succ n ih => exact any_step T (n + 1) (fun _ => ih)

local macro_rules | `(tactic| walk_at "call") => `(tactic| ((with_reducible show Tr.WE _ (.Call (.Name "_law_any" _) (_ :: _) [] _) _ _ _); refine we_call (dds := []) (ok__law_any T) (hr.mono (by omega)) rfl T.g__law_any T.F__law_any.kp T.b__law_any .nil (fun _ => Reps.nil) ?_))
theorem tyD_sub {K : W.Frag} {C C' : Cells} {d : D} {t : Value} (s : ∀ x ∈ C, x ∈ C') (h : TyD K C d t) : TyD K C' d t := by
  cases h with
  | non => exact .non
  | bl => exact .bl _
  | int => exact .int _
  | str => exact .str _
  | lst => exact .lst _
  | tup => exact .tup _
  | ins h => exact .ins h
  | cl h => exact .cl (s _ h)
  | ci h hc => exact .ci (s _ h) hc
theorem sqA_sub {K : W.Frag} {C C' : Cells} {d : D} {b : Bool} (s : ∀ x ∈ C, x ∈ C') (h : SqA K C d b) : SqA K C' d b := let ⟨t, h1, h2⟩ := h; ⟨t, tyD_sub s h1, h2⟩
theorem lstD_sub {C C' : Cells} {d : D} {xs : List D} (s : ∀ x ∈ C, x ∈ C') (h : LstD C d xs) : LstD C' d xs := by
  rcases h with h | ⟨a, h, hm⟩
  · exact .inl h
  · exact .inr ⟨a, h, s _ hm⟩
theorem seqD_sub {C C' : Cells} {d : D} {xs : List D} (s : ∀ x ∈ C, x ∈ C') (h : SeqD C d xs) : SeqD C' d xs := by
  rcases h with h | h
  · exact .inl (lstD_sub s h)
  · exact .inr h
theorem anyD_sub {K : W.Frag} {C C' : Cells} {d : D} (s : ∀ x ∈ C, x ∈ C') (h : AnyD K C d) : AnyD K C' d := ⟨let ⟨t, h1, h2⟩ := h.ty; ⟨t, tyD_sub s h1, h2⟩, h.ln⟩
theorem badAt_app {xs ys : List D} (h : badAt xs = none) {x : D} (hx : isNon (evD x) = true) : badAt (xs ++ x :: ys) = some xs.length := by
  unfold badAt at h ⊢
  rw [List.findIdx?_append, h]
  simp [List.findIdx?_cons, hx]
theorem badAt_good {xs : List Str} (h : ∀ s ∈ xs, isNon (evS s) = false) : badAt (xs.map D.str) = none := by
  unfold badAt
  rw [List.findIdx?_eq_none_iff]
  intro x hx
  obtain ⟨s, hs, rfl⟩ := List.mem_map.mp hx
  exact h s hs

def badEv : List Str := ["", "serve ", " serve", "serve 1", "refuse like", "click", "click ", "click no", "click A", "click abcde", "click a b", "other", "other 1", "other do", "answer", "answer 0", "answer 01", "answer -1", "answer a", "answer 1 2", "list", "list 00", "list 1.", "list +1", "list like", "Serve", "age", "yes", "answer 10000", "list 99999"]
theorem badEv_ok : ∀ s ∈ badEv, isNon (evS s) = true ∧ s.length ≤ 20 := by decide +kernel
def goodEv : List Str := ["serve", "refuse", "click like", "other zzzz", "answer 1", "list 0", "answer 9999", "list 9999", "click list"]
theorem goodEv_ok : ∀ s ∈ goodEv, isNon (evS s) = false ∧ s.length ≤ 20 := by decide +kernel
def fs_bad : FS := fun ds C Q _ => ∃ p q qs m, ds = [.raw (.ref p)] ∧ DealOk qs m ∧ C = dealC p q qs m ∧ ∀ s qs' m', s ∈ badEv → DealOk qs' m' → Q (.str s) (dealC p q qs' m')
def fs_tried (K : W.Frag) : FS := fun ds C Q _ => ∃ d b, ds = [d] ∧ SqA K C d b ∧ (b = false → Q (.int 0) C) ∧
  (b = true → ∃ xs, SeqD C d xs ∧ (∀ x ∈ xs, AnyD K C x) ∧ (badAt xs = none → Q .non C) ∧ ∀ i, badAt xs = some i → Q (.int i) C)
theorem asks_tried {K : W.Frag} {X : Cx} {T : TX X} {ρ : Rho} {C : Cells} {Q : QE} {d : D} {xs : List D} (hs : SeqD C d xs) (ha : ∀ x ∈ xs, AnyD K C x) (h0 : badAt xs = none → Q .non C) (h1 : ∀ i, badAt xs = some i → Q (.int i) C) : Asks T (fs_tried K) ρ ([d] ++ []) C Q :=
  asks_all ⟨d, true, rfl, sq_seq hs, (fun h => by cases h), fun _ => ⟨xs, hs, ha, h0, h1⟩⟩
theorem asks_triedF {K : W.Frag} {X : Cx} {T : TX X} {ρ : Rho} {C : Cells} {Q : QE} {d : D} (hs : SqA K C d false) (h0 : Q (.int 0) C) : Asks T (fs_tried K) ρ ([d] ++ []) C Q :=
  asks_all ⟨d, false, rfl, hs, fun _ => h0, fun h => by cases h⟩

section
local macro_rules | `(tactic| walk_at "N") => `(tactic| first
  | ((with_reducible show Tr.WE _ (.Name "_law_deal_here" _) _ _ _); refine we_var 0 rfl ?_ (pv 0))
  | ((with_reducible show Tr.WE _ (.Name "_law_some" _) _ _ _); refine we_var 1 rfl ?_ (pv 1)))
local macro_rules | `(tactic| walk_at "set") => `(tactic| first
  | ((with_reducible show WS _ (.Assign [.Name "_law_deal_here" _] _ _) _ _ _); first | refine ws_set 0 hN rfl (Or.inl rfl) ?_ rfl | refine ws_set 0 hN rfl (Or.inr rfl) ?_ rfl)
  | ((with_reducible show WS _ (.Assign [.Name "_law_some" _] _ _) _ _ _); first | refine ws_set 1 hN rfl (Or.inl rfl) ?_ rfl | refine ws_set 1 hN rfl (Or.inr rfl) ?_ rfl))
local macro_rules | `(tactic| walk_at "setC") => `(tactic| first
  | ((with_reducible show WS _ (.Assign [.Name "_law_deal_here" _] (.List _ _) _) _ _ _); first | refine ws_set 0 hN rfl (Or.inl rfl) (we_lstC ?_) rfl | refine ws_set 0 hN rfl (Or.inr rfl) (we_lstC ?_) rfl)
  | ((with_reducible show WS _ (.Assign [.Name "_law_some" _] (.List _ _) _) _ _ _); first | refine ws_set 1 hN rfl (Or.inl rfl) (we_lstC ?_) rfl | refine ws_set 1 hN rfl (Or.inr rfl) (we_lstC ?_) rfl))
local macro_rules | `(tactic| walk_at "tgt") => `(tactic| first
  | ((with_reducible show WG _ (.Name "_law_deal_here" _) _ _ _ _); first | refine wg_name 0 ?_ (pg_name (i := 0) hN rfl (Or.inl rfl)) | refine wg_name 0 ?_ (pg_name (i := 0) hN rfl (Or.inr rfl)))
  | ((with_reducible show WG _ (.Name "_law_some" _) _ _ _ _); first | refine wg_name 1 ?_ (pg_name (i := 1) hN rfl (Or.inl rfl)) | refine wg_name 1 ?_ (pg_name (i := 1) hN rfl (Or.inr rfl))))
-- def: _law_bad
theorem ok__law_bad (T : Tp P K mg) : FnG P w K mg base 2 T.f__law_bad T.d__law_bad ["_law_deal_here"] fs_bad := by
  refine fnT T.F__law_bad sc__law_bad (fun ds C Q Qx h => ?_) (fun cdv A outer s H E X ds C Q hr h => ?_)
  · obtain ⟨p, q, qs, m, rfl, _⟩ := h; rfl
  · obtain ⟨p, q, qs, m, rfl, hd, rfl, k⟩ := h
    have hN := sc__law_bad.nd
    walk_at "w"
    refine ow_catC .l .l (by decide) fun al => ?_
    walk_at "w"
    refine ow_cat (.c (i := 0) rfl) .l (by decide) ?_
    walk_at "w"
    refine ow_cat .l .l (by decide) ?_
    refine wss_part (C' := dealC p q qs m ++ []) (r := [(al, _)]) (by rw [List.append_nil]; exact List.perm_append_comm (l₁ := [_])) ?_
    walk_at "w"
    walk_at "w"
    refine asks_draw hd (by decide) (by decide) fun f qs1 m1 hf0 hf1 hd1 => ?_
    refine iw_strs (xs := badEv) rfl hf0 hf1 fun s hs => ?_
    have := k s _ _ hs hd1
    rwa [← List.append_nil (dealC p q qs1 m1)] at this

end
local macro_rules | `(tactic| walk_at "call") => `(tactic| ((with_reducible show Tr.WE _ (.Call (.Name "_law_bad" _) (_ :: _) [] _) _ _ _); refine we_call (dds := []) (ok__law_bad T) (hr.mono (by omega)) rfl T.g__law_bad T.F__law_bad.kp T.b__law_bad .nil (fun _ => Reps.nil) ?_))
section
local macro_rules | `(tactic| walk_at "N") => `(tactic| first
  | ((with_reducible show Tr.WE _ (.Name "_law_thing" _) _ _ _); refine we_var 0 rfl ?_ (pv 0))
  | ((with_reducible show Tr.WE _ (.Name "_law_found" _) _ _ _); refine we_var 1 rfl ?_ (pv 1))
  | ((with_reducible show Tr.WE _ (.Name "e" _) _ _ _); refine we_var 2 rfl ?_ (pv 2)))
local macro_rules | `(tactic| walk_at "set") => `(tactic| first
  | ((with_reducible show WS _ (.Assign [.Name "_law_thing" _] _ _) _ _ _); first | refine ws_set 0 hN rfl (Or.inl rfl) ?_ rfl | refine ws_set 0 hN rfl (Or.inr rfl) ?_ rfl)
  | ((with_reducible show WS _ (.Assign [.Name "_law_found" _] _ _) _ _ _); first | refine ws_set 1 hN rfl (Or.inl rfl) ?_ rfl | refine ws_set 1 hN rfl (Or.inr rfl) ?_ rfl)
  | ((with_reducible show WS _ (.Assign [.Name "e" _] _ _) _ _ _); first | refine ws_set 2 hN rfl (Or.inl rfl) ?_ rfl | refine ws_set 2 hN rfl (Or.inr rfl) ?_ rfl))
local macro_rules | `(tactic| walk_at "setC") => `(tactic| first
  | ((with_reducible show WS _ (.Assign [.Name "_law_thing" _] (.List _ _) _) _ _ _); first | refine ws_set 0 hN rfl (Or.inl rfl) (we_lstC ?_) rfl | refine ws_set 0 hN rfl (Or.inr rfl) (we_lstC ?_) rfl)
  | ((with_reducible show WS _ (.Assign [.Name "_law_found" _] (.List _ _) _) _ _ _); first | refine ws_set 1 hN rfl (Or.inl rfl) (we_lstC ?_) rfl | refine ws_set 1 hN rfl (Or.inr rfl) (we_lstC ?_) rfl)
  | ((with_reducible show WS _ (.Assign [.Name "e" _] (.List _ _) _) _ _ _); first | refine ws_set 2 hN rfl (Or.inl rfl) (we_lstC ?_) rfl | refine ws_set 2 hN rfl (Or.inr rfl) (we_lstC ?_) rfl))
local macro_rules | `(tactic| walk_at "tgt") => `(tactic| first
  | ((with_reducible show WG _ (.Name "_law_thing" _) _ _ _ _); first | refine wg_name 0 ?_ (pg_name (i := 0) hN rfl (Or.inl rfl)) | refine wg_name 0 ?_ (pg_name (i := 0) hN rfl (Or.inr rfl)))
  | ((with_reducible show WG _ (.Name "_law_found" _) _ _ _ _); first | refine wg_name 1 ?_ (pg_name (i := 1) hN rfl (Or.inl rfl)) | refine wg_name 1 ?_ (pg_name (i := 1) hN rfl (Or.inr rfl)))
  | ((with_reducible show WG _ (.Name "e" _) _ _ _ _); first | refine wg_name 2 ?_ (pg_name (i := 2) hN rfl (Or.inl rfl)) | refine wg_name 2 ?_ (pg_name (i := 2) hN rfl (Or.inr rfl))))
-- def: _law_tried
theorem ok__law_tried (T : Tp P K mg) : FnG P w K mg base 5 T.f__law_tried T.d__law_tried ["_law_thing"] (fs_tried K) := by
  refine fnT T.F__law_tried sc__law_tried (fun ds C Q Qx h => ?_) (fun cdv A outer s H E X ds C Q hr h => ?_)
  · obtain ⟨d, b, rfl, _⟩ := h; rfl
  · obtain ⟨d, b, rfl, hs, h0, h1⟩ := h
    have hN := sc__law_tried.nd
    walk_at "w"
    refine ws_try (i := 2) rfl rfl hN rfl rfl ⟨rfl, by decide, .inl T.g_InvalidEvent⟩ (fun cls fs ρ' C' => ∃ (k : Nat) (z : Addr), cls = .ref T.c_InvalidEvent ∧ fs = (some ([("at" : Str)], [D.int k]) : XF) ∧ ρ' = [some d, some .non, none] ∧ C' = (z, .ins T.c_Weaving [] []) :: C ∧ Q (.int k) C) (fun pn xe T' eX => ?_) ?_
    · walk_at "s"
      walk_at "s"
      refine we_frzI ?_
      walk_at "w"
      refine asksM_all fun z => ⟨z, d, b, C, rfl, rfl, ?_, fun hb => ?_, fun hb => ?_⟩
      · exact sqA_sub (fun _ h => List.mem_cons_of_mem _ h) hs
      · rw [eX]
        exact ⟨0, z, rfl, rfl, rfl, rfl, h0 hb⟩
      · obtain ⟨xs, hs, ha, hn, hi⟩ := h1 hb
        refine ⟨xs, ?_, ?_, fun hb => ?_, fun i hb => ?_⟩
        · exact seqD_sub (fun _ h => List.mem_cons_of_mem _ h) hs
        · exact fun x hx => anyD_sub (fun _ h => List.mem_cons_of_mem _ h) (ha x hx)
        · refine ⟨rfl, 0, z, _, _, _, rfl, rfl, ?_⟩
          walk_at "w"
          exact hn hb
        · rw [eX]
          exact ⟨i, z, rfl, rfl, rfl, rfl, hi i hb⟩
    · rintro cls fs ρ' C' ⟨k, z, rfl, rfl, rfl, rfl, q⟩
      refine ⟨true, T.exm_InvalidEvent_InvalidEvent, (fun h => by cases h), fun _ a oe d2 pn T' hz hfl hA => ?_⟩
      refine wss_part (C' := C) (r := [(z, _)]) (List.perm_append_comm (l₁ := [_])) ?_
      walk_at "w"
      exact q

end
local macro_rules | `(tactic| walk_at "call") => `(tactic| ((with_reducible show Tr.WE _ (.Call (.Name "_law_tried" _) (_ :: _) [] _) _ _ _); refine we_call (dds := []) (ok__law_tried T) (hr.mono (by omega)) rfl T.g__law_tried T.F__law_tried.kp T.b__law_tried .nil (fun _ => Reps.nil) ?_))
section
local macro_rules | `(tactic| walk_at "N") => `(tactic| first
  | ((with_reducible show Tr.WE _ (.Name "_law_script" _) _ _ _); refine we_var 0 rfl ?_ (pv 0))
  | ((with_reducible show Tr.WE _ (.Name "_law_deal_here" _) _ _ _); refine we_var 1 rfl ?_ (pv 1))
  | ((with_reducible show Tr.WE _ (.Name "_law_good" _) _ _ _); refine we_var 2 rfl ?_ (pv 2))
  | ((with_reducible show Tr.WE _ (.Name "_law_turn" _) _ _ _); refine we_var 3 rfl ?_ (pv 3))
  | ((with_reducible show Tr.WE _ (.Name "_law_some" _) _ _ _); refine we_var 4 rfl ?_ (pv 4))
  | ((with_reducible show Tr.WE _ (.Name "_law_at" _) _ _ _); refine we_var 5 rfl ?_ (pv 5))
  | ((with_reducible show Tr.WE _ (.Name "_law_bad_here" _) _ _ _); refine we_var 6 rfl ?_ (pv 6))
  | ((with_reducible show Tr.WE _ (.Name "_law_spoilt" _) _ _ _); refine we_var 7 rfl ?_ (pv 7))
  | ((with_reducible show Tr.WE _ (.Name "_law_thing" _) _ _ _); refine we_var 8 rfl ?_ (pv 8))
  | ((with_reducible show Tr.WE _ (.Name "_law_event" _) _ _ _); refine we_var 9 rfl ?_ (pv 9)))
local macro_rules | `(tactic| walk_at "set") => `(tactic| first
  | ((with_reducible show WS _ (.Assign [.Name "_law_script" _] _ _) _ _ _); first | refine ws_set 0 hN rfl (Or.inl rfl) ?_ rfl | refine ws_set 0 hN rfl (Or.inr rfl) ?_ rfl)
  | ((with_reducible show WS _ (.Assign [.Name "_law_deal_here" _] _ _) _ _ _); first | refine ws_set 1 hN rfl (Or.inl rfl) ?_ rfl | refine ws_set 1 hN rfl (Or.inr rfl) ?_ rfl)
  | ((with_reducible show WS _ (.Assign [.Name "_law_good" _] _ _) _ _ _); first | refine ws_set 2 hN rfl (Or.inl rfl) ?_ rfl | refine ws_set 2 hN rfl (Or.inr rfl) ?_ rfl)
  | ((with_reducible show WS _ (.Assign [.Name "_law_turn" _] _ _) _ _ _); first | refine ws_set 3 hN rfl (Or.inl rfl) ?_ rfl | refine ws_set 3 hN rfl (Or.inr rfl) ?_ rfl)
  | ((with_reducible show WS _ (.Assign [.Name "_law_some" _] _ _) _ _ _); first | refine ws_set 4 hN rfl (Or.inl rfl) ?_ rfl | refine ws_set 4 hN rfl (Or.inr rfl) ?_ rfl)
  | ((with_reducible show WS _ (.Assign [.Name "_law_at" _] _ _) _ _ _); first | refine ws_set 5 hN rfl (Or.inl rfl) ?_ rfl | refine ws_set 5 hN rfl (Or.inr rfl) ?_ rfl)
  | ((with_reducible show WS _ (.Assign [.Name "_law_bad_here" _] _ _) _ _ _); first | refine ws_set 6 hN rfl (Or.inl rfl) ?_ rfl | refine ws_set 6 hN rfl (Or.inr rfl) ?_ rfl)
  | ((with_reducible show WS _ (.Assign [.Name "_law_spoilt" _] _ _) _ _ _); first | refine ws_set 7 hN rfl (Or.inl rfl) ?_ rfl | refine ws_set 7 hN rfl (Or.inr rfl) ?_ rfl)
  | ((with_reducible show WS _ (.Assign [.Name "_law_thing" _] _ _) _ _ _); first | refine ws_set 8 hN rfl (Or.inl rfl) ?_ rfl | refine ws_set 8 hN rfl (Or.inr rfl) ?_ rfl)
  | ((with_reducible show WS _ (.Assign [.Name "_law_event" _] _ _) _ _ _); first | refine ws_set 9 hN rfl (Or.inl rfl) ?_ rfl | refine ws_set 9 hN rfl (Or.inr rfl) ?_ rfl))
local macro_rules | `(tactic| walk_at "setC") => `(tactic| first
  | ((with_reducible show WS _ (.Assign [.Name "_law_script" _] (.List _ _) _) _ _ _); first | refine ws_set 0 hN rfl (Or.inl rfl) (we_lstC ?_) rfl | refine ws_set 0 hN rfl (Or.inr rfl) (we_lstC ?_) rfl)
  | ((with_reducible show WS _ (.Assign [.Name "_law_deal_here" _] (.List _ _) _) _ _ _); first | refine ws_set 1 hN rfl (Or.inl rfl) (we_lstC ?_) rfl | refine ws_set 1 hN rfl (Or.inr rfl) (we_lstC ?_) rfl)
  | ((with_reducible show WS _ (.Assign [.Name "_law_good" _] (.List _ _) _) _ _ _); first | refine ws_set 2 hN rfl (Or.inl rfl) (we_lstC ?_) rfl | refine ws_set 2 hN rfl (Or.inr rfl) (we_lstC ?_) rfl)
  | ((with_reducible show WS _ (.Assign [.Name "_law_turn" _] (.List _ _) _) _ _ _); first | refine ws_set 3 hN rfl (Or.inl rfl) (we_lstC ?_) rfl | refine ws_set 3 hN rfl (Or.inr rfl) (we_lstC ?_) rfl)
  | ((with_reducible show WS _ (.Assign [.Name "_law_some" _] (.List _ _) _) _ _ _); first | refine ws_set 4 hN rfl (Or.inl rfl) (we_lstC ?_) rfl | refine ws_set 4 hN rfl (Or.inr rfl) (we_lstC ?_) rfl)
  | ((with_reducible show WS _ (.Assign [.Name "_law_at" _] (.List _ _) _) _ _ _); first | refine ws_set 5 hN rfl (Or.inl rfl) (we_lstC ?_) rfl | refine ws_set 5 hN rfl (Or.inr rfl) (we_lstC ?_) rfl)
  | ((with_reducible show WS _ (.Assign [.Name "_law_bad_here" _] (.List _ _) _) _ _ _); first | refine ws_set 6 hN rfl (Or.inl rfl) (we_lstC ?_) rfl | refine ws_set 6 hN rfl (Or.inr rfl) (we_lstC ?_) rfl)
  | ((with_reducible show WS _ (.Assign [.Name "_law_spoilt" _] (.List _ _) _) _ _ _); first | refine ws_set 7 hN rfl (Or.inl rfl) (we_lstC ?_) rfl | refine ws_set 7 hN rfl (Or.inr rfl) (we_lstC ?_) rfl)
  | ((with_reducible show WS _ (.Assign [.Name "_law_thing" _] (.List _ _) _) _ _ _); first | refine ws_set 8 hN rfl (Or.inl rfl) (we_lstC ?_) rfl | refine ws_set 8 hN rfl (Or.inr rfl) (we_lstC ?_) rfl)
  | ((with_reducible show WS _ (.Assign [.Name "_law_event" _] (.List _ _) _) _ _ _); first | refine ws_set 9 hN rfl (Or.inl rfl) (we_lstC ?_) rfl | refine ws_set 9 hN rfl (Or.inr rfl) (we_lstC ?_) rfl))
local macro_rules | `(tactic| walk_at "tgt") => `(tactic| first
  | ((with_reducible show WG _ (.Name "_law_script" _) _ _ _ _); first | refine wg_name 0 ?_ (pg_name (i := 0) hN rfl (Or.inl rfl)) | refine wg_name 0 ?_ (pg_name (i := 0) hN rfl (Or.inr rfl)))
  | ((with_reducible show WG _ (.Name "_law_deal_here" _) _ _ _ _); first | refine wg_name 1 ?_ (pg_name (i := 1) hN rfl (Or.inl rfl)) | refine wg_name 1 ?_ (pg_name (i := 1) hN rfl (Or.inr rfl)))
  | ((with_reducible show WG _ (.Name "_law_good" _) _ _ _ _); first | refine wg_name 2 ?_ (pg_name (i := 2) hN rfl (Or.inl rfl)) | refine wg_name 2 ?_ (pg_name (i := 2) hN rfl (Or.inr rfl)))
  | ((with_reducible show WG _ (.Name "_law_turn" _) _ _ _ _); first | refine wg_name 3 ?_ (pg_name (i := 3) hN rfl (Or.inl rfl)) | refine wg_name 3 ?_ (pg_name (i := 3) hN rfl (Or.inr rfl)))
  | ((with_reducible show WG _ (.Name "_law_some" _) _ _ _ _); first | refine wg_name 4 ?_ (pg_name (i := 4) hN rfl (Or.inl rfl)) | refine wg_name 4 ?_ (pg_name (i := 4) hN rfl (Or.inr rfl)))
  | ((with_reducible show WG _ (.Name "_law_at" _) _ _ _ _); first | refine wg_name 5 ?_ (pg_name (i := 5) hN rfl (Or.inl rfl)) | refine wg_name 5 ?_ (pg_name (i := 5) hN rfl (Or.inr rfl)))
  | ((with_reducible show WG _ (.Name "_law_bad_here" _) _ _ _ _); first | refine wg_name 6 ?_ (pg_name (i := 6) hN rfl (Or.inl rfl)) | refine wg_name 6 ?_ (pg_name (i := 6) hN rfl (Or.inr rfl)))
  | ((with_reducible show WG _ (.Name "_law_spoilt" _) _ _ _ _); first | refine wg_name 7 ?_ (pg_name (i := 7) hN rfl (Or.inl rfl)) | refine wg_name 7 ?_ (pg_name (i := 7) hN rfl (Or.inr rfl)))
  | ((with_reducible show WG _ (.Name "_law_thing" _) _ _ _ _); first | refine wg_name 8 ?_ (pg_name (i := 8) hN rfl (Or.inl rfl)) | refine wg_name 8 ?_ (pg_name (i := 8) hN rfl (Or.inr rfl)))
  | ((with_reducible show WG _ (.Name "_law_event" _) _ _ _ _); first | refine wg_name 9 ?_ (pg_name (i := 9) hN rfl (Or.inl rfl)) | refine wg_name 9 ?_ (pg_name (i := 9) hN rfl (Or.inr rfl))))
local macro_rules | `(tactic| walk_at "par") => `(tactic| first
  | ((with_reducible show WS _ (.Assign [.Tuple [.Name "_law_at" _, .Name "_law_bad_here" _] _ _] _ _) _ _ _); refine ws_par 5 6 hN rfl rfl (by decide) rfl rfl rfl ?_))
local macro_rules | `(tactic| walk_at "lc") => `(tactic| first
  | ((with_reducible show Tr.WE _ (.ListComp _ [⟨.Name "_law_event" _, _, [], _⟩] _ _) _ _ _); refine we_lc [("_law_event", 9)] (.one 9) rfl hN (blkOk_by rfl) (fun _ _ _ _ _ => pg_name (i := 9) hN rfl (Or.inl rfl)) (by decide) ?_))
local macro_rules | `(tactic| walk_at "slc") => `(tactic| first
  | ((with_reducible show WS _ (.Assign [.Name "_law_some" _] (.ListComp _ [⟨.Name "_law_event" _, _, [], _⟩] _ _) _) _ _ _); refine ws_setLc [("_law_event", 9)] (.one 9) 4 rfl hN rfl rfl (sw_true rfl rfl rfl rfl) (blkOk_by rfl) (fun _ _ _ _ _ => pg_name (i := 9) hN rfl (Or.inl rfl)) (by decide) ?_))
-- def: law
theorem law_ok (T : Tp P K mg) : FnG P w K mg base 8 T.f_law T.d_law ["_law_script"] lawFS := by
  refine fnT T.F_law sc_law (fun ds C Q Qx h => ?_) (fun cdv A outer s H E X ds C Q hr h => ?_)
  · obtain ⟨ns, rfl, _⟩ := h; rfl
  · obtain ⟨ns, rfl, hl, rfl, hq⟩ := h
    have hN := sc_law.nd
    have hu := hu_G hr
    walk_at "w"
    refine asks_deal hl (by decide) (by decide) fun p q qs m hd => ?_
    walk_at "s"
    walk_at "setC"
    walk_at "w"
    intro al
    walk_at "w"
    refine ws_perm (C := (al, .lst (goodEv.map D.str)) :: (dealC p q qs m ++ [])) (C' := dealC p q qs m ++ [(al, .lst (goodEv.map D.str))]) (List.perm_middle (l₁ := dealC p q qs m) (l₂ := [])).symm ?_
    refine ws_for rfl ?_
    walk_at "it"
    refine ⟨by decide, by decide, ?_⟩
    refine forW_inv (fun i ρ C1 => ∃ (qs : List Int) (m : Int) (x3 x4 x5 x6 x7 x8 x9 : Option D), DealOk qs m ∧ C1 = dealC p q qs m ++ [(al, .lst (goodEv.map D.str))] ∧
      ρ = [some (.lst (ns.map .int)), some (.raw (.ref p)), some (.raw (.ref al)), x3, x4, x5, x6, x7, x8, x9]) (fun _ _ _ _ => trivial) ?_ ?_ ⟨qs, m, none, none, none, none, none, none, none, hd, rfl, rfl⟩
    · clear hd
      rintro i dd ρ C1 hi ⟨qs, m, x3, x4, x5, x6, x7, x8, x9, hd, rfl, rfl⟩
      walk_at "w"
      walk_at "it"
      refine asks_draw hd (by decide) (by decide) fun n qs1 m1 hn0 hn1 hd1 => ?_
      refine ⟨n, rfl, by omega, by omega, ?_⟩
      refine lcw_inv (fun i acc C1 => ∃ (xs : List Str) (qs : List Int) (m : Int), DealOk qs m ∧ acc = xs.map D.str ∧ xs.length = i ∧ i ≤ 5 ∧ (∀ x ∈ xs, x ∈ goodEv) ∧ C1 = dealC p q qs m ++ [(al, .lst (goodEv.map D.str))]) (fun _ _ _ _ => trivial) ?_ ?_ ⟨[], qs1, m1, hd1, rfl, rfl, by decide, by simp, rfl⟩
      · rintro i2 d2 acc C1 hi2 ⟨xs, qs2, m2, hd2, rfl, rfl, hl14, hx, rfl⟩
        have hlt : xs.length < 5 := by
          have := (List.getElem?_eq_some_iff.mp hi2).1
          rw [rangeD_len] at this
          omega
        refine ⟨_, rfl, fun s1 H1 Ca cl fp => ?_⟩
        walk_at "w"
        refine asks_draw hd2 (by decide) (by decide) fun f qs3 m3 hf0 hf1 hd3 => ?_
        obtain ⟨d, h2, h3⟩ := atI_in (l := goodEv.map D.str) hf0 hf1
        obtain ⟨s, h4, rfl⟩ := List.mem_map.mp h3
        refine iw_lst (.c (i := 2) rfl) h2 ⟨by (simp; try omega), xs ++ [s], qs3, m3, hd3, by simp, by simp, by omega, fun x hx' => ?_, rfl⟩
        rcases List.mem_append.mp hx' with h | h
        · exact hx x h
        · rw [List.mem_singleton.mp h]; exact h4
      rintro acc C1 ⟨xs, qs2, m2, hd2, rfl, hxl, hl14, hx, rfl⟩
      replace hl14 : xs.length ≤ 5 := by omega
      clear hxl hn0 hn1 hd1 hd hi
      walk_at "w"
      refine asks_draw hd2 (by walk_at "len") (by walk_at "len") fun at_ qs3 m3 ha0 ha1 hd3 => ?_
      simp only [List.length_map] at ha1
      have hxg : badAt (xs.map D.str) = none := badAt_good fun s hs => (goodEv_ok s (hx s hs)).1
      have anyx : ∀ C, ∀ x ∈ xs.map D.str, AnyD K C x := fun C x h => by
        obtain ⟨s, hs, rfl⟩ := List.mem_map.mp h
        exact any_str (Nat.le_trans (goodEv_ok s (hx s hs)).2 (by decide))
      walk_at "w"
      refine asks_draw hd3 (by decide) (by decide) fun f qs4 m4 hf0 hf1 hd4 => ?_
      walk_at "w"
      refine ite_join (fun bd C' => ∃ qs m, DealOk qs m ∧ (∀ C, AnyD K C bd) ∧ isNon (evD bd) = true ∧ C' = dealC p q qs m ++ [(al, .lst (goodEv.map D.str))]) (fun _ => ?_) (fun _ => ?_) ?_
      · walk_at "w"
        refine asks_any (n := 3) hd4 fun d qs5 m5 ha hd5 => ⟨qs5, m5, hd5, fun C => ha.any, ha.ev, rfl⟩
      · walk_at "w"
        refine ⟨dealC p q qs4 m4, _, List.Perm.refl _, ⟨p, q, qs4, m4, rfl, hd4, rfl, fun s qs5 m5 hs hd5 => ⟨qs5, m5, hd5, fun C => any_str (Nat.le_trans (badEv_ok s hs).2 (by decide)), (badEv_ok s hs).1, rfl⟩⟩⟩
      rintro bd C' ⟨qs5, m5, hd5, hba, hbe, rfl⟩
      have h1 : badAt ((xs.map D.str).take at_.toNat ++ [bd] ++ (xs.map D.str).drop at_.toNat) = some at_.toNat := by
        have h1 : badAt ((xs.map D.str).take at_.toNat) = none := by rw [← List.map_take]; exact badAt_good fun s hs => (goodEv_ok s (hx s (List.mem_of_mem_take hs))).1
        rw [List.append_assoc]
        have := badAt_app (ys := (xs.map D.str).drop at_.toNat) h1 hbe
        rw [List.length_take, List.length_map] at this
        rw [show min at_.toNat xs.length = at_.toNat by omega] at this
        exact this
      have hlen : (xs.map D.str).length ≤ 5 := by simpa using hl14
      generalize exs : xs.map D.str = ys at *
      walk_at "w"
      rw [cutD_to ha0]
      walk_at "w"
      refine ow_cat .l .l (by simp; omega) ?_
      walk_at "w"
      rw [cutD_from ha0]
      refine ow_cat .l .l (by simp; omega) ?_
      walk_at "w"
      have hany : ∀ C, ∀ x ∈ ys.take at_.toNat ++ [bd] ++ ys.drop at_.toNat, AnyD K C x := fun C x h => by
        rcases List.mem_append.mp h with h | h
        · rcases List.mem_append.mp h with h | h
          · exact anyx C x (List.mem_of_mem_take h)
          · rw [List.mem_singleton.mp h]; exact hba C
        · exact anyx C x (List.mem_of_mem_drop h)
      have h2 : badAt (ys.take at_.toNat ++ [bd] ++ ys.drop at_.toNat ++ [.str "zz"]) = some at_.toNat := by
        unfold badAt at h1 ⊢
        rw [List.findIdx?_append, h1]
        rfl
      have hlen2 : (ys.take at_.toNat ++ [bd] ++ ys.drop at_.toNat).length ≤ 6 := by simp; omega
      generalize ys.take at_.toNat ++ [bd] ++ ys.drop at_.toNat = zs at *
      refine asks_tried .l (hany _) (fun h => by rw [h1] at h; cases h) (fun i h => ?_)
      rw [h1] at h; cases h
      walk_at "W"
      rw [if_neg (show ¬ (!decide (((at_.toNat : Nat) : Int) = at_)) = true by simp; omega)]
      walk_at "W"
      refine asks_tried .t (fun x h => ?_) (fun h => by rw [h2] at h; cases h) (fun i h => ?_)
      · rcases List.mem_append.mp h with h | h
        · exact hany _ x h
        · rw [List.mem_singleton.mp h]; exact any_str (by decide)
      rw [h2] at h; cases h
      walk_at "W"
      rw [if_neg (show ¬ (!decide (((at_.toNat : Nat) : Int) = at_)) = true by simp; omega)]
      walk_at "W"
      refine asks_tried .l (anyx _) (fun _ => ?_) (fun i h => by rw [hxg] at h; cases h)
      walk_at "x"
      refine asks_any (n := 3) hd5 fun th qs6 m6 hth hd6 => ?_
      walk_at "w"
      rcases hth.seq2 (K := K) with hf | ⟨ds, hs, hdl, hda⟩
      · have hf6 := hf (dealC p q qs6 m6 ++ [(al, Cell.lst (List.map D.str goodEv))])
        obtain ⟨t, ht, hk⟩ := id hf6
        refine cw_isiT (.cons (.ty _) (.cons (.ty _) .nil)) ht hk ?_
        walk_at "x"
        refine asks_triedF hf6 ?_
        walk_at "x"
        refine cw_isiT (.cons (.ty _) (.cons (.ty _) .nil)) ht hk ?_
        walk_at "x"
        exact ⟨qs6, m6, _, _, _, _, _, _, _, hd6, rfl, rfl⟩
      · have hs6 := hs (dealC p q qs6 m6 ++ [(al, Cell.lst (List.map D.str goodEv))])
        obtain ⟨t, ht, hk⟩ := id (seq_ty (K := K) hs6)
        have hda6 : ∀ x ∈ ds, AnyD K (dealC p q qs6 m6 ++ [(al, Cell.lst (List.map D.str goodEv))]) x := fun x hx => (hda x hx).1 _
        refine cw_isiT (.cons (.ty _) (.cons (.ty _) .nil)) ht hk ?_
        walk_at "x"
        refine cw_isiT (.cons (.ty _) (.cons (.ty _) .nil)) ht hk ?_
        walk_at "w"
        cases ds with
        | nil =>
          refine asks_tried hs6 hda6 (fun _ => ?_) (fun i h => by cases h)
          walk_at "x"
          refine ow_ne hu (pyR_t rfl) (pyR_t rfl) rfl rfl ?_
          walk_at "x"
          refine iteN (show ¬ (!PyData.eqv .none .none) = true by decide) ?_
          walk_at "x"
          exact ⟨qs6, m6, _, _, _, _, _, _, _, hd6, rfl, rfl⟩
        | cons y ds =>
          have hb : badAt (y :: ds) = some 0 := by
            unfold badAt
            rw [List.findIdx?_cons, (hda y (.head _)).2]
            rfl
          refine asks_tried hs6 hda6 (fun h => by rw [hb] at h; cases h) (fun i h => ?_)
          rw [hb] at h; cases h
          walk_at "x"
          exact ⟨qs6, m6, _, _, _, _, _, _, _, hd6, rfl, rfl⟩
    · rintro ρ C1 ⟨qs, m, x3, x4, x5, x6, x7, x8, x9, hd, rfl, rfl⟩
      walk_at "w"
      have g1 : badAt (goodEv.map D.str) = none := badAt_good fun s hs => (goodEv_ok s hs).1
      have g2 : ∀ C, ∀ x ∈ goodEv.map D.str, AnyD K C x := fun C x h => by
        obtain ⟨s, hs, rfl⟩ := List.mem_map.mp h
        exact any_str (Nat.le_trans (goodEv_ok s hs).2 (by decide))
      refine asksM_all fun z => ⟨z, _, true, _, rfl, rfl, sq_seq (.c (i := 3) rfl), (fun h => by cases h), fun _ => ⟨_, .c (i := 3) rfl, g2 _, fun hb => ⟨rfl, ?_⟩, fun i hb => by rw [g1] at hb; cases hb⟩⟩
      walk_at "x"
      refine asks_triedF ⟨_, .ci (.head _) T.i_Weaving, kitAny_cons (b := false) T.kin_Weaving_list (fun _ => kitAny_cons (b := false) T.kin_Weaving_tuple (fun _ => rfl) (fun h => by cases h)) (fun h => by cases h)⟩ ?_
      walk_at "x"
      refine asks_triedF (sq_ty (.str _) (.inr ⟨by decide +kernel, by decide +kernel⟩)) ?_
      walk_at "x"
      refine asks_tried (.c (i := 3) rfl) (g2 _) (fun _ => ?_) (fun i hb => by rw [g1] at hb; cases hb)
      walk_at "x"
      exact hq _

end
end
set_option hygiene true
end Kk
open PySem PySem.W PyProof.Rows
set_option maxRecDepth 100000 in
set_option maxHeartbeats 0 in
theorem PySem.Challenge.cw_hastypage_k17_weavings_refused_holds : PySem.Challenge.rw_hastypage_k17_weavings_refused.Holds := by
  w_on; o_law; k_head; (case hw => w_witness2)
  k_fill
  refine Tr.law_walk (l := PySem.Challenge.rw_hastypage_k17_weavings_refused) (k := 8) (x := "_law_script") rfl rfl ⟨⟨rfl, by decide, by decide⟩, rfl⟩ (fun w h Y => PySem.W.kIn_of Y) ?F
  case F =>
    intro w mg fa h KX G hmg
    obtain ⟨T, eT⟩ : ∃ T : Kk.Tp PySem.Challenge.pw_hastypage_k17_weavings_refused _ mg, T.f_law = fa := by
      refine' Kk.tp_fa hmg (Kk.tp_mk KX G ?cnn ?ctt ?a_Weaving ?pg_Weaving ?hd_Weaving ?po_Weaving ?sa_Weaving ?ca_Weaving ?cm_Weaving ?na_Weaving_events ?ss_Weaving_tuple ?ss_Weaving_str ?sk_Weaving_list ?sk_Weaving_tuple ?cl_Weaving ?ty_Weaving ?a_is_name ?l_is_name ?cc_is_name ?k_is_name ?a_is_sequence ?l_is_sequence ?cc_is_sequence ?k_is_sequence ?a_is_decimal ?l_is_decimal ?cc_is_decimal ?k_is_decimal ?a_event_in ?l_event_in ?cc_event_in ?k_event_in ?a__law_deal ?l__law_deal ?cc__law_deal ?k__law_deal ?a__law_draw ?l__law_draw ?cc__law_draw ?k__law_draw ?a__law_any ?l__law_any ?cc__law_any ?k__law_any ?a__law_tried ?l__law_tried ?cc__law_tried ?k__law_tried ?a__law_bad ?l__law_bad ?cc__law_bad ?k__law_bad ?a_law ?l_law ?cc_law ?k_law ?a_Weaving_init ?n_Weaving_init ?mm_Weaving ?kc_Weaving ?l_Weaving_init ?lT_Weaving_init ?cc_Weaving_init ?k_Weaving_init ?a_HastyError ?cl_HastyError ?ty_HastyError ?zt_super ?zz_super ?zz_any ?a_InvalidEvent ?lc_InvalidEvent ?rv_InvalidEvent ?sa_InvalidEvent ?ex_InvalidEvent ?ty_InvalidEvent ?kc_InvalidEvent ?ga_InvalidEvent ?gg_InvalidEvent ?hd_InvalidEvent ?ca_InvalidEvent ?cm_InvalidEvent ?na_InvalidEvent_at ?ai_InvalidEvent ?ti_InvalidEvent ?lf_InvalidEvent ?ld_InvalidEvent ?hv_InvalidEvent ?hf_InvalidEvent ?ci_InvalidEvent ?lk_InvalidEvent ?si_InvalidEvent ?sv_InvalidEvent ?su_InvalidEvent_InvalidEvent ?su_InvalidEvent_HastyError ?nq_InvalidEvent_HastyError ?z_isinstance ?z_str ?z_len ?z_all ?z_list ?z_tuple ?z_int ?z_enumerate ?z_abs ?z_range ?le_W ?a_SMALL ?a_BARRED ?l_B)
      (case cnn => k_is)
      (case ctt => k_is)
      (case a_Weaving => k_is)
      (case pg_Weaving => k_is)
      (case hd_Weaving => k_is)
      (case po_Weaving => k_is)
      (case sa_Weaving => k_is)
      (case ca_Weaving => k_is)
      (case cm_Weaving => k_is)
      (case na_Weaving_events => k_is)
      (case ss_Weaving_tuple => k_is)
      (case ss_Weaving_str => k_is)
      (case sk_Weaving_list => k_is)
      (case sk_Weaving_tuple => k_is)
      (case cl_Weaving => k_is)
      (case ty_Weaving => k_is)
      (case a_is_name => k_is)
      (case l_is_name => k_is)
      (case cc_is_name => k_is)
      (case k_is_name => k_is)
      (case a_is_sequence => k_is)
      (case l_is_sequence => k_is)
      (case cc_is_sequence => k_is)
      (case k_is_sequence => k_is)
      (case a_is_decimal => k_is)
      (case l_is_decimal => k_is)
      (case cc_is_decimal => k_is)
      (case k_is_decimal => k_is)
      (case a_event_in => k_is)
      (case l_event_in => k_is)
      (case cc_event_in => k_is)
      (case k_event_in => k_is)
      (case a__law_deal => k_is)
      (case l__law_deal => k_is)
      (case cc__law_deal => k_is)
      (case k__law_deal => k_is)
      (case a__law_draw => k_is)
      (case l__law_draw => k_is)
      (case cc__law_draw => k_is)
      (case k__law_draw => k_is)
      (case a__law_any => k_is)
      (case l__law_any => k_is)
      (case cc__law_any => k_is)
      (case k__law_any => k_is)
      (case a__law_tried => k_is)
      (case l__law_tried => k_is)
      (case cc__law_tried => k_is)
      (case k__law_tried => k_is)
      (case a__law_bad => k_is)
      (case l__law_bad => k_is)
      (case cc__law_bad => k_is)
      (case k__law_bad => k_is)
      (case a_law => k_is)
      (case l_law => k_is)
      (case cc_law => k_is)
      (case k_law => k_is)
      (case a_Weaving_init => k_is)
      (case n_Weaving_init => k_is)
      (case mm_Weaving => k_is)
      (case kc_Weaving => k_is)
      (case l_Weaving_init => k_is)
      (case lT_Weaving_init => k_is)
      (case cc_Weaving_init => k_is)
      (case k_Weaving_init => k_is)
      (case a_HastyError => k_is)
      (case cl_HastyError => k_is)
      (case ty_HastyError => k_is)
      (case zt_super => first | rfl | decide +kernel | k_is)
      (case zz_super => k_is)
      (case zz_any => k_is)
      (case a_InvalidEvent => k_is)
      (case lc_InvalidEvent => k_is)
      (case rv_InvalidEvent => first | rfl | decide +kernel | k_is)
      (case sa_InvalidEvent => k_is)
      (case ex_InvalidEvent => k_is)
      (case ty_InvalidEvent => k_is)
      (case kc_InvalidEvent => k_is)
      (case ga_InvalidEvent => k_is)
      (case gg_InvalidEvent => k_is)
      (case hd_InvalidEvent => k_is)
      (case ca_InvalidEvent => k_is)
      (case cm_InvalidEvent => k_is)
      (case na_InvalidEvent_at => k_is)
      (case ai_InvalidEvent => k_is)
      (case ti_InvalidEvent => k_is)
      (case lf_InvalidEvent => k_is)
      (case ld_InvalidEvent => k_is)
      (case hv_InvalidEvent => first | rfl | decide +kernel | k_is)
      (case hf_InvalidEvent => first | rfl | decide +kernel | k_is)
      (case ci_InvalidEvent => k_is)
      (case lk_InvalidEvent => k_is)
      (case si_InvalidEvent => ks_is)
      (case sv_InvalidEvent => k_is)
      (case su_InvalidEvent_InvalidEvent => k_is)
      (case su_InvalidEvent_HastyError => k_is)
      (case nq_InvalidEvent_HastyError => first | rfl | decide +kernel | k_is)
      (case z_isinstance => k_is)
      (case z_str => k_is)
      (case z_len => k_is)
      (case z_all => k_is)
      (case z_list => k_is)
      (case z_tuple => k_is)
      (case z_int => k_is)
      (case z_enumerate => k_is)
      (case z_abs => k_is)
      (case z_range => k_is)
      (case le_W => k_is)
      (case a_SMALL => k_is)
      (case a_BARRED => k_is)
      (case l_B => k_is)
    subst eT
    exact ⟨T.d_law, Kk.law_binds T, fun base _ _ => Kk.law_ok T⟩
