import PyProof.Rows.All
import Wide.All
import OpenK.AllK
import Wide.FinOn
import HandS.ForMost
import HandS.Exc
import HandS.TryOnly
import HandS.ExcOwn
import HandS.WordsExc
import HandS.Defaults
import HandS.CallSlots
import HandS.Style
import HandS.TupAny
import HandS.IsInst
import HandS.FStr
import HandS.RaiseMore
import HandS.Ends
import HandS.Codes
import HandS.Iter
import HandS.Walk
import KE.GoesMore
import PyProof.EnumMake
import HandS.Conv
import KE.KSuper
import KE.KExcSuper
import HandS.ExcInit
import HandS.ExcField
import HandS.ExcIs
import KE.KExcIs
import HandS.ClsMeth
import HandS.Text
import HandS.Dict
import HandS.DictComp
import KE.KStar
import HandS.Flow
import HandS.Strs
import PyProof.FactsAll.tuple_0
import PyProof.FactsAll.tuple_2
import HandS.OwnEq
import KE.KOpsOwn
import PySem.Challenge.RW_hastypage_k04_targets_told
set_option Elab.async false
set_option linter.all false
set_option maxRecDepth 100000
set_option maxHeartbeats 2000000
namespace Tr
open PySem L2

/-- plain data: what a value is, whatever stands where in the heap -/
inductive D where
  | non
  | bl (b : Bool)
  | int (i : Int)
  | str (s : Str)
  | lst (ds : List D)
  | tup (ds : List D)
  | dic (ks : List Key) (ds : List D)
  | ins (C : Addr) (ns : List Str) (ds : List D)
  | raw (v : V)
  | tpn (ds : List D)

/-- a tuple that has no dict -/
def NdT (H : Hp) (a : Addr) (vs : List V) : Prop := ∃ o, H a = some (.frz o (.tup vs)) ∧ o.dict = none

mutual
/-- the value v is the datum d -/
def Rep (K : W.Frag) (H : Hp) : D → V → Prop
  | .non, v => v = .non
  | .bl b, v => v = .bl b
  | .int i, v => v = .int i
  | .str s, v => v = .str s
  | .lst ds, v => ∃ a vs, v = .ref a ∧ SqL K H a vs ∧ Reps K H ds vs
  | .tup ds, v => ∃ a vs, v = .ref a ∧ SqT K H a vs ∧ Reps K H ds vs
  | .dic ks ds, v => ∃ a vs, v = .ref a ∧ Rd H a (.dK (ks.zip vs)) ∧ ks.length = vs.length ∧ Reps K H ds vs
  | .ins C ns ds, v => ∃ a dx vs, v = .ref a ∧ H a = some (.ins C dx (ns.zip vs)) ∧ ns.length = vs.length ∧ Reps K H ds vs
  | .raw w, v => v = w
  | .tpn ds, v => ∃ a vs, v = .ref a ∧ NdT H a vs ∧ Reps K H ds vs
def Reps (K : W.Frag) (H : Hp) : List D → List V → Prop
  | [], vs => vs = []
  | d :: ds, vs => ∃ v r, vs = v :: r ∧ Rep K H d v ∧ Reps K H ds r
end

theorem Same.rd {H H' : Hp} {a : Addr} {u : HO} (e : Same H H') (h : Rd H a u) : Rd H' a u := by
  rcases h with h | ⟨o, h⟩
  · exact .inl (e _ _ h)
  · exact .inr ⟨o, e _ _ h⟩
theorem Same.sqL {K : W.Frag} {H H' : Hp} {a : Addr} {xs : List V} (e : Same H H') (h : SqL K H a xs) : SqL K H' a xs := e.seq h
theorem Same.sqT {K : W.Frag} {H H' : Hp} {a : Addr} {xs : List V} (e : Same H H') (h : SqT K H a xs) : SqT K H' a xs := by
  rcases h with h | h
  · exact .inl (Same.rd e h)
  · exact .inr h

mutual
theorem Rep.mono {K : W.Frag} {H H' : Hp} (e : Same H H') : ∀ {d : D} {v : V}, Rep K H d v → Rep K H' d v
  | .non, _, h => h
  | .bl _, _, h => h
  | .int _, _, h => h
  | .str _, _, h => h
  | .lst _, _, ⟨a, vs, h1, h2, h3⟩ => ⟨a, vs, h1, Same.sqL e h2, Reps.mono e h3⟩
  | .tup _, _, ⟨a, vs, h1, h2, h3⟩ => ⟨a, vs, h1, Same.sqT e h2, Reps.mono e h3⟩
  | .dic _ _, _, ⟨a, vs, h1, h2, h4, h3⟩ => ⟨a, vs, h1, Same.rd e h2, h4, Reps.mono e h3⟩
  | .ins _ _ _, _, ⟨a, dx, vs, h1, h2, h4, h3⟩ => ⟨a, dx, vs, h1, e _ _ h2, h4, Reps.mono e h3⟩
  | .raw _, _, h => h
  | .tpn _, _, ⟨a, vs, h1, ⟨o, h2, h4⟩, h3⟩ => ⟨a, vs, h1, ⟨o, e _ _ h2, h4⟩, Reps.mono e h3⟩
theorem Reps.mono {K : W.Frag} {H H' : Hp} (e : Same H H') : ∀ {ds : List D} {vs : List V}, Reps K H ds vs → Reps K H' ds vs
  | [], _, h => h
  | _ :: _, _, ⟨v, r, h1, h2, h3⟩ => ⟨v, r, h1, Rep.mono e h2, Reps.mono e h3⟩
end

section
variable {K : W.Frag} {H H' : Hp}
theorem Reps.nil : Reps K H [] [] := rfl
theorem Reps.cons {d : D} {v : V} {ds : List D} {vs : List V} (h : Rep K H d v) (t : Reps K H ds vs) : Reps K H (d :: ds) (v :: vs) := ⟨v, vs, rfl, h, t⟩
theorem Reps.length : ∀ {ds : List D} {vs : List V}, Reps K H ds vs → ds.length = vs.length
  | [], _, h => by cases h; rfl
  | _ :: _, _, ⟨_, _, h1, _, h3⟩ => by subst h1; simp [Reps.length h3]
theorem Reps.append : ∀ {ds es : List D} {vs ws : List V}, Reps K H ds vs → Reps K H es ws → Reps K H (ds ++ es) (vs ++ ws)
  | [], _, _, _, h, t => by cases h; exact t
  | _ :: _, _, _, _, ⟨v, r, h1, h2, h3⟩, t => by subst h1; exact ⟨v, _, rfl, h2, Reps.append h3 t⟩
theorem Reps.get : ∀ {ds : List D} {vs : List V} {i : Nat} {d : D}, Reps K H ds vs → ds[i]? = some d → ∃ v, vs[i]? = some v ∧ Rep K H d v
  | [], _, _, _, _, e => by simp at e
  | _ :: _, _, 0, _, ⟨v, r, h1, h2, h3⟩, e => by subst h1; simp at e; subst e; exact ⟨v, rfl, h2⟩
  | _ :: _, _, i + 1, _, ⟨v, r, h1, h2, h3⟩, e => by
    subst h1
    obtain ⟨u, q1, q2⟩ := Reps.get (i := i) h3 (by simpa using e)
    exact ⟨u, by simpa using q1, q2⟩
theorem Reps.getV {ds : List D} {vs : List V} {i : Nat} {v : V} (h : Reps K H ds vs) (e : vs[i]? = some v) : ∃ d, ds[i]? = some d ∧ Rep K H d v := by
  have hl := h.length
  have hi : i < ds.length := by rw [hl]; exact (List.getElem?_eq_some_iff.mp e).1
  obtain ⟨u, q1, q2⟩ := h.get (i := i) (d := ds[i]) (by simp [hi])
  rw [e] at q1; cases q1
  exact ⟨_, by simp [hi], q2⟩
theorem Reps.take : ∀ {ds : List D} {vs : List V} (n : Nat), Reps K H ds vs → Reps K H (ds.take n) (vs.take n)
  | _, _, 0, _ => by simp; exact Reps.nil
  | [], _, n + 1, h => by cases h; exact Reps.nil
  | _ :: _, _, n + 1, ⟨v, r, h1, h2, h3⟩ => by subst h1; exact ⟨v, _, rfl, h2, Reps.take n h3⟩
theorem Reps.drop : ∀ {ds : List D} {vs : List V} (n : Nat), Reps K H ds vs → Reps K H (ds.drop n) (vs.drop n)
  | _, _, 0, h => by simpa using h
  | [], _, n + 1, h => by cases h; exact Reps.nil
  | _ :: _, _, n + 1, ⟨v, r, h1, h2, h3⟩ => by subst h1; exact Reps.drop n h3
theorem Reps.set {d : D} {v : V} (h : Rep K H d v) : ∀ {ds : List D} {vs : List V} (i : Nat), Reps K H ds vs → Reps K H (ds.set i d) (vs.set i v)
  | [], _, _, q => by cases q; exact Reps.nil
  | _ :: _, _, 0, ⟨_, _, h1, _, h3⟩ => by subst h1; exact ⟨_, _, rfl, h, h3⟩
  | _ :: _, _, i + 1, ⟨_, _, h1, h2, h3⟩ => by subst h1; exact ⟨_, _, rfl, h2, Reps.set h i h3⟩
theorem Reps.one {d : D} {vs : List V} (h : Reps K H [d] vs) : ∃ v, vs = [v] ∧ Rep K H d v := by
  obtain ⟨v, r, h1, h2, h3⟩ := h
  cases h3; exact ⟨v, h1, h2⟩
theorem Reps.two {d e : D} {vs : List V} (h : Reps K H [d, e] vs) : ∃ v w, vs = [v, w] ∧ Rep K H d v ∧ Rep K H e w := by
  obtain ⟨v, r, h1, h2, w, r2, h3, h4, h5⟩ := h
  cases h5; subst h3; exact ⟨v, w, h1, h2, h4⟩
theorem Reps.split : ∀ {ds es : List D} {ws : List V}, Reps K H (ds ++ es) ws → ∃ a b, ws = a ++ b ∧ Reps K H ds a ∧ Reps K H es b
  | [], _, ws, h => ⟨[], ws, rfl, Reps.nil, h⟩
  | _ :: _, _, _, ⟨v, r, h1, h2, h3⟩ => by
    obtain ⟨a, b, e1, e2, e3⟩ := Reps.split h3
    exact ⟨v :: a, b, by rw [h1, e1]; rfl, Reps.cons h2 e2, e3⟩
/-- ints, strs -/
theorem Reps.ints : ∀ (xs : List Int), Reps K H (xs.map D.int) (xs.map V.int)
  | [] => rfl
  | x :: r => ⟨_, _, rfl, rfl, Reps.ints r⟩
theorem Reps.strs : ∀ (xs : List Str), Reps K H (xs.map D.str) (xs.map V.str)
  | [] => rfl
  | x :: r => ⟨_, _, rfl, rfl, Reps.strs r⟩
theorem Reps.of_ints : ∀ {xs : List Int} {vs : List V}, Reps K H (xs.map D.int) vs → vs = xs.map V.int
  | [], _, h => h
  | x :: r, _, ⟨_, _, h1, h2, h3⟩ => by subst h1; rw [Reps.of_ints h3, h2]; rfl
theorem Reps.of_strs : ∀ {xs : List Str} {vs : List V}, Reps K H (xs.map D.str) vs → vs = xs.map V.str
  | [], _, h => h
  | x :: r, _, ⟨_, _, h1, h2, h3⟩ => by subst h1; rw [Reps.of_strs h3, h2]; rfl
end

/-! ### cells: what may still change -/
inductive Cell where
  | lst (ds : List D)
  | dK (ks : List Key) (ds : List D)
  | ins (C : Addr) (ns : List Str) (ds : List D)
abbrev Cells := List (Addr × Cell)
def CellOk (K : W.Frag) (H0 H : Hp) (a : Addr) : Cell → Prop
  | .lst ds => ∃ vs, H a = some (.lst vs) ∧ Reps K H0 ds vs
  | .dK ks ds => ∃ vs, H a = some (.dK (ks.zip vs)) ∧ ks.length = vs.length ∧ Reps K H0 ds vs
  | .ins C ns ds => ∃ dx vs, H a = some (.ins C dx (ns.zip vs)) ∧ ns.length = vs.length ∧ Reps K H0 ds vs
def Dom (C : Cells) (a : Addr) : Prop := ∃ c, (a, c) ∈ C
/-- H0: what stands still; C: what may change -/
structure CellsR (K : W.Frag) (H0 : Hp) (C : Cells) (H : Hp) : Prop where
  same : Same H0 H
  free : ∀ a, Dom C a → H0 a = none
  ok : ∀ a c, (a, c) ∈ C → CellOk K H0 H a c
  nd : (C.map (·.1)).Nodup
theorem CellOk.some {K : W.Frag} {H0 H : Hp} {a : Addr} {c : Cell} (h : CellOk K H0 H a c) : H a ≠ none := by
  cases c with
  | lst ds => obtain ⟨_, e, _⟩ := h; rw [e]; simp
  | dK ks ds => obtain ⟨_, e, _⟩ := h; rw [e]; simp
  | ins C ns ds => obtain ⟨_, _, e, _⟩ := h; rw [e]; simp
theorem CellOk.mono {K : W.Frag} {H0 H0' H H' : Hp} {a : Addr} {c : Cell} (h : CellOk K H0 H a c) (e : Same H0 H0') (ha : H' a = H a) : CellOk K H0' H' a c := by
  cases c with
  | lst ds => obtain ⟨vs, q, r⟩ := h; exact ⟨vs, ha.trans q, r.mono e⟩
  | dK ks ds => obtain ⟨vs, q, l, r⟩ := h; exact ⟨vs, ha.trans q, l, r.mono e⟩
  | ins C ns ds => obtain ⟨dx, vs, q, l, r⟩ := h; exact ⟨dx, vs, ha.trans q, l, r.mono e⟩
/-- a step: what stands still grows, nothing changes but the cells -/
structure Stp (H0 : Hp) (C : Cells) (H : Hp) (H0' : Hp) (C' : Cells) (H' : Hp) : Prop where
  base : Same H0 H0'
  fr : ∀ a o, H a = some o → ¬ Dom C a → H' a = some o
  own : ∀ a, H a ≠ none → H0 a = none → ¬ Dom C a → H0' a = none ∧ ¬ Dom C' a
theorem Stp.refl (H0 : Hp) (C : Cells) (H : Hp) : Stp H0 C H H0 C H := ⟨Same.refl _, fun _ _ h _ => h, fun _ _ h n => ⟨h, n⟩⟩
theorem Stp.trans {K : W.Frag} {H0 H1 H2 HA HB HC : Hp} {C0 C1 C2 : Cells} (a : Stp H0 C0 HA H1 C1 HB) (r : CellsR K H1 C1 HB) (b : Stp H1 C1 HB H2 C2 HC) : Stp H0 C0 HA H2 C2 HC where
  base := a.base.trans b.base
  fr := fun x o h n => by
    have h1 := a.fr x o h n
    refine b.fr x o h1 fun d => ?_
    by_cases e : H0 x = none
    · exact (a.own x (by rw [h]; simp) e n).2 d
    · obtain ⟨u, hu⟩ := Option.ne_none_iff_exists'.mp e
      have := r.free x d
      rw [a.base x u hu] at this; cases this
  own := fun x h e n => by
    obtain ⟨q1, q2⟩ := a.own x h e n
    obtain ⟨o, ho⟩ := Option.ne_none_iff_exists'.mp h
    exact b.own x (by rw [a.fr x o ho n]; simp) q1 q2

/-! the three small steps -/
section
variable {K : W.Frag} {H0 H : Hp} {C : Cells} {p : Addr} {o : HO}
theorem CellsR.nn (r : CellsR K H0 C H) (hp : H p = Option.none) : H0 p = Option.none := r.same.free hp
theorem CellsR.notDom (r : CellsR K H0 C H) (hp : H p = none) : ¬ Dom C p := fun ⟨c, hc⟩ => (r.ok p c hc).some hp
/-- something new that will stand still -/
theorem stp_new (r : CellsR K H0 C H) (hp : H p = none) : Stp H0 C H (upd H0 p o) C (upd H p o) ∧ CellsR K (upd H0 p o) C (upd H p o) := by
  have n0 := r.nn hp
  have s0 : Same H0 (upd H0 p o) := fun a u h => by rw [upd_ne (ne_of_none h n0)]; exact h
  refine ⟨⟨s0, fun a u h _ => by rw [upd_ne (ne_of_none h hp)]; exact h, fun a h e n => ⟨?_, n⟩⟩, ⟨fun a u h => ?_, fun a d => ?_, fun a c hc => ?_, r.nd⟩⟩
  · rw [upd_ne (show a ≠ p from fun z => h (by rw [z]; exact hp))]; exact e
  · by_cases q : a = p
    · subst q; rw [upd_same] at h ⊢; exact h
    · rw [upd_ne q] at h ⊢; exact r.same a u h
  · rw [upd_ne (show a ≠ p from fun z => r.notDom hp (by rw [← z]; exact d))]; exact r.free a d
  · exact (r.ok a c hc).mono s0 (upd_ne fun z => (r.ok a c hc).some (z ▸ hp))
/-- a new cell -/
theorem stp_cell {c : Cell} (r : CellsR K H0 C H) (hp : H p = none) (ok : CellOk K H0 (upd H p o) p c) : Stp H0 C H H0 ((p, c) :: C) (upd H p o) ∧ CellsR K H0 ((p, c) :: C) (upd H p o) := by
  have n0 := r.nn hp
  refine ⟨⟨Same.refl _, fun a u h _ => by rw [upd_ne (ne_of_none h hp)]; exact h, fun a h e n => ⟨e, fun ⟨c', hc⟩ => ?_⟩⟩, ⟨fun a u h => ?_, fun a d => ?_, fun a c' hc => ?_, ?_⟩⟩
  · rcases List.mem_cons.mp hc with z | z
    · injection z with z1 _; exact h (z1 ▸ hp)
    · exact n ⟨c', z⟩
  · rw [upd_ne (ne_of_none h n0)]; exact r.same a u h
  · obtain ⟨c', hc⟩ := d
    rcases List.mem_cons.mp hc with z | z
    · injection z with z1 _; subst z1; exact n0
    · exact r.free a ⟨c', z⟩
  · rcases List.mem_cons.mp hc with z | z
    · injection z with z1 z2; subst z1; subst z2; exact ok
    · exact (r.ok a c' z).mono (Same.refl _) (upd_ne fun q => (r.ok a c' z).some (q ▸ hp))
  · rw [List.map_cons, List.nodup_cons]
    refine ⟨fun hm => ?_, r.nd⟩
    obtain ⟨⟨a, c'⟩, h1, h2⟩ := List.mem_map.mp hm
    simp only at h2; subst h2
    exact r.notDom hp ⟨c', h1⟩
theorem dom_set {i : Nat} {c c' : Cell} {a : Addr} (hi : C[i]? = some (p, c)) : Dom (C.set i (p, c')) a ↔ Dom C a := by
  constructor
  · rintro ⟨x, hx⟩
    obtain ⟨j, hj⟩ := List.mem_iff_getElem?.mp hx
    rw [List.getElem?_set] at hj
    split at hj
    · split at hj
      · cases hj; exact ⟨c, List.mem_iff_getElem?.mpr ⟨i, hi⟩⟩
      · cases hj
    · exact ⟨x, List.mem_iff_getElem?.mpr ⟨j, hj⟩⟩
  · rintro ⟨x, hx⟩
    obtain ⟨j, hj⟩ := List.mem_iff_getElem?.mp hx
    by_cases e : i = j
    · subst e; rw [hi] at hj; cases hj
      exact ⟨c', List.mem_iff_getElem?.mpr ⟨i, by rw [List.getElem?_set_self (List.getElem?_eq_some_iff.mp hi).1]⟩⟩
    · exact ⟨x, List.mem_iff_getElem?.mpr ⟨j, by rw [List.getElem?_set_ne e]; exact hj⟩⟩
/-- a cell is written -/
theorem stp_write {i : Nat} {c c' : Cell} (r : CellsR K H0 C H) (hi : C[i]? = some (p, c)) (ok : CellOk K H0 (upd H p o) p c') :
    Stp H0 C H H0 (C.set i (p, c')) (upd H p o) ∧ CellsR K H0 (C.set i (p, c')) (upd H p o) := by
  have hm : (p, c) ∈ C := List.mem_iff_getElem?.mpr ⟨i, hi⟩
  have n0 := r.free p ⟨c, hm⟩
  refine ⟨⟨Same.refl _, fun a u h n => by rw [upd_ne (show a ≠ p from fun z => n ⟨c, by rw [z]; exact hm⟩)]; exact h, fun a h e n => ⟨e, fun d => n ((dom_set hi).mp d)⟩⟩, ⟨fun a u h => ?_, fun a d => r.free a ((dom_set hi).mp d), fun a c2 hc => ?_, ?_⟩⟩
  · rw [upd_ne (ne_of_none h n0)]; exact r.same a u h
  · obtain ⟨j, hj⟩ := List.mem_iff_getElem?.mp hc
    rw [List.getElem?_set] at hj
    split at hj
    · split at hj
      · cases hj; exact ok
      · cases hj
    · rename_i hne
      have hc2 : (a, c2) ∈ C := List.mem_iff_getElem?.mpr ⟨j, hj⟩
      refine (r.ok a c2 hc2).mono (Same.refl _) (upd_ne fun z => hne ?_)
      subst z
      have h1 : (C.map (·.1))[i]? = some a := by rw [List.getElem?_map, hi]; rfl
      have h2 : (C.map (·.1))[j]? = some a := by rw [List.getElem?_map, hj]; rfl
      obtain ⟨l1, e1⟩ := List.getElem?_eq_some_iff.mp h1
      obtain ⟨l2, e2⟩ := List.getElem?_eq_some_iff.mp h2
      exact (List.getElem_inj r.nd).mp (e1.trans e2.symm)
  · have : (C.set i (p, c')).map (·.1) = C.map (·.1) := by
      rw [List.map_set]
      apply List.ext_getElem?
      intro j
      rw [List.getElem?_set]
      split
      · rename_i e; subst e
        rw [List.getElem?_map, hi]
        have := (List.getElem?_eq_some_iff.mp hi).1
        simp [this]
      · rfl
    rw [this]; exact r.nd
end
end Tr

set_option maxHeartbeats 2000000
namespace Tr
open PySem L2 PySem.Spec PyProof.Rows

abbrev Rho := List (Option D)
abbrev SlotsR (K : W.Frag) (H0 : Hp) (ρ : Rho) (σ : L2.St) : Prop := ∀ (i : Nat) (d : D), ρ[i]? = some (some d) → ∃ v, σ[i]? = some (some v) ∧ Rep K H0 d v
theorem SlotsR.mono {K : W.Frag} {H0 H0' : Hp} {ρ : Rho} {σ : L2.St} (h : SlotsR K H0 ρ σ) (e : Same H0 H0') : SlotsR K H0' ρ σ := fun i d q => let ⟨v, a, b⟩ := h i d q; ⟨v, a, b.mono e⟩
theorem SlotsR.set {K : W.Frag} {H0 : Hp} {ρ : Rho} {σ : L2.St} {d : D} {v : V} (i : Nat) (h : SlotsR K H0 ρ σ) (r : Rep K H0 d v) (hl : ρ.length = σ.length) : SlotsR K H0 (ρ.set i (some d)) (σ.set i (some v)) := fun j e q => by
  rw [List.getElem?_set] at q
  split at q
  · rename_i hij; subst hij
    split at q
    · cases q
      rename_i hlt
      refine ⟨v, ?_, r⟩
      rw [List.getElem?_set_self (by omega)]
    · cases q
  · rename_i hij
    rw [List.getElem?_set_ne hij]
    exact h j e q
theorem SlotsR.unset {K : W.Frag} {H0 : Hp} {ρ : Rho} {σ : L2.St} (i : Nat) (h : SlotsR K H0 ρ σ) : SlotsR K H0 (ρ.set i none) (σ.set i none) := fun j e q => by
  rw [List.getElem?_set] at q
  split at q
  · split at q <;> cases q
  · rename_i hij
    rw [List.getElem?_set_ne hij]
    exact h j e q

/-- the fields of an exception -/
abbrev XF := Option (List Str × List D)
def ExcR (K : W.Frag) (H0 H : Hp) : Option Addr → XF → Prop
  | none, none => True
  | some dd, some (ns, ds) => ∃ vs, H dd = some (.xd (ns.zip vs)) ∧ ns.length = vs.length ∧ Reps K H0 ds vs
  | _, _ => False

/-- where one stands: A is kept by every step; XQ is what is wanted of an exception -/
structure TX (X : Cx) where
  A : Hp → Cells → Hp → Prop
  up : ∀ {H0 C H H0' C' H'}, A H0 C H → CellsR X.K H0 C H → Stp H0 C H H0' C' H' → CellsR X.K H0' C' H' → A H0' C' H'
  XQ : Value → XF → Rho → Cells → Prop
  tk : Takes X (fun cls d σ H => ∃ fs ρ C H0, A H0 C H ∧ CellsR X.K H0 C H ∧ SlotsR X.K H0 ρ σ ∧ ρ.length = σ.length ∧ ExcR X.K H0 H d fs ∧ XQ cls fs ρ C)
  pass : PassesOwn (model X.prog X.w) X.A X.env X.xe

section
variable {X : Cx}
/-- the state as trees -/
structure At (T : TX X) (H0 : Hp) (ρ : Rho) (C : Cells) (σ : L2.St) (H : Hp) : Prop where
  a : T.A H0 C H
  c : CellsR X.K H0 C H
  s : SlotsR X.K H0 ρ σ
  l : ρ.length = σ.length
theorem At.step {T : TX X} {H0 H0' H H' : Hp} {ρ : Rho} {C C' : Cells} {σ : L2.St} (h : At T H0 ρ C σ H) (p : Stp H0 C H H0' C' H') (c : CellsR X.K H0' C' H') : At T H0' ρ C' σ H' :=
  ⟨T.up h.a h.c p c, c, h.s.mono p.base, h.l⟩
abbrev QE := D → Cells → Prop
abbrev QA := List D → Cells → Prop
abbrev QT := Bool → Cells → Prop
abbrev Cont (X : Cx) (H0 : Hp) (C : Cells) (H : Hp) (Q : QE) (R : VK) : Prop := ∀ v d C' H' H0', Stp H0 C H H0' C' H' → CellsR X.K H0' C' H' → Rep X.K H0' d v → Q d C' → R v H'
abbrev ContA (X : Cx) (H0 : Hp) (C : Cells) (H : Hp) (Q : QA) (R : List V → Hp → Prop) : Prop := ∀ vs ds C' H' H0', Stp H0 C H H0' C' H' → CellsR X.K H0' C' H' → Reps X.K H0' ds vs → Q ds C' → R vs H'
abbrev ContT (X : Cx) (H0 : Hp) (C : Cells) (H : Hp) (Q : QT) (R : Bool → Hp → Prop) : Prop := ∀ b C' H' H0', Stp H0 C H H0' C' H' → CellsR X.K H0' C' H' → Q b C' → R b H'
theorem Cont.here {H0 H : Hp} {C : Cells} {Q : QE} {R : VK} (k : Cont X H0 C H Q R) (c : CellsR X.K H0 C H) {d : D} {v : V} (r : Rep X.K H0 d v) (q : Q d C) : R v H := k v d C H H0 (Stp.refl _ _ _) c r q
theorem Cont.after {H0 H0' H H' : Hp} {C C' : Cells} {Q Q' : QE} {R : VK} (k : Cont X H0 C H Q R) (p : Stp H0 C H H0' C' H') (c : CellsR X.K H0' C' H') (e : ∀ d C2, Q' d C2 → Q d C2) : Cont X H0' C' H' Q' R :=
  fun v d C2 H2 H02 p2 c2 r q => k v d C2 H2 H02 (p.trans c p2) c2 r (e d C2 q)

/-! ### expressions -/
def TEx (T : TX X) (ρ : Rho) (C : Cells) (Q : QE) : TE := fun σ H R => ∃ H0, At T H0 ρ C σ H ∧ Cont X H0 C H Q R
def TAx (T : TX X) (ρ : Rho) (C : Cells) (Q : QA) : TA := fun σ H R => ∃ H0, At T H0 ρ C σ H ∧ ContA X H0 C H Q R
def TTx (T : TX X) (ρ : Rho) (C : Cells) (Q : QT) : TT := fun σ H R => ∃ H0, At T H0 ρ C σ H ∧ ContT X H0 C H Q R
def WE (T : TX X) (e : Expr) (ρ : Rho) (C : Cells) (Q : QE) : Prop := PE X e (TEx T ρ C Q)
def WA (T : TX X) (es : List Expr) (ρ : Rho) (C : Cells) (Q : QA) : Prop := PA X es (TAx T ρ C Q)
def WT (T : TX X) (e : Expr) (ρ : Rho) (C : Cells) (Q : QT) : Prop := PT X e (TTx T ρ C Q)
def WP (T : TX X) (e : Expr) (ρ : Rho) (C : Cells) (Q : QT) : Prop := PW X e (TTx T ρ C Q)

theorem PE.imp {e : Expr} {t t' : TE} (h : PE X e t) (i : ∀ σ H R, t' σ H R → t σ H R) : PE X e t' := ⟨fun pins s σ H Q I q => h.run pins s σ H Q I (i σ H Q q)⟩
theorem PA.imp {e : List Expr} {t t' : TA} (h : PA X e t) (i : ∀ σ H R, t' σ H R → t σ H R) : PA X e t' := ⟨fun pos pins s σ H Q I q => h.run pos pins s σ H Q I (i σ H Q q)⟩
theorem PT.imp {e : Expr} {t t' : TT} (h : PT X e t) (i : ∀ σ H R, t' σ H R → t σ H R) : PT X e t' := ⟨fun pins s σ H Q I q => h.run pins s σ H Q I (i σ H Q q)⟩
theorem PW.imp {e : Expr} {t t' : TT} (h : PW X e t) (i : ∀ σ H R, t' σ H R → t σ H R) : PW X e t' := ⟨fun wh pins s σ H Q I q => h.run wh pins s σ H Q I (i σ H Q q)⟩
theorem PS.imp {e : Stmt} {t t' : TS} (h : PS X e t) (i : ∀ D σ H, t' D σ H → t D σ H) : PS X e t' := ⟨fun pins s σ H Q I q => h.run pins s σ H Q I (i Q σ H q)⟩
theorem PSs.imp {e : List Stmt} {t t' : TS} (h : PSs X e t) (i : ∀ D σ H, t' D σ H → t D σ H) : PSs X e t' := ⟨fun pins s σ H Q I q => h.run pins s σ H Q I (i Q σ H q)⟩
theorem OpR.imp {f : Value → Value → Sem Value} {r r' : R2} (h : OpR X f r) (i : ∀ x y H R, r' x y H R → r x y H R) : OpR X f r' := fun pins s σ H x y v u Q I rx ry q => h pins s σ H x y v u Q I rx ry (i _ _ _ _ q)

/-- some state from which e does what is wanted -/
def someE (T : TX X) (ρ : Rho) (e : Expr) : TE := fun σ H R => ∃ C Q, WE T e ρ C Q ∧ TEx T ρ C Q σ H R
theorem pe_some (T : TX X) (ρ : Rho) (e : Expr) : PE X e (someE T ρ e) := ⟨fun pins s σ H Q I ⟨C, q, h, t⟩ => h.run pins s σ H Q I t⟩
def someA (T : TX X) (ρ : Rho) (e : List Expr) : TA := fun σ H R => ∃ C Q, WA T e ρ C Q ∧ TAx T ρ C Q σ H R
theorem pa_some (T : TX X) (ρ : Rho) (e : List Expr) : PA X e (someA T ρ e) := ⟨fun pos pins s σ H Q I ⟨C, q, h, t⟩ => h.run pos pins s σ H Q I t⟩
def someT (T : TX X) (ρ : Rho) (e : Expr) : TT := fun σ H R => ∃ C Q, WT T e ρ C Q ∧ TTx T ρ C Q σ H R
theorem pt_some (T : TX X) (ρ : Rho) (e : Expr) : PT X e (someT T ρ e) := ⟨fun pins s σ H Q I ⟨C, q, h, t⟩ => h.run pins s σ H Q I t⟩
def someP (T : TX X) (ρ : Rho) (e : Expr) : TT := fun σ H R => ∃ C Q, WP T e ρ C Q ∧ TTx T ρ C Q σ H R
theorem pw_some (T : TX X) (ρ : Rho) (e : Expr) : PW X e (someP T ρ e) := ⟨fun wh pins s σ H Q I ⟨C, q, h, t⟩ => h.run wh pins s σ H Q I t⟩

variable {T : TX X} {ρ : Rho} {C : Cells} {Q : QE} {e a b c : Expr} {pos : Pos} {es : List Expr}
theorem WE.mono {Q' : QE} (h : WE T e ρ C Q) (i : ∀ d C', Q d C' → Q' d C') : WE T e ρ C Q' :=
  PE.imp h fun σ H R ⟨H0, a, k⟩ => ⟨H0, a, fun v d C' H' H0' p c r q => k v d C' H' H0' p c r (i d C' q)⟩
theorem WT.mono {Q Q' : QT} (h : WT T e ρ C Q) (i : ∀ d C', Q d C' → Q' d C') : WT T e ρ C Q' :=
  PT.imp h fun σ H R ⟨H0, a, k⟩ => ⟨H0, a, fun v C' H' H0' p c q => k v C' H' H0' p c (i v C' q)⟩

/-- from a reading that only looks -/
theorem we_look {t : TE} {d : D} (h : PE X e t) (i : ∀ σ H H0, At T H0 ρ C σ H → ∃ v, Rep X.K H0 d v ∧ ∀ R : VK, R v H → t σ H R) (q : Q d C) : WE T e ρ C Q :=
  PE.imp h fun σ H R ⟨H0, a, k⟩ => let ⟨v, r, j⟩ := i σ H H0 a; j R (k.here a.c r q)
theorem we_int {i j} (q : Q (.int i) C) : WE T (.Constant (.int i) j pos) ρ C Q := we_look (d := .int i) pe_int (fun _ _ _ _ => ⟨.int i, rfl, fun _ r => r⟩) q
theorem we_bl {i j} (q : Q (.bl i) C) : WE T (.Constant (.bool i) j pos) ρ C Q := we_look (d := .bl i) pe_bl (fun _ _ _ _ => ⟨.bl i, rfl, fun _ r => r⟩) q
theorem we_non {j} (q : Q .non C) : WE T (.Constant .none j pos) ρ C Q := we_look (d := .non) pe_non (fun _ _ _ _ => ⟨.non, rfl, fun _ r => r⟩) q
theorem we_str {i j} (q : Q (.str i) C) : WE T (.Constant (.str i) j pos) ρ C Q := we_look (d := .str i) pe_str (fun _ _ _ _ => ⟨.str i, rfl, fun _ r => r⟩) q
/-- a name of the def -/
theorem we_var (i : Nat) {x : Str} {d : D} (hd : ρ[i]? = some (some d)) (q : Q d C) (h : PE X (.Name x pos) (tVar i)) : WE T (.Name x pos) ρ C Q :=
  we_look h (fun σ H H0 a => let ⟨v, e, r⟩ := a.s i d hd; ⟨v, r, fun R k => ⟨v, e, k⟩⟩) q
/-- a module's name by its value -/
theorem we_glob {x : Str} {v : V} {d : D} (h : PE X (.Name x pos) (tC v)) (r : ∀ H0 : Hp, Rep X.K H0 d v) (q : Q d C) : WE T (.Name x pos) ρ C Q :=
  we_look h (fun σ H H0 a => ⟨v, r H0, fun R k => k⟩) q

/-! ### two-place operations -/
def OW (T : TX X) (f : Value → Value → Sem Value) (d1 d2 : D) (C : Cells) (Q : QE) : Prop :=
  OpR X f fun x y H R => ∃ H0, CellsR X.K H0 C H ∧ Rep X.K H0 d1 x ∧ Rep X.K H0 d2 y ∧ Cont X H0 C H Q R
def someO (T : TX X) (f : Value → Value → Sem Value) : R2 := fun x y H R => ∃ d1 d2 C Q, OW T f d1 d2 C Q ∧ ∃ H0, CellsR X.K H0 C H ∧ Rep X.K H0 d1 x ∧ Rep X.K H0 d2 y ∧ Cont X H0 C H Q R
theorem op_some (T : TX X) (f : Value → Value → Sem Value) : OpR X f (someO T f) := fun pins s σ H x y v u Q I rx ry ⟨d1, d2, C, q, h, k⟩ => h pins s σ H x y v u Q I rx ry k
theorem ow_look {f : Value → Value → Sem Value} {r : R2} {d1 d2 d : D} (h : OpR X f r) (i : ∀ x y H H0, CellsR X.K H0 C H → Rep X.K H0 d1 x → Rep X.K H0 d2 y → ∃ v, Rep X.K H0 d v ∧ ∀ R : VK, R v H → r x y H R) (q : Q d C) : OW T f d1 d2 C Q :=
  OpR.imp h fun x y H R ⟨H0, c, r1, r2, k⟩ => let ⟨v, rr, j⟩ := i x y H H0 c r1 r2; j R (k.here c rr q)
/-- both sides, then the operation: what the three readings have in common -/
theorem both {r : R2} {f : Value → Value → Sem Value} (h : WE T a ρ C fun d1 C1 => WE T b ρ C1 fun d2 C2 => OW T f d1 d2 C2 Q) (hr : ∀ x y H R, someO T f x y H R → r x y H R) :
    ∀ σ H R, TEx T ρ C Q σ H R → tOp r (TEx T ρ C fun d1 C1 => WE T b ρ C1 fun d2 C2 => OW T f d1 d2 C2 Q) (someE T ρ b) σ H R := fun σ H R ⟨H0, at_, k⟩ => by
  refine ⟨H0, at_, fun v1 d1 C1 H1 H01 p1 c1 r1 q1 => ?_⟩
  have at1 := at_.step p1 c1
  refine ⟨C1, _, q1, H01, at1, fun v2 d2 C2 H2 H02 p2 c2 r2 q2 => ?_⟩
  exact hr _ _ _ _ ⟨d1, d2, C2, Q, q2, H02, c2, r1.mono p2.base, r2, k.after (p1.trans c1 p2) c2 fun _ _ z => z⟩
theorem we_bin {op : Operator} (h : WE T a ρ C fun d1 C1 => WE T b ρ C1 fun d2 C2 => OW T (binaryOp op) d1 d2 C2 Q) : WE T (.BinOp a op b pos) ρ C Q :=
  PE.imp (pe_op (op_some T (binaryOp op)) h (pe_some T ρ b)) (both h fun _ _ _ _ z => z)
theorem we_cmp {op : CmpOp} (h : WE T a ρ C fun d1 C1 => WE T b ρ C1 fun d2 C2 => OW T (compareOp op) d1 d2 C2 Q) (hm : behindInMarks op b = false) : WE T (.Compare a [op] [b] pos) ρ C Q :=
  PE.imp (pe_cmpR (op_some T (compareOp op)) h (pe_some T ρ b) hm) (both h fun _ _ _ _ z => z)
theorem wt_cmp {op : CmpOp} {Q : QT} (h : WE T a ρ C fun d1 C1 => WE T b ρ C1 fun d2 C2 => OW T (compareOp op) d1 d2 C2 fun d C3 => ∃ k, d = .bl k ∧ Q k C3) (hm : behindInMarks op b = false) : WT T (.Compare a [op] [b] pos) ρ C Q :=
  PT.imp (pt_cmpR (op_some T (compareOp op)) h (pe_some T ρ b) hm) fun σ H R ⟨H0, at_, k⟩ => both (Q := fun d C3 => ∃ k, d = .bl k ∧ Q k C3) h (fun _ _ _ _ z => z) σ H _ ⟨H0, at_, fun v d C' H' H0' p c r ⟨j, e, q⟩ => by
    subst e; cases r; exact ⟨j, rfl, k j C' H' H0' p c q⟩⟩

/-! ### tests -/
/-- the truth of a datum -/
def TruD (C : Cells) : D → Bool → Prop
  | .non, b => b = false
  | .bl k, b => b = k
  | .int i, b => b = decide (i ≠ 0)
  | .str s, b => b = decide (s.length ≠ 0)
  | .lst ds, b => b = !ds.isEmpty
  | .tup ds, b => b = !ds.isEmpty
  | .dic ks _, b => b = !ks.isEmpty
  | _, _ => False
theorem wt_tB {Q : QT} {t : TE → TT} (ht : ∀ ta, PE X e ta → PT X e (t ta)) (hm : ∀ ta σ H R, tTest ta σ H R → t ta σ H R) (h : WE T e ρ C fun d C1 => ∃ k, d = .bl k ∧ Q k C1) : WT T e ρ C Q :=
  PT.imp (ht _ h) fun σ H R ⟨H0, at_, k⟩ => hm _ σ H R ⟨H0, at_, fun v d C' H' H0' p c r ⟨j, e, q⟩ => by subst e; cases r; exact ⟨j, rfl, k j C' H' H0' p c q⟩⟩
/-- an expression whose value is a bool -/
theorem wt_val {Q : QT} (h : WE T e ρ C fun d C1 => ∃ k, d = .bl k ∧ Q k C1) (he : ∀ whole, isTrue e X.env whole = (do let v ← whole; standAt e.pos; holding [v] (truthy v)) := by intro _; rfl) : WT T e ρ C Q :=
  wt_tB (t := tB) (fun _ z => pt_val z he) (fun _ _ _ _ z => z) h
theorem wt_not {Q : QT} (h : WT T a ρ C fun k C1 => Q (!k) C1) : WT T (.UnaryOp .Not a pos) ρ C Q :=
  PT.imp (pt_not h) fun σ H R ⟨H0, at_, k⟩ => ⟨H0, at_, fun j C' H' H0' p c q => k _ C' H' H0' p c q⟩
theorem wt_p {Q : QT} (h : WP T a ρ C Q) : WT T a ρ C Q := PW.pt h
theorem wp_and1 {Q : QT} (h : WT T a ρ C Q) : WP T (.BoolOp .And [a] pos) ρ C Q := pw_and1 h
theorem wp_or1 {Q : QT} (h : WT T a ρ C Q) : WP T (.BoolOp .Or [a] pos) ρ C Q := pw_or1 h
theorem wp_and {Q : QT} (h : WT T a ρ C fun k C1 => if k = true then WP T (.BoolOp .And (b :: es) pos) ρ C1 Q else Q false C1) : WP T (.BoolOp .And (a :: b :: es) pos) ρ C Q :=
  PW.imp (pw_and h (pw_some T ρ _)) fun σ H R ⟨H0, at_, k⟩ => ⟨H0, at_, fun j C' H' H0' p c q => by
    cases j with
    | true => exact ⟨C', Q, q, H0', at_.step p c, fun j C2 H2 H02 p2 c2 q2 => k j C2 H2 H02 (p.trans c p2) c2 q2⟩
    | false => exact k false C' H' H0' p c q⟩
theorem wp_or {Q : QT} (h : WT T a ρ C fun k C1 => if k = true then Q true C1 else WP T (.BoolOp .Or (b :: es) pos) ρ C1 Q) : WP T (.BoolOp .Or (a :: b :: es) pos) ρ C Q :=
  PW.imp (pw_or h (pw_some T ρ _)) fun σ H R ⟨H0, at_, k⟩ => ⟨H0, at_, fun j C' H' H0' p c q => by
    cases j with
    | false => exact ⟨C', Q, q, H0', at_.step p c, fun j C2 H2 H02 p2 c2 q2 => k j C2 H2 H02 (p.trans c p2) c2 q2⟩
    | true => exact k true C' H' H0' p c q⟩
/-- and, or, not as values that are bools -/
theorem we_one {op} (h : WE T a ρ C Q) : WE T (.BoolOp op [a] pos) ρ C Q := pe_one h
theorem we_and (h : WE T a ρ C fun d C1 => ∃ k, d = .bl k ∧ if k = true then WE T (.BoolOp .And (b :: es) pos) ρ C1 Q else Q (.bl false) C1) : WE T (.BoolOp .And (a :: b :: es) pos) ρ C Q :=
  PE.imp (pe_and h (pe_some T ρ _)) fun σ H R ⟨H0, at_, k⟩ => ⟨H0, at_, fun v d C' H' H0' p c r ⟨j, e, q⟩ => by
    subst e; cases r
    refine ⟨j, rfl, ?_⟩
    cases j with
    | true => exact ⟨C', Q, q, H0', at_.step p c, k.after p c fun _ _ z => z⟩
    | false => exact k _ (.bl false) C' H' H0' p c rfl q⟩
theorem we_or (h : WE T a ρ C fun d C1 => ∃ k, d = .bl k ∧ if k = true then Q (.bl true) C1 else WE T (.BoolOp .Or (b :: es) pos) ρ C1 Q) : WE T (.BoolOp .Or (a :: b :: es) pos) ρ C Q :=
  PE.imp (pe_or h (pe_some T ρ _)) fun σ H R ⟨H0, at_, k⟩ => ⟨H0, at_, fun v d C' H' H0' p c r ⟨j, e, q⟩ => by
    subst e; cases r
    refine ⟨j, rfl, ?_⟩
    cases j with
    | false => exact ⟨C', Q, q, H0', at_.step p c, k.after p c fun _ _ z => z⟩
    | true => exact k _ (.bl true) C' H' H0' p c rfl q⟩
theorem we_not (h : WE T a ρ C fun d C1 => ∃ k, d = .bl k ∧ Q (.bl (!k)) C1) : WE T (.UnaryOp .Not a pos) ρ C Q :=
  PE.imp (pe_not h) fun σ H R ⟨H0, at_, k⟩ => ⟨H0, at_, fun v d C' H' H0' p c r ⟨j, e, q⟩ => by
    subst e; cases r; exact ⟨j, rfl, k _ (.bl (!j)) C' H' H0' p c rfl q⟩⟩
/-- a if c else b -/
theorem we_ifExp (h : WT T c ρ C fun k C1 => if k = true then WE T a ρ C1 Q else WE T b ρ C1 Q) : WE T (.IfExp c a b pos) ρ C Q :=
  PE.imp (pe_ifExp h (pe_some T ρ a) (pe_some T ρ b)) fun σ H R ⟨H0, at_, k⟩ => ⟨H0, at_, fun j C' H' H0' p c q => by
    cases j with
    | true => exact ⟨C', Q, q, H0', at_.step p c, k.after p c fun _ _ z => z⟩
    | false => exact ⟨C', Q, q, H0', at_.step p c, k.after p c fun _ _ z => z⟩⟩

/-! ### argument lists, displays -/
theorem wa_nil {Q : QA} (q : Q [] C) : WA T [] ρ C Q := PA.imp pa_nil fun σ H R ⟨H0, at_, k⟩ => k [] [] C H H0 (Stp.refl _ _ _) at_.c Reps.nil q
theorem wa_cons {Q : QA} (h : WE T a ρ C fun d C1 => WA T es ρ C1 fun ds C2 => Q (d :: ds) C2) (hs : starEach (a :: es) X.env = (false, eval a X.env) :: starEach es X.env := by rfl) : WA T (a :: es) ρ C Q :=
  PA.imp (pa_cons h (pa_some T ρ es) hs) fun σ H R ⟨H0, at_, k⟩ => ⟨H0, at_, fun v d C1 H1 H01 p1 c1 r1 q1 => ⟨C1, _, q1, H01, at_.step p1 c1, fun vs ds C2 H2 H02 p2 c2 r2 q2 =>
    k _ _ C2 H2 H02 (p1.trans c1 p2) c2 (Reps.cons (r1.mono p2.base) r2) q2⟩⟩
/-- a new tuple, a new list that stand still -/
theorem we_tup {x1} (h : WA T es ρ C fun ds C1 => ds.length ≤ 100000 ∧ Q (.tup ds) C1) : WE T (.Tuple es x1 pos) ρ C Q :=
  PE.imp (pe_tup h) fun σ H R ⟨H0, at_, k⟩ => ⟨H0, at_, fun vs ds C1 H1 H01 p1 c1 r1 ⟨z, q⟩ => ⟨Nat.le_trans (by rw [← r1.length]; exact z) (by decide), fun p hp => by
    obtain ⟨p2, c2⟩ := stp_new (o := .tup vs) c1 hp
    exact k _ (.tup ds) C1 _ _ (p1.trans c1 p2) c2 ⟨p, vs, rfl, .inl (.inl upd_same), r1.mono p2.base⟩ q⟩⟩
theorem we_lst (h : WA T es ρ C fun ds C1 => ds.length ≤ 100000 ∧ Q (.lst ds) C1) : WE T (.List es pos) ρ C Q :=
  PE.imp (pe_lst h) fun σ H R ⟨H0, at_, k⟩ => ⟨H0, at_, fun vs ds C1 H1 H01 p1 c1 r1 ⟨z, q⟩ => ⟨Nat.le_trans (by rw [← r1.length]; exact z) (by decide), fun p hp => by
    obtain ⟨p2, c2⟩ := stp_new (o := .lst vs) c1 hp
    exact k _ (.lst ds) C1 _ _ (p1.trans c1 p2) c2 ⟨p, vs, rfl, .inl (.inl upd_same), r1.mono p2.base⟩ q⟩⟩
/-- a new list that may change -/
theorem we_lstC (h : WA T es ρ C fun ds C1 => ds.length ≤ 100000 ∧ ∀ p, Q (.raw (.ref p)) ((p, .lst ds) :: C1)) : WE T (.List es pos) ρ C Q :=
  PE.imp (pe_lst h) fun σ H R ⟨H0, at_, k⟩ => ⟨H0, at_, fun vs ds C1 H1 H01 p1 c1 r1 ⟨z, q⟩ => ⟨Nat.le_trans (by rw [← r1.length]; exact z) (by decide), fun p hp => by
    obtain ⟨p2, c2⟩ := stp_cell (o := .lst vs) (c := .lst ds) c1 hp ⟨vs, upd_same, r1⟩
    exact k _ (.raw (.ref p)) _ _ _ (p1.trans c1 p2) c2 rfl (q p)⟩⟩

/-! ### calls of what is known by its values -/
def CW (T : TX X) (f : Value) (ds : List D) (C : Cells) (Q : QE) : Prop := CallR X f fun xs H R => ∃ H0, CellsR X.K H0 C H ∧ Reps X.K H0 ds xs ∧ Cont X H0 C H Q R
def someC (T : TX X) (f : Value) : List V → Hp → VK → Prop := fun xs H R => ∃ ds C Q, CW T f ds C Q ∧ ∃ H0, CellsR X.K H0 C H ∧ Reps X.K H0 ds xs ∧ Cont X H0 C H Q R
theorem call_some (T : TX X) (f : Value) : CallR X f (someC T f) := fun pins s σ H vs us Q I r ⟨ds, C, q, h, k⟩ => h pins s σ H vs us Q I r k
theorem CallR.imp {f : Value} {r r' : List V → Hp → VK → Prop} (h : CallR X f r) (i : ∀ xs H R, r' xs H R → r xs H R) : CallR X f r' := fun pins s σ H vs us Q I rv q => h pins s σ H vs us Q I rv (i _ _ _ q)
theorem cw_look {f : Value} {r : List V → Hp → VK → Prop} {ds : List D} {d : D} (h : CallR X f r) (i : ∀ xs H H0, CellsR X.K H0 C H → Reps X.K H0 ds xs → ∃ v, Rep X.K H0 d v ∧ ∀ R : VK, R v H → r xs H R) (q : Q d C) : CW T f ds C Q :=
  CallR.imp h fun xs H R ⟨H0, c, r1, k⟩ => let ⟨v, rr, j⟩ := i xs H H0 c r1; j R (k.here c rr q)
theorem args_some {t : List V → Hp → VK → Prop} {es : List Expr} {f : Value} (i : ∀ xs H R, someC T f xs H R → t xs H R) : ∀ σ H R, TEx T ρ C Q σ H R → tCB t (TAx T ρ C fun ds C1 => CW T f ds C1 Q) σ H R :=
  fun σ H R ⟨H0, at_, k⟩ => ⟨H0, at_, fun vs ds C1 H1 H01 p1 c1 r1 q1 => i _ _ _ ⟨ds, C1, Q, q1, H01, c1, r1, k.after p1 c1 fun _ _ z => z⟩⟩
theorem we_callB {x : Str} {p : Pos} {id : String} (hg : Gl X x) (hm : X.mg x = none) (hv : bootBuiltins x = some (.builtin id)) (h : WA T (a :: es) ρ C fun ds C1 => CW T (.builtin id) ds C1 Q)
    (hn : x ≠ "__name__" := by decide) (hdb : (x == ("__debug__" : Str)) = false := by decide) (he : starEach (a :: es) X.env = (false, eval a X.env) :: starEach es X.env := by rfl) (hpl : (backTo pos (starEach es X.env)).any (·.1) = false := by rfl) :
    WE T (.Call (.Name x p) (a :: es) [] pos) ρ C Q := PE.imp (pe_callB (call_some T _) hg hm hv h hn hdb he hpl) (args_some (es := es) fun _ _ _ z => z)
theorem we_callTy {x : Str} {p : Pos} {id : String} (hg : Gl X x) (hm : X.mg x = none) (hv : bootBuiltins x = some (.type id)) (h : WA T (a :: es) ρ C fun ds C1 => CW T (.type id) ds C1 Q)
    (hn : x ≠ "__name__" := by decide) (hdb : (x == ("__debug__" : Str)) = false := by decide) (he : starEach (a :: es) X.env = (false, eval a X.env) :: starEach es X.env := by rfl) (hpl : (backTo pos (starEach es X.env)).any (·.1) = false := by rfl) :
    WE T (.Call (.Name x p) (a :: es) [] pos) ρ C Q := PE.imp (pe_callTy (call_some T _) hg hm hv h hn hdb he hpl) (args_some (es := es) fun _ _ _ z => z)
end
end Tr

set_option maxHeartbeats 2000000
namespace Tr
open PySem L2 PySem.Spec PyProof.Rows
section
variable {X : Cx}
abbrev QS := Rho → Cells → Prop
/-- what is wanted behind a statement -/
structure TEnds where
  nx : QS
  rt : QE
  bk : QS := fun _ _ => False
  ct : QS := fun _ _ => False
abbrev ContS (X : Cx) (H0 : Hp) (C : Cells) (H : Hp) (Q : QS) (R : L2.St → Hp → Prop) : Prop :=
  ∀ (ρ' : Rho) (σ' : L2.St) C' H' H0', Stp H0 C H H0' C' H' → CellsR X.K H0' C' H' → SlotsR X.K H0' ρ' σ' → ρ'.length = σ'.length → Q ρ' C' → R σ' H'
structure Tail (X : Cx) (H0 : Hp) (C : Cells) (H : Hp) (N : TEnds) (Dn : Ends) : Prop where
  nx : ContS X H0 C H N.nx Dn.nx
  rt : Cont X H0 C H N.rt Dn.rt
  bk : ContS X H0 C H N.bk Dn.bk
  ct : ContS X H0 C H N.ct Dn.ct
theorem ContS.after {H0 H0' H H' : Hp} {C C' : Cells} {Q : QS} {R : L2.St → Hp → Prop} (k : ContS X H0 C H Q R) (p : Stp H0 C H H0' C' H') (c : CellsR X.K H0' C' H') : ContS X H0' C' H' Q R :=
  fun ρ σ C2 H2 H02 p2 c2 s l q => k ρ σ C2 H2 H02 (p.trans c p2) c2 s l q
theorem Tail.after {H0 H0' H H' : Hp} {C C' : Cells} {N : TEnds} {Dn : Ends} (k : Tail X H0 C H N Dn) (p : Stp H0 C H H0' C' H') (c : CellsR X.K H0' C' H') : Tail X H0' C' H' N Dn :=
  ⟨ContS.after k.nx p c, k.rt.after p c fun _ _ z => z, ContS.after k.bk p c, ContS.after k.ct p c⟩
def TSx (T : TX X) (ρ : Rho) (C : Cells) (N : TEnds) : TS := fun Dn σ H => ∃ H0, At T H0 ρ C σ H ∧ Tail X H0 C H N Dn
def WS (T : TX X) (st : Stmt) (ρ : Rho) (C : Cells) (N : TEnds) : Prop := PS X st (TSx T ρ C N)
def WSs (T : TX X) (st : List Stmt) (ρ : Rho) (C : Cells) (N : TEnds) : Prop := PSs X st (TSx T ρ C N)
def someS (T : TX X) (st : List Stmt) : TS := fun Dn σ H => ∃ ρ C N, WSs T st ρ C N ∧ TSx T ρ C N Dn σ H
theorem pss_some (T : TX X) (st : List Stmt) : PSs X st (someS T st) := ⟨fun pins s σ H D I ⟨ρ, C, N, h, t⟩ => h.run pins s σ H D I t⟩

variable {T : TX X} {ρ : Rho} {C : Cells} {N : TEnds} {e a b c : Expr} {pos : Pos} {es : List Expr} {st : Stmt} {rest body : List Stmt}
theorem ContS.here {H0 H : Hp} {Q : QS} {R : L2.St → Hp → Prop} {σ : L2.St} (k : ContS X H0 C H Q R) (at_ : At T H0 ρ C σ H) (q : Q ρ C) : R σ H := k ρ σ C H H0 (Stp.refl _ _ _) at_.c at_.s at_.l q

theorem wss_nil (h : N.nx ρ C) : WSs T [] ρ C N := PSs.imp pss_nil fun Dn σ H ⟨H0, at_, k⟩ => ContS.here k.nx at_ h
theorem wss_cons (h : WS T st ρ C { N with nx := fun ρ1 C1 => WSs T rest ρ1 C1 N }) : WSs T (st :: rest) ρ C N :=
  PSs.imp (pss_cons h (pss_some T rest)) fun Dn σ H ⟨H0, at_, k⟩ => ⟨H0, at_, ⟨fun ρ' σ' C' H' H0' p c s l q => ⟨ρ', C', N, q, H0', ⟨T.up at_.a at_.c p c, c, s, l⟩, k.after p c⟩, k.rt, k.bk, k.ct⟩⟩
theorem wss_one (h : WS T st ρ C N) : WSs T [st] ρ C N := pss_one h
theorem ws_pass (h : N.nx ρ C) : WS T (.Pass pos) ρ C N := PS.imp ps_pass fun Dn σ H ⟨H0, at_, k⟩ => ContS.here k.nx at_ h
theorem ws_break (h : N.bk ρ C) : WS T (.Break pos) ρ C N := PS.imp ps_break fun Dn σ H ⟨H0, at_, k⟩ => ContS.here k.bk at_ h
theorem ws_continue (h : N.ct ρ C) : WS T (.Continue pos) ρ C N := PS.imp ps_continue fun Dn σ H ⟨H0, at_, k⟩ => ContS.here k.ct at_ h
theorem ws_expr (h : WE T e ρ C fun _ C1 => N.nx ρ C1) (hs : swapsWith e none pos.line X.env = pure false := by rfl) : WS T (.Expr e pos) ρ C N :=
  PS.imp (ps_expr h hs) fun Dn σ H ⟨H0, at_, k⟩ => ⟨H0, at_, fun v d C1 H1 H01 p c r q => ContS.here (k.after p c).nx (at_.step p c) q⟩
theorem ws_ret (h : WE T e ρ C N.rt) : WS T (.Return (some e) pos) ρ C N := PS.imp (ps_ret h) fun Dn σ H ⟨H0, at_, k⟩ => ⟨H0, at_, k.rt⟩
theorem ws_retN (h : N.rt .non C) : WS T (.Return none pos) ρ C N := PS.imp ps_retN fun Dn σ H ⟨H0, at_, k⟩ => k.rt.here (d := .non) at_.c rfl h
theorem ws_if {tb fb : List Stmt} (h : WT T c ρ C fun k C1 => if k = true then WSs T tb ρ C1 N else WSs T fb ρ C1 N) : WS T (.If c tb fb pos) ρ C N :=
  PS.imp (ps_if h (pss_some T tb) (pss_some T fb)) fun Dn σ H ⟨H0, at_, k⟩ => ⟨H0, at_, fun b C1 H1 H01 p c q => by
    cases b with
    | true => exact ⟨ρ, C1, N, q, H01, at_.step p c, k.after p c⟩
    | false => exact ⟨ρ, C1, N, q, H01, at_.step p c, k.after p c⟩⟩

/-! ### targets -/
def TGx (T : TX X) (d : D) (ρ : Rho) (C : Cells) (Q : QS) : TG := fun v σ H R => ∃ H0, At T H0 ρ C σ H ∧ Rep X.K H0 d v ∧ ContS X H0 C H Q R
def TGsx (T : TX X) (ds : List D) (ρ : Rho) (C : Cells) (Q : QS) : TGs := fun vs σ H R => ∃ H0, At T H0 ρ C σ H ∧ Reps X.K H0 ds vs ∧ ContS X H0 C H Q R
def WG (T : TX X) (tg : Expr) (d : D) (ρ : Rho) (C : Cells) (Q : QS) : Prop := PG X tg (TGx T d ρ C Q)
def WGs (T : TX X) (tg : List Expr) (ds : List D) (ρ : Rho) (C : Cells) (Q : QS) : Prop := PGs X tg (TGsx T ds ρ C Q)
theorem PG.imp {e : Expr} {t t' : TG} (h : PG X e t) (i : ∀ v σ H R, t' v σ H R → t v σ H R) : PG X e t' := ⟨fun pins s σ H v u Q I r q => h.run pins s σ H v u Q I r (i v σ H Q q)⟩
theorem PGs.imp {e : List Expr} {t t' : TGs} (h : PGs X e t) (i : ∀ v σ H R, t' v σ H R → t v σ H R) : PGs X e t' := ⟨fun pins s σ H v u Q I r q => h.run pins s σ H v u Q I r (i v σ H Q q)⟩
def someG (T : TX X) (tg : Expr) : TG := fun v σ H R => ∃ d ρ C Q, WG T tg d ρ C Q ∧ TGx T d ρ C Q v σ H R
theorem pg_some (T : TX X) (tg : Expr) : PG X tg (someG T tg) := ⟨fun pins s σ H v u Q I r ⟨d, ρ, C, q, h, t⟩ => h.run pins s σ H v u Q I r t⟩
def someGs (T : TX X) (tg : List Expr) : TGs := fun v σ H R => ∃ d ρ C Q, WGs T tg d ρ C Q ∧ TGsx T d ρ C Q v σ H R
theorem pgs_some (T : TX X) (tg : List Expr) : PGs X tg (someGs T tg) := ⟨fun pins s σ H v u Q I r ⟨d, ρ, C, q, h, t⟩ => h.run pins s σ H v u Q I r t⟩
theorem wg_name {d : D} {Q : QS} (i : Nat) {x : Str} (q : Q (ρ.set i (some d)) C) (h : PG X (.Name x pos) (gName i)) : WG T (.Name x pos) d ρ C Q :=
  PG.imp h fun v σ H R ⟨H0, at_, r, k⟩ => k _ _ C H H0 (Stp.refl _ _ _) at_.c (SlotsR.set i at_.s r at_.l) (by rw [List.length_set, List.length_set]; exact at_.l) q
theorem wgs_nil {Q : QS} (q : Q ρ C) : WGs T [] [] ρ C Q := PGs.imp pgs_nil fun v σ H R ⟨H0, at_, r, k⟩ => ⟨r, ContS.here k at_ q⟩
theorem wgs_cons {tg : Expr} {tgs : List Expr} {d : D} {ds : List D} {Q : QS} (h : WG T tg d ρ C fun ρ1 C1 => WGs T tgs ds ρ1 C1 Q)
    (hs : (assignEach (tg :: tgs) X.env).map (·.2) = assign tg X.env :: (assignEach tgs X.env).map (·.2) := by rfl) : WGs T (tg :: tgs) (d :: ds) ρ C Q :=
  PGs.imp (pgs_cons h (pgs_some T tgs) hs) fun v σ H R ⟨H0, at_, ⟨v1, r, e1, r1, r2⟩, k⟩ => ⟨v1, r, e1, H0, at_, r1, fun ρ' σ' C' H' H0' p c s l q =>
    ⟨ds, ρ', C', Q, q, H0', ⟨T.up at_.a at_.c p c, c, s, l⟩, r2.mono p.base, ContS.after k p c⟩⟩
theorem wg_tup {tgs : List Expr} {k : Nat} {ds : List D} {Q : QS} {n : Nat} (hc : X.calm = true) (h : WGs T tgs ds ρ C Q) (hl : ds.length = n)
    (hn : (assignEach tgs X.env).length = n := by rfl) (hst : (assignEach tgs X.env).findIdx? (·.1) = none := by rfl) : WG T (.Tuple tgs k pos) (.tup ds) ρ C Q :=
  PG.imp (pg_tup hc h hn hst) fun v σ H R ⟨H0, at_, ⟨a, vs, e1, q1, r1⟩, k⟩ => ⟨a, vs, e1, Same.sqT at_.c.same q1, by rw [← r1.length]; exact hl, H0, at_, r1, k⟩
/-- target = value -/
theorem ws_asg {tg : Expr} (h : WE T e ρ C fun d C1 => WG T tg d ρ C1 N.nx) (hs : swapsWithSole [tg] e pos.line X.env = pure false := by rfl) (hw : swappedStores [tg] e X.env = pure none := by rfl)
    (h1 : (assignEach [tg] X.env).map (·.2) = [assign tg X.env] := by rfl) : WS T (.Assign [tg] e pos) ρ C N :=
  PS.imp (ps_asg h (pg_some T tg) hs hw h1) fun Dn σ H ⟨H0, at_, k⟩ => ⟨H0, at_, fun v d C1 H1 H01 p c r q => ⟨d, ρ, C1, N.nx, q, H01, at_.step p c, r, (k.after p c).nx⟩⟩
/-- name = value -/
theorem ws_set (i : Nat) {x : Str} {pos' : Pos} (hN : X.N.Nodup) (hi : X.N[i]? = some x) (hx : Loc X.env.scope x) (h : WE T e ρ C fun d C1 => N.nx (ρ.set i (some d)) C1) (hs : swapsWith e (some (.Name x pos')) pos.line X.env = pure false := by rfl)
    (hf : X.fn x = true ∨ X.env.scope.names.lookup x = some .local := by first | exact .inl rfl | exact .inr rfl | assumption) : WS T (.Assign [.Name x pos'] e pos) ρ C N :=
  PS.imp (ps_set hN hi hx h hs hf) fun Dn σ H ⟨H0, at_, k⟩ => ⟨H0, at_, fun v d C1 H1 H01 p c r q =>
    (k.after p c).nx _ _ C1 H1 H01 (Stp.refl _ _ _) c (SlotsR.set i (at_.step p c).s r at_.l) (by rw [List.length_set, List.length_set]; exact at_.l) q⟩

/-! ### what a loop walks -/
structure Yields (K : W.Frag) (J : It) (H0 : Hp) (P : Cells → Prop) (ds : List D) : Prop where
  go : ∀ (i : Nat) H0' C H, Same H0 H0' → CellsR K H0' C H → P C → i < ds.length → J.go i H
  stop : ∀ (i : Nat) H0' C H, Same H0 H0' → CellsR K H0' C H → P C → ds.length ≤ i → J.stop i H
  yld : ∀ (i : Nat) H0' C H x H' d, Same H0 H0' → CellsR K H0' C H → P C → ds[i]? = some d → J.yld i H x H' → ∃ H0'', Stp H0' C H H0'' C H' ∧ CellsR K H0'' C H' ∧ Rep K H0'' d x
abbrev QI := List D → (Cells → Prop) → Cells → Prop
def TIx (T : TX X) (ρ : Rho) (C : Cells) (Q : QI) : TI := fun σ H R => ∃ H0, At T H0 ρ C σ H ∧ ∀ J ds P C' H' H0', Stp H0 C H H0' C' H' → CellsR X.K H0' C' H' → Yields X.K J H0' P ds → Q ds P C' → R J H'
def WI (T : TX X) (tg iter : Expr) (ρ : Rho) (C : Cells) (Q : QI) : Prop := PI X tg iter (TIx T ρ C Q)
theorem PI.imp {tg e : Expr} {t t' : TI} (h : PI X tg e t) (i : ∀ σ H R, t' σ H R → t σ H R) : PI X tg e t' := ⟨fun pins s σ H R I q => h.run pins s σ H R I (i σ H R q)⟩
theorem yields_list {K : W.Frag} {H0 : Hp} {a : Addr} {vs : List V} {ds : List D} (hs : SqL K H0 a vs) (r : Reps K H0 ds vs) : Yields K (Itl K a) H0 (fun _ => True) ds where
  go := fun i H0' C H e c _ hi => ⟨vs, vs[i]'(by rw [← r.length]; exact hi), Same.sqL (e.trans c.same) hs, by simp⟩
  stop := fun i H0' C H e c _ hi => ⟨vs, Same.sqL (e.trans c.same) hs, by rw [← r.length]; exact hi⟩
  yld := fun i H0' C H x H' d e c _ hd ⟨e1, y⟩ => by
    subst e1
    refine ⟨H0', Stp.refl _ _ _, c, ?_⟩
    have := y vs (Same.sqL (e.trans c.same) hs)
    obtain ⟨v, h1, h2⟩ := r.get hd
    rw [this] at h1; cases h1
    exact h2.mono e
/-- the loop over what is to come -/
def ForW (T : TX X) (tg : Expr) (body : List Stmt) (P : Cells → Prop) (N : TEnds) : List D → Rho → Cells → Prop
  | [], ρ, C => P C ∧ N.nx ρ C
  | d :: r, ρ, C => P C ∧ WG T tg d ρ C fun ρ1 C1 => WSs T body ρ1 C1 { nx := ForW T tg body P N r, ct := ForW T tg body P N r, bk := N.nx, rt := N.rt }
theorem ForW.p {tg : Expr} {P : Cells → Prop} {ds : List D} (h : ForW T tg body P N ds ρ C) : P C := by
  cases ds with
  | nil => exact h.1
  | cons d r => exact h.1
theorem ws_for {tg iter : Expr} (hc : X.calm = true) (h : WI T tg iter ρ C fun ds P C1 => ForW T tg body P N ds ρ C1) (hs : ∀ x, foldedSetIterable iter X.env x = pure x := by intro _; rfl) : WS T (.For tg iter body [] pos) ρ C N := by
  refine PS.imp (ps_for T.pass hc h (pg_some T tg) (pss_some T body) hs) fun Dn σ H ⟨H0, at_, k⟩ => ⟨H0, at_, fun J ds P C1 H1 H01 p1 c1 y1 q1 => ?_⟩
  refine ⟨fun i m σ2 H2 => m = ds.length - i ∧ i ≤ ds.length ∧ ∃ ρ2 C2 H02, At T H02 ρ2 C2 σ2 H2 ∧ Stp H01 C1 H1 H02 C2 H2 ∧ ForW T tg body P N (ds.drop i) ρ2 C2, ⟨_, rfl, Nat.zero_le _, ρ, C1, H01, at_.step p1 c1, Stp.refl _ _ _, q1⟩, ?_⟩
  rintro i m σ2 H2 ⟨rfl, hi, ρ2, C2, H02, at2, p2, q2⟩
  have hP : P C2 := ForW.p q2
  by_cases hlt : i < ds.length
  · refine .inr ⟨y1.go i _ _ _ p2.base at2.c hP hlt, fun σ3 H3 => ∃ ρ3 C3 H03, At T H03 ρ3 C3 σ3 H3 ∧ Stp H01 C1 H1 H03 C3 H3 ∧ ForW T tg body P N (ds.drop (i + 1)) ρ3 C3, fun σ3 H3 ⟨ρ3, C3, H03, at3, p3, q3⟩ => ⟨_, by omega, rfl, hlt, ρ3, C3, H03, at3, p3, q3⟩, fun x H3 hy => ?_⟩
    obtain ⟨H03, p3, c3, r3⟩ := y1.yld i _ _ _ x H3 ds[i] p2.base at2.c hP (by simp [hlt]) hy
    rw [List.drop_eq_getElem_cons hlt] at q2
    have at3 := at2.step p3 c3
    refine ⟨ds[i], ρ2, C2, _, q2.2, H03, at3, r3, fun ρ4 σ4 C4 H4 H04 p4 c4 s4 l4 q4 => ⟨ρ4, C4, _, q4, H04, ⟨T.up at3.a at3.c p4 c4, c4, s4, l4⟩, ?_⟩⟩
    have at4 : At T H04 ρ4 C4 σ4 H4 := ⟨T.up at3.a at3.c p4 c4, c4, s4, l4⟩
    have p14 : Stp H01 C1 H1 H04 C4 H4 := (p2.trans at2.c p3).trans at3.c p4
    have again : ContS X H04 C4 H4 (ForW T tg body P N (ds.drop (i + 1))) fun σ3 H3 => ∃ ρ3 C3 H03, At T H03 ρ3 C3 σ3 H3 ∧ Stp H01 C1 H1 H03 C3 H3 ∧ ForW T tg body P N (ds.drop (i + 1)) ρ3 C3 :=
      fun ρ5 σ5 C5 H5 H05 p5 c5 s5 l5 q5 => ⟨ρ5, C5, H05, ⟨T.up at4.a at4.c p5 c5, c5, s5, l5⟩, p14.trans c4 p5, q5⟩
    have tail := (k.after p1 c1).after p14 c4
    exact ⟨again, tail.rt, tail.nx, again⟩
  · have e : i = ds.length := by omega
    subst e
    rw [List.drop_length] at q2
    exact .inl ⟨y1.stop _ _ _ _ p2.base at2.c hP (Nat.le_refl _), ContS.here ((k.after p1 c1).after p2 at2.c).nx at2 q2.2⟩

/-! ### while: by a word and a measure -/
theorem ws_while {cond : Expr} (W : Nat → Rho → Cells → Prop) (m0 : Nat) (h0 : W m0 ρ C)
    (turn : ∀ m ρ C, W m ρ C → WT T cond ρ C fun k C1 => if k = true then WSs T body ρ C1 { nx := fun ρ' C' => ∃ m', m' < m ∧ W m' ρ' C', ct := fun ρ' C' => ∃ m', m' < m ∧ W m' ρ' C', bk := N.nx, rt := N.rt } else N.nx ρ C1) :
    WS T (.While cond body [] pos) ρ C N := by
  have hcond : PT X cond (fun σ H R => ∃ ρ C Q, WT T cond ρ C Q ∧ TTx T ρ C Q σ H R) := ⟨fun pins s σ H Q I ⟨ρ, C, q, h, t⟩ => h.run pins s σ H Q I t⟩
  refine PS.imp (ps_while T.pass hcond (pss_some T body)) fun Dn σ H ⟨H0, at_, k⟩ => ?_
  refine ⟨fun m σ2 H2 => ∃ ρ2 C2 H02, At T H02 ρ2 C2 σ2 H2 ∧ Stp H0 C H H02 C2 H2 ∧ W m ρ2 C2, ⟨m0, ρ, C, H0, at_, Stp.refl _ _ _, h0⟩, ?_⟩
  rintro m σ2 H2 ⟨ρ2, C2, H02, at2, p2, w2⟩
  refine ⟨ρ2, C2, _, turn m ρ2 C2 w2, H02, at2, fun b C3 H3 H03 p3 c3 q3 => ?_⟩
  have at3 := at2.step p3 c3
  have tail := (k.after p2 at2.c).after p3 c3
  cases b with
  | false => exact ContS.here tail.nx at3 q3
  | true =>
    refine ⟨fun σ4 H4 => ∃ m', m' < m ∧ ∃ ρ4 C4 H04, At T H04 ρ4 C4 σ4 H4 ∧ Stp H0 C H H04 C4 H4 ∧ W m' ρ4 C4, fun σ4 H4 ⟨m', hm, z⟩ => ⟨m', hm, z⟩, ρ2, C3, _, q3, H03, at3, ?_⟩
    have again : ContS X H03 C3 H3 (fun ρ' C' => ∃ m', m' < m ∧ W m' ρ' C') fun σ4 H4 => ∃ m', m' < m ∧ ∃ ρ4 C4 H04, At T H04 ρ4 C4 σ4 H4 ∧ Stp H0 C H H04 C4 H4 ∧ W m' ρ4 C4 :=
      fun ρ5 σ5 C5 H5 H05 p5 c5 s5 l5 ⟨m', hm, w5⟩ => ⟨m', hm, ρ5, C5, H05, ⟨T.up at3.a at3.c p5 c5, c5, s5, l5⟩, (p2.trans at2.c p3).trans at3.c p5, w5⟩
    exact ⟨again, tail.rt, tail.nx, again⟩
end
end Tr

set_option maxHeartbeats 2000000
namespace Tr
open PySem L2 PySem.Spec PyProof.Rows

/-! ### what a def promises, over trees -/
abbrev QX := Value → XF → Cells → Prop
abbrev FS := List D → Cells → QE → QX → Prop
abbrev ContX (K : W.Frag) (H0 : Hp) (C : Cells) (H : Hp) (Qx : QX) (E : XK) : Prop := ∀ cls dd fs C' H' H0', Stp H0 C H H0' C' H' → CellsR K H0' C' H' → ExcR K H0' H' dd fs → Qx cls fs C' → E cls dd H'
abbrev ContK (K : W.Frag) (H0 : Hp) (C : Cells) (H : Hp) (Q : QE) (R : VK) : Prop := ∀ v d C' H' H0', Stp H0 C H H0' C' H' → CellsR K H0' C' H' → Rep K H0' d v → Q d C' → R v H'
def spT (K : W.Frag) (F : FS) : Sp := fun vs H R E => ∃ H0 ds C Q Qx, CellsR K H0 C H ∧ Reps K H0 ds vs ∧ F ds C Q Qx ∧ ContK K H0 C H Q R ∧ ContX K H0 C H Qx E
/-- the trees at a body's entry -/
def rho0 (N : List Str) (ds : List D) : Rho := ds.map some ++ List.replicate (N.length - ds.length) none
theorem slots_start {K : W.Frag} {H0 : Hp} {N : List Str} {ds : List D} {vs : List V} (r : Reps K H0 ds vs) : SlotsR K H0 (rho0 N ds) (L2.start N vs) ∧ (rho0 N ds).length = (L2.start N vs).length := by
  have hl := r.length
  refine ⟨fun i d h => ?_, by simp [rho0, L2.start, hl]⟩
  unfold rho0 at h
  by_cases hi : i < ds.length
  · rw [List.getElem?_append_left (by simpa using hi), List.getElem?_map] at h
    cases e : ds[i]? with
    | none => rw [e] at h; cases h
    | some d' =>
      rw [e] at h; cases h
      obtain ⟨v, h1, h2⟩ := r.get e
      refine ⟨v, ?_, h2⟩
      unfold L2.start
      rw [List.getElem?_append_left (by simp [← hl, hi]), List.getElem?_map, h1]; rfl
  · rw [List.getElem?_append_right (by simpa using hi), List.getElem?_replicate] at h
    split at h <;> cases h

section
variable {P : Program} {w : World} {K : W.Frag} {mg : Str → Option Value} {base : Heap}
/-- the context of a body over trees -/
def bodyT {N : List Str} {qual : Str} {scope : Scope} {f : Addr} {cdv : Value} {A : Around} {outer : List Env} {s : Shared} {H : Hp} {E : XK} {H0 : Hp} {C : Cells} {Qx : QX} (hE : ContX K H0 C H Qx E) :
    TX (cxOf (L2.CX P w) P w K mg base N qual scope f cdv A outer s H E) where
  A := fun H0' C' H' => Stp H0 C H H0' C' H'
  up := fun a c p c' => a.trans c p
  XQ := fun cls fs _ C' => Qx cls fs C'
  tk := (takes_of (X := cxOf (L2.CX P w) P w K mg base N qual scope f cdv A outer s H E) rfl rfl rfl rfl).imp fun cls d σ H' ⟨fs, ρ, C', H0', a, c, _, _, x, q⟩ => hE cls d fs C' H' H0' a c x q
  pass := passes_of rfl
/-- room for k calls, and no repr is under way -/
structure RoomG (k : Nat) (A : Around) : Prop where
  rm : Room k A
  gd : A.guards = some []
theorem RoomG.mono {j k : Nat} {A : Around} (r : RoomG k A) (h : j ≤ k) : RoomG j A := ⟨r.rm.mono h, r.gd⟩
theorem RoomG.deeper {k : Nat} {A : Around} (r : RoomG (k + 1) A) (env : Env) : RoomG k (A.deeper env) := ⟨r.rm.deeper env, r.gd⟩
theorem RoomG.make {k : Nat} {A : Around} (r : RoomG (k + 1) A) (C : Addr) (us : List Value) (kw : List (Str × Value)) : RoomG k (A.under (.builtin "type.__call__" ⟨.ref C :: us, kw⟩)) := by
  refine ⟨r.rm.make C us kw, ?_⟩
  show pushGuards (Code.guards (.builtin "type.__call__" ⟨.ref C :: us, kw⟩)) A.guards = some []
  have e : Code.guards (.builtin "type.__call__" ⟨.ref C :: us, kw⟩) = [] := by
    have n : guardIds.contains "type.__call__" = false := by decide
    unfold Code.guards Code.isGuard
    simp only [n, Bool.false_eq_true, if_false]
  rw [e]; exact r.gd
/-- the def at f keeps the promise F, wherever there is room for it -/
structure FnG (P : Program) (w : World) (K : W.Frag) (mg : Str → Option Value) (base : Heap) (k : Nat) (f : Addr) (fd : FuncData) (ps : List Str) (F : FS) : Prop where
  len : ∀ ds C Q Qx, F ds C Q Qx → ds.length = ps.length
  run : ∀ (A : Around) (outer : List Env) (s : Shared) (H : Hp) (args : Args) (us : List Value) (vs : List V) (R : VK) (E : XK), RoomG k A → Env0 P w K mg base A outer s H → BindsTo s fd args (ps.zip us) → Vals vs us → spT K F vs H R E →
    codeAny (model P w) A (.call (.ref f) args) (CR (L2.CX P w) outer P w H s R E) s
theorem FnG.mono {P : Program} {w : World} {K : W.Frag} {mg : Str → Option Value} {base : Heap} {j k : Nat} {f : Addr} {fd : FuncData} {ps : List Str} {F : FS} (h : FnG P w K mg base j f fd ps F) (e : j ≤ k) : FnG P w K mg base k f fd ps F :=
  ⟨h.len, fun A outer s H args us vs R E hr => h.run A outer s H args us vs R E (hr.mono e)⟩
theorem FnG.imp {P : Program} {w : World} {K : W.Frag} {mg : Str → Option Value} {base : Heap} {k : Nat} {f : Addr} {fd : FuncData} {ps : List Str} {F F' : FS} (h : FnG P w K mg base k f fd ps F) (i : ∀ ds C Q Qx, F' ds C Q Qx → F ds C Q Qx) : FnG P w K mg base k f fd ps F' :=
  ⟨fun ds C Q Qx z => h.len _ _ _ _ (i _ _ _ _ z), fun A outer s H args us vs R E hr e0 hb rv ⟨H0, ds, C, Q, Qx, c, r, z, k1, k2⟩ => h.run A outer s H args us vs R E hr e0 hb rv ⟨H0, ds, C, Q, Qx, c, r, i _ _ _ _ z, k1, k2⟩⟩
/-- THE RULE for a def: its body over trees -/
theorem fnT {x qual : Str} {params : Arguments} {body : List Stmt} {scope : Scope} {dvs : List V} {kws : List (Str × V)} {f : Addr} {fd : FuncData} {N ps : List Str} {k : Nat} {F : FS}
    (Fd : FunD K x qual params body scope dvs kws f fd) (S : FnScope N ps scope) (len : ∀ ds C Q Qx, F ds C Q Qx → ds.length = ps.length)
    (hbody : ∀ (cdv : Value) (A : Around) (outer : List Env) (s : Shared) (H : Hp) (E : XK) (T : TX (cxOf (L2.CX P w) P w K mg base N qual scope f cdv A outer s H E)) (ds : List D) (C : Cells) (Q : QE),
      RoomG k (cxOf (L2.CX P w) P w K mg base N qual scope f cdv A outer s H E).A → F ds C Q (fun cls fs C' => ∀ ρ, T.XQ cls fs ρ C') → WSs T body (rho0 N ds) C { nx := fun _ C' => Q .non C', rt := Q }) :
    FnG P w K mg base (k + 1) f fd ps F := by
  obtain ⟨oc, od, dV, kV, doc, pm, an, cdv, ct, osl, efd, lk, hcd, _, _⟩ := Fd.ex
  subst efd
  refine ⟨len, fun A outer s H args us vs R E hr e0 hb rv ⟨H0, ds, C, Q, Qx, c, r, h, kR, kE⟩ => ?_⟩
  have nvs : vs.length = ps.length := r.length.symm.trans (len _ _ _ _ h)
  have keepB := fun (b : Addr) (o : Obj) (e : base.get? b = some o) => (e0.bs b o e).1
  have inHeap := e0.mod.kin.keeps keepB
  have quiet := e0.mod.nolimit.keeps keepB
  have cellsOk : ∀ y ∈ ps.zip us, scope.names.lookup y.1 = some .local ∨ (scope.names.lookup y.1 = some .cell ∧ ((cellsFrom (s.heap.objs.size + 1) scope.names []).lookup y.1).isSome = true) := by
    rintro ⟨n, v⟩ hy
    exact (S.par n (List.of_mem_zip hy).1).imp id fun q => ⟨q, W.cellsFrom_some _ _ _ (.inl q)⟩
  refine codeAny_call_function hr.rm.depth (inHeap _ _ lk) rfl S.co S.gen rfl (W.codeRec_of inHeap hcd) (hb _ _ _ _ (wpAny_newFunctionEnv_cells S.kind cellsOk ?_))
  intro env he s1 entered
  subst he
  refine ⟨quiet.keeps entered.toInCall.keep, codeAny_func ?_⟩
  have I := inv_start (CX := L2.CX P w) (N := N) (E := E) (H := H) S hr.rm.hd e0 nvs rv entered
  obtain ⟨sl, ln⟩ := slots_start (N := N) r
  have hb2 := hbody cdv A outer s H E (bodyT kE) ds C Q (hr.deeper _) (by
    have same : (fun cls fs C' => ∀ ρ : Rho, (bodyT (P := P) (w := w) (K := K) (mg := mg) (base := base) (N := N) (qual := qual) (scope := scope) (f := f) (cdv := cdv) (A := A) (outer := outer) (s := s) kE).XQ cls fs ρ C') = Qx := by
      funext cls fs C'
      exact propext ⟨fun z => z [], fun z _ => z⟩
    rw [same]; exact h)
  have went := hb2.run [] s1 _ H { nx := fun _ H' => R .non H', rt := R } I ⟨H0, ⟨Stp.refl _ _ _, c, sl, ln⟩, ⟨fun _ _ C' H' H0' p c' _ _ q => kR .non .non C' H' H0' p c' rfl q, kR, fun _ _ _ _ _ _ _ _ _ q => False.elim q, fun _ _ _ _ _ _ _ _ _ q => False.elim q⟩⟩
  refine wpAny_mono went ?_ fun _ _ z => z
  rintro (_ | _ | _ | u) s' hs
  · obtain ⟨_, H', J, q⟩ := hs
    exact ⟨.non, H', J.os, J.bare, J.base, J.hok, rfl, q⟩
  · exact False.elim (let ⟨_, _, _, q⟩ := hs; q)
  · exact False.elim (let ⟨_, _, _, q⟩ := hs; q)
  · obtain ⟨v, _, H', J, rv', q⟩ := hs
    exact ⟨v, H', J.os, J.bare, J.base, J.hok, rv', q⟩
end

/-! ### a callee sees a part of the cells -/
theorem CellsR.part {K : W.Frag} {H0 H : Hp} {C μ r : Cells} (c : CellsR K H0 C H) (p : C.Perm (μ ++ r)) : CellsR K H0 μ H :=
  ⟨c.same, fun a ⟨x, hx⟩ => c.free a ⟨x, p.mem_iff.mpr (List.mem_append_left _ hx)⟩, fun a x hx => c.ok a x (p.mem_iff.mpr (List.mem_append_left _ hx)),
    (List.nodup_append.mp (by have := (p.map (·.1)).nodup_iff.mp c.nd; rwa [List.map_append] at this)).1⟩
theorem CellsR.back {K : W.Frag} {H0 H H0' H' : Hp} {C μ r μ' : Cells} (c : CellsR K H0 C H) (p : C.Perm (μ ++ r)) (st : Stp H0 μ H H0' μ' H') (c' : CellsR K H0' μ' H') :
    Stp H0 C H H0' (μ' ++ r) H' ∧ CellsR K H0' (μ' ++ r) H' := by
  have nd := (p.map (·.1)).nodup_iff.mp c.nd
  rw [List.map_append, List.nodup_append] at nd
  have off : ∀ a, Dom r a → ¬ Dom μ a := fun a ⟨x, hx⟩ ⟨y, hy⟩ => nd.2.2 a (List.mem_map.mpr ⟨_, hy, rfl⟩) a (List.mem_map.mpr ⟨_, hx, rfl⟩) rfl
  have inC : ∀ a, Dom r a → Dom C a := fun a ⟨x, hx⟩ => ⟨x, p.mem_iff.mpr (List.mem_append_right _ hx)⟩
  have rest : ∀ a, Dom r a → H0' a = none ∧ ¬ Dom μ' a ∧ H' a = H a := fun a d => by
    obtain ⟨x, hx⟩ := id d
    have ne := (c.ok a x (p.mem_iff.mpr (List.mem_append_right _ hx))).some
    obtain ⟨q1, q2⟩ := st.own a ne (c.free a (inC a d)) (off a d)
    obtain ⟨o, ho⟩ := Option.ne_none_iff_exists'.mp ne
    exact ⟨q1, q2, by rw [ho]; exact st.fr a o ho (off a d)⟩
  have domC : ∀ a, Dom C a ↔ Dom μ a ∨ Dom r a := fun a => by
    constructor
    · rintro ⟨x, hx⟩
      rcases List.mem_append.mp (p.mem_iff.mp hx) with h | h
      · exact .inl ⟨x, h⟩
      · exact .inr ⟨x, h⟩
    · rintro (⟨x, hx⟩ | h)
      · exact ⟨x, p.mem_iff.mpr (List.mem_append_left _ hx)⟩
      · exact inC a h
  refine ⟨⟨st.base, fun a o h n => st.fr a o h fun d => n ((domC a).mpr (.inl d)), fun a h e n => ?_⟩, ⟨c'.same, fun a d => ?_, fun a x hx => ?_, ?_⟩⟩
  · obtain ⟨q1, q2⟩ := st.own a h e fun d => n ((domC a).mpr (.inl d))
    refine ⟨q1, fun ⟨x, hx⟩ => ?_⟩
    rcases List.mem_append.mp hx with hx | hx
    · exact q2 ⟨x, hx⟩
    · exact n ((domC a).mpr (.inr ⟨x, hx⟩))
  · obtain ⟨x, hx⟩ := d
    rcases List.mem_append.mp hx with hx | hx
    · exact c'.free a ⟨x, hx⟩
    · exact (rest a ⟨x, hx⟩).1
  · rcases List.mem_append.mp hx with hx | hx
    · exact c'.ok a x hx
    · exact (c.ok a x (p.mem_iff.mpr (List.mem_append_right _ hx))).mono st.base (rest a ⟨x, hx⟩).2.2
  · rw [List.map_append, List.nodup_append]
    refine ⟨c'.nd, nd.2.1, fun a ha b hb e => ?_⟩
    subst e
    obtain ⟨⟨a1, x⟩, h1, h2⟩ := List.mem_map.mp ha
    obtain ⟨⟨a2, y⟩, h3, h4⟩ := List.mem_map.mp hb
    simp only at h2 h4
    subst h2; subst h4
    exact (rest _ ⟨y, h3⟩).2.1 ⟨x, h1⟩

section
variable {X : Cx} {T : TX X} {ρ : Rho} {C : Cells} {Q : QE} {e a b o : Expr} {pos p apos : Pos} {es : List Expr} {k : Nat} {f Cl : Addr} {fd : FuncData} {ps : List Str} {F : FS} {dvs : List V} {dds : List D} {dus : List Value} {x m : Str}
/-- what a call asks: its part of the cells, the def's promise there -/
def Asks (T : TX X) (F : FS) (ρ : Rho) (ds : List D) (C : Cells) (Q : QE) : Prop :=
  ∃ μ r, C.Perm (μ ++ r) ∧ F ds μ (fun d μ' => Q d (μ' ++ r)) fun cls fs μ' => T.XQ cls fs ρ (μ' ++ r)
theorem asks_sp {H0 H : Hp} {ds : List D} {vs : List V} {R : VK} {σ : L2.St} (h : Asks T F ρ ds C Q) (at_ : At T H0 ρ C σ H) (r : Reps X.K H0 ds vs) (k : Cont X H0 C H Q R) :
    spT X.K F vs H R (L2.WE (fun cls d σ H => ∃ fs ρ C H0, T.A H0 C H ∧ CellsR X.K H0 C H ∧ SlotsR X.K H0 ρ σ ∧ ρ.length = σ.length ∧ ExcR X.K H0 H d fs ∧ T.XQ cls fs ρ C) σ) := by
  obtain ⟨μ, rr, pm, h⟩ := h
  refine ⟨H0, ds, μ, _, _, at_.c.part pm, r, h, fun v d C' H' H0' p c r' q => ?_, fun cls dd fs C' H' H0' p c x q => ?_⟩
  · obtain ⟨p2, c2⟩ := at_.c.back pm p c
    exact k v d _ H' H0' p2 c2 r' q
  · obtain ⟨p2, c2⟩ := at_.c.back pm p c
    have a2 := at_.step p2 c2
    exact ⟨fs, ρ, _, H0', a2.a, a2.c, a2.s, a2.l, x, q⟩
/-- the callee runs -/
theorem run_T {pins : List (Addr × Obj)} {σ : L2.St} {H H0 : Hp} {s : Shared} {R : VK} {us : List Value} {vs : List V} {ds : List D} (Fk : FnG X.prog X.w X.K X.mg X.base k f fd ps F) (hr : RoomG k X.A) (hb : Binds X.K fd ps dus) (hd : Vals dvs dus) (hdd : ∀ H, Reps X.K H dds dvs)
    (I : Inv X pins σ H s) (rv : Vals vs us) (at_ : At T H0 ρ C σ H) (r : Reps X.K H0 ds vs) (h : Asks T F ρ (ds ++ dds) C Q) (k : Cont X H0 C H Q R) : wpAny (model X.prog X.w) X.A (call (.ref f) us) (EP X pins σ R) X.xe s := by
  have all := asks_sp h at_ (r.append (hdd H0)) k
  have nlen : (us ++ dus).length = ps.length := by
    obtain ⟨_, ds', _, _, _, _, r', h', _⟩ := id all
    rw [← (rv.append hd).length, ← r'.length]
    exact Fk.len _ _ _ _ h'
  have went := Fk.run X.A X.stack s H ⟨us, []⟩ (us ++ dus) (vs ++ dvs) R _ hr I.env0 (hb s us I.kIn nlen) (rv.append hd) all
  refine wpAny_call (codeAny_mono went ?_)
  rintro (e | (_ | _ | _ | u)) s' hq
  · exact passAt T.tk σ pins H s e s' I hq
  · exact False.elim hq
  · exact False.elim hq
  · exact False.elim hq
  · exact I.after hq
/-- f(a, ..) -/
theorem we_call (Fk : FnG X.prog X.w X.K X.mg X.base k f fd ps F) (hr : RoomG k X.A) (hg : Gl X x) (hm : X.mg x = some (.ref f)) (hk : W.keepIn X.K (.ref f) = true) (hb : Binds X.K fd ps dus) (hd : Vals dvs dus) (hdd : ∀ H, Reps X.K H dds dvs)
    (h : WA T (a :: es) ρ C fun ds C1 => Asks T F ρ (ds ++ dds) C1 Q) (hdb : (x == ("__debug__" : Str)) = false := by decide) (he : starEach (a :: es) X.env = (false, eval a X.env) :: starEach es X.env := by rfl) (hpl : (backTo pos (starEach es X.env)).any (·.1) = false := by rfl) :
    WE T (.Call (.Name x p) (a :: es) [] pos) ρ C Q := by
  refine ⟨fun pins s σ H R I ⟨H0, at_, k⟩ => wpAny_Call_Name_kw (ld_glob I hg hm (W.callWith_K (h₀ := X.base) I.ok.mod.kin hk ?_ he hpl) hdb)⟩
  refine thn (h.run pos pins s σ H (fun vs H1 => ∃ ds C1 H01, At T H01 ρ C1 σ H1 ∧ Cont X H01 C1 H1 Q R ∧ Reps X.K H01 ds vs ∧ Asks T F ρ (ds ++ dds) C1 Q) I ⟨H0, at_, fun vs ds C1 H1 H01 p1 c1 r1 q1 => ⟨ds, C1, H01, at_.step p1 c1, k.after p1 c1 fun _ _ z => z, r1, q1⟩⟩) ?_
  exact fun us s1 ⟨vs, H1, I1, rv, ds, C1, H01, at1, k1, r1, q1⟩ => ⟨I1.kIn, run_T Fk hr hb hd hdd I1 rv at1 r1 q1 k1⟩
/-- f() -/
theorem we_call0 (Fk : FnG X.prog X.w X.K X.mg X.base k f fd ps F) (hr : RoomG k X.A) (hg : Gl X x) (hm : X.mg x = some (.ref f)) (hk : W.keepIn X.K (.ref f) = true) (hb : Binds X.K fd ps dus) (hd : Vals dvs dus) (hdd : ∀ H, Reps X.K H dds dvs)
    (h : Asks T F ρ dds C Q) (hdb : (x == ("__debug__" : Str)) = false := by decide) : WE T (.Call (.Name x p) [] [] pos) ρ C Q :=
  ⟨fun pins s σ H R I ⟨H0, at_, k⟩ => wpAny_Call_Name_kw (ld_glob I hg hm (W.callWith_K0 I.kIn hk (run_T (us := []) (vs := []) (ds := []) Fk hr hb hd hdd I .nil at_ Reps.nil h k)) hdb)⟩

/-! ### instances -/
/-- d is an instance: one that stands still, or a cell -/
def InsD (C : Cells) (d : D) (Cl : Addr) (ns : List Str) (ds : List D) : Prop := d = .ins Cl ns ds ∨ ∃ a, d = .raw (.ref a) ∧ (a, Cell.ins Cl ns ds) ∈ C
theorem ins_at {H0 H : Hp} {d : D} {v : V} {ns : List Str} {ds : List D} (c : CellsR X.K H0 C H) (r : Rep X.K H0 d v) (h : InsD C d Cl ns ds) : ∃ a dx vs, v = .ref a ∧ H a = some (.ins Cl dx (ns.zip vs)) ∧ ns.length = vs.length ∧ Reps X.K H0 ds vs := by
  rcases h with rfl | ⟨a, rfl, hm⟩
  · obtain ⟨a, dx, vs, h1, h2, h3, h4⟩ := r
    exact ⟨a, dx, vs, h1, c.same _ _ h2, h3, h4⟩
  · obtain ⟨dx, vs, h2, h3, h4⟩ := c.ok a _ hm
    exact ⟨a, dx, vs, r, h2, h3, h4⟩
theorem lookup_zip {K : W.Frag} {H0 : Hp} {f : Str} {d : D} : ∀ {ns : List Str} {ds : List D} {vs : List V}, Reps K H0 ds vs → ns.length = vs.length → (ns.zip ds).lookup f = some d → ∃ v, (ns.zip vs).lookup f = some v ∧ Rep K H0 d v
  | [], _, _, _, _, h => by simp at h
  | n :: ns, [], _, _, _, h => by simp at h
  | n :: ns, d0 :: ds, vs, ⟨v, r, h1, h2, h3⟩, hl, h => by
    subst h1
    rw [List.zip_cons_cons, List.lookup_cons] at h ⊢
    cases e : f == n with
    | true => rw [e] at h; cases h; exact ⟨v, rfl, h2⟩
    | false => rw [e] at h; exact lookup_zip h3 (by simpa using hl) h
theorem lookup_zip_none {f : Str} : ∀ {ns : List Str} {vs : List V}, ns.contains f = false → (ns.zip vs).lookup f = none
  | [], _, _ => by simp
  | n :: ns, [], _ => by simp
  | n :: ns, v :: vs, h => by
    rw [List.contains_cons, Bool.or_eq_false_iff] at h
    rw [List.zip_cons_cons, List.lookup_cons, h.1]
    exact lookup_zip_none h.2
/-- e.f -/
theorem we_fld (hb : attributeBase e m X.env (eval e X.env) = eval e X.env) (h : WE T e ρ C fun d C1 => ∃ Cl ns ds d', InsD C1 d Cl ns ds ∧ Cls X.K Cl ∧ NoAttr X.K Cl m ∧ (ns.zip ds).lookup m = some d' ∧ Q d' C1) : WE T (.Attribute e m pos) ρ C Q :=
  PE.imp (pe_fld h hb) fun σ H R ⟨H0, at_, k⟩ => ⟨H0, at_, fun v d C1 H1 H01 p1 c1 r1 ⟨Cl, ns, ds, d', hi, hc, hn, hl, q⟩ => by
    obtain ⟨a, dx, vs, e1, e2, e3, e4⟩ := ins_at c1 r1 hi
    obtain ⟨v', g1, g2⟩ := lookup_zip e4 e3 hl
    exact ⟨a, Cl, dx, _, v', e1, e2, hc, hn, g1, k _ d' C1 H1 H01 p1 c1 g2 q⟩⟩
/-- where a method is found -/
theorem meth_T {pins : List (Addr × Obj)} {σ : L2.St} {H H0 : Hp} {s : Shared} {R : Value × List Value → Shared → Prop} {E : Value → Shared → Prop} {pl : Sem Bool} {g : Addr} {d : D} {v : V} {u : Value} {ns : List Str} {fds : List D} (c : Cls X.K Cl) (hm : Meth X.K Cl m g) (I : Inv X pins σ H s) (rv : RelV v u) (cr : CellsR X.K H0 C H) (r : Rep X.K H0 d v)
    (hi : InsD C d Cl ns fds) (hno : ns.contains m = false) (q : ∀ ad, u = .ref ad → v = .ref ad → R (.ref g, [.ref ad]) s) : wpAny (model X.prog X.w) X.A (getMethod u m pl) R E s := by
  obtain ⟨ad, dx, vs, e1, e2, e3, e4⟩ := ins_at cr r hi
  subst e1
  obtain rfl : u = Value.ref ad := rv
  exact getmeth_ok I e2 c hm (lookup_zip_none hno) (q ad rfl rfl)
/-- o.m(a, ..) -/
theorem we_meth {pl : Sem Bool} {g : Addr} (c : Cls X.K Cl) (hm : Meth X.K Cl m g) (Fk : FnG X.prog X.w X.K X.mg X.base k g fd ps F) (hr : RoomG k X.A) (hb : Binds X.K fd ps dus) (hd : Vals dvs dus) (hdd : ∀ H, Reps X.K H dds dvs)
    (h : WE T o ρ C fun d C1 => ∃ ns fds, InsD C1 d Cl ns fds ∧ ns.contains m = false ∧ WA T (a :: es) ρ C1 fun ds C2 => Asks T F ρ (d :: (ds ++ dds)) C2 Q)
    (hst : starEach (a :: es) X.env = (false, eval a X.env) :: starEach es X.env := by rfl) (hpl : (backTo pos (starEach es X.env)).any (·.1) = false := by rfl)
    (ht : eval (.Call (.Attribute o m apos) (a :: es) [] pos) X.env = (do
      let ov ← eval o X.env
      standAt apos.atName
      let (f, first) ← holding [ov] (getMethod ov m pl)
      callWith pos f first (backTo pos (starEach (a :: es) X.env)) (backToKw pos (keywordEach [] X.env))) := by rfl) :
    WE T (.Call (.Attribute o m apos) (a :: es) [] pos) ρ C Q := by
  refine ⟨fun pins s σ H R I ⟨H0, at_, k⟩ => W.methodCall_KW (pl := pl) ?_ ht⟩
  refine thn (h.run pins s σ H (fun v H1 => ∃ d C1 H01 ns fds, At T H01 ρ C1 σ H1 ∧ Cont X H01 C1 H1 Q R ∧ Rep X.K H01 d v ∧ InsD C1 d Cl ns fds ∧ ns.contains m = false ∧ WA T (a :: es) ρ C1 fun ds C2 => Asks T F ρ (d :: (ds ++ dds)) C2 Q) I
    ⟨H0, at_, fun v d C1 H1 H01 p1 c1 r1 ⟨ns, fds, hi, hno, q⟩ => ⟨d, C1, H01, ns, fds, at_.step p1 c1, k.after p1 c1 fun _ _ z => z, r1, hi, hno, q⟩⟩) ?_
  rintro u s1 ⟨v, H1, I1, rv, d, C1, H01, ns, fds, at1, k1, r1, hi, hno, hw⟩
  refine meth_T c hm I1 rv at1.c r1 hi hno fun ad eu ev => ?_
  subst ev
  refine W.callWith_K (first := [.ref ad]) (h₀ := X.base) I1.ok.mod.kin hm.kp (thn (hw.run pos pins s1 σ H1 (fun vs H2 => ∃ ds C2 H02, At T H02 ρ C2 σ H2 ∧ Cont X H02 C2 H2 Q R ∧ Rep X.K H02 d (.ref ad) ∧ Reps X.K H02 ds vs ∧ Asks T F ρ (d :: (ds ++ dds)) C2 Q) I1
    ⟨H01, at1, fun vs ds C2 H2 H02 p2 c2 r2 q2 => ⟨ds, C2, H02, at1.step p2 c2, k1.after p2 c2 fun _ _ z => z, r1.mono p2.base, r2, q2⟩⟩) ?_) hst hpl
  rintro us s2 ⟨vs, H2, I2, rvs, ds, C2, H02, at2, k2, rd, rds, q2⟩
  exact ⟨I2.kIn, run_T (us := .ref ad :: us) (vs := .ref ad :: vs) (ds := d :: ds) Fk hr hb hd hdd I2 (.cons rfl rvs) at2 (Reps.cons rd rds) q2 k2⟩
/-- o.m() -/
theorem we_meth0 {pl : Sem Bool} {g : Addr} (c : Cls X.K Cl) (hm : Meth X.K Cl m g) (Fk : FnG X.prog X.w X.K X.mg X.base k g fd ps F) (hr : RoomG k X.A) (hb : Binds X.K fd ps dus) (hd : Vals dvs dus) (hdd : ∀ H, Reps X.K H dds dvs)
    (h : WE T o ρ C fun d C1 => ∃ ns fds, InsD C1 d Cl ns fds ∧ ns.contains m = false ∧ Asks T F ρ (d :: dds) C1 Q)
    (ht : eval (.Call (.Attribute o m apos) [] [] pos) X.env = (do
      let ov ← eval o X.env
      standAt apos.atName
      let (f, first) ← holding [ov] (getMethod ov m pl)
      callWith pos f first (backTo pos (starEach [] X.env)) (backToKw pos (keywordEach [] X.env))) := by rfl) :
    WE T (.Call (.Attribute o m apos) [] [] pos) ρ C Q := by
  refine ⟨fun pins s σ H R I ⟨H0, at_, k⟩ => W.methodCall_KW (pl := pl) ?_ ht⟩
  refine thn (h.run pins s σ H (fun v H1 => ∃ d C1 H01 ns fds, At T H01 ρ C1 σ H1 ∧ Cont X H01 C1 H1 Q R ∧ Rep X.K H01 d v ∧ InsD C1 d Cl ns fds ∧ ns.contains m = false ∧ Asks T F ρ (d :: dds) C1 Q) I
    ⟨H0, at_, fun v d C1 H1 H01 p1 c1 r1 ⟨ns, fds, hi, hno, q⟩ => ⟨d, C1, H01, ns, fds, at_.step p1 c1, k.after p1 c1 fun _ _ z => z, r1, hi, hno, q⟩⟩) ?_
  rintro u s1 ⟨v, H1, I1, rv, d, C1, H01, ns, fds, at1, k1, r1, hi, hno, hw⟩
  refine meth_T c hm I1 rv at1.c r1 hi hno fun ad eu ev => ?_
  subst ev
  exact W.callWith_K0 (first := [.ref ad]) I1.kIn hm.kp (run_T (us := [.ref ad]) (vs := [.ref ad]) (ds := [d]) Fk hr hb hd hdd I1 (.cons rfl .nil) at1 (Reps.cons r1 Reps.nil) hw k1)
end
end Tr

set_option maxHeartbeats 2000000
namespace Tr
open PySem L2 PySem.Spec PyProof.Rows

/-! ### a new instance -/
section
variable {X : Cx} {T : TX X} {ρ : Rho} {C : Cells} {Q : QE} {e a b o : Expr} {pos p apos : Pos} {es : List Expr} {k : Nat} {f Cl : Addr} {fd : FuncData} {ps : List Str} {F : FS} {dvs : List V} {dds : List D} {dus : List Value} {x m : Str}
/-- what the making of an instance asks -/
def AsksM (T : TX X) (F : FS) (Cl : Addr) (ρ : Rho) (ds : List D) (C : Cells) (Q : QE) : Prop :=
  ∃ μ r, C.Perm (μ ++ r) ∧ ∀ z, F (.raw (.ref z) :: ds) ((z, .ins Cl [] []) :: μ) (fun d μ' => d = .non ∧ Q (.raw (.ref z)) (μ' ++ r)) fun cls fs μ' => T.XQ cls fs ρ (μ' ++ r)
theorem stp_made {K : W.Frag} {H0 H : Hp} {C : Cells} {z dz Cl : Addr} (c : CellsR K H0 C H) (hz : H z = none) (hdz : H dz = none) (ne : dz ≠ z) :
    Stp H0 C H (upd H0 dz (.own z)) ((z, .ins Cl [] []) :: C) (upd (upd H dz (.own z)) z (.ins Cl dz [])) ∧ CellsR K (upd H0 dz (.own z)) ((z, .ins Cl [] []) :: C) (upd (upd H dz (.own z)) z (.ins Cl dz [])) := by
  obtain ⟨p1, c1⟩ := stp_new (o := .own z) c hdz
  have hz1 : (upd H dz (.own z)) z = none := by rw [upd_ne (Ne.symm ne)]; exact hz
  obtain ⟨p2, c2⟩ := stp_cell (o := .ins Cl dz []) (c := .ins Cl [] []) c1 hz1 ⟨dz, [], by rw [upd_same]; rfl, rfl, Reps.nil⟩
  exact ⟨p1.trans c1 p2, c2⟩
theorem asksM_sp {H0 H : Hp} {ds : List D} {vs : List V} {R : VK} {σ : L2.St} (h : AsksM T F Cl ρ ds C Q) (at_ : At T H0 ρ C σ H) (r : Reps X.K H0 ds vs) (k : Cont X H0 C H Q R) {z dz : Addr} (hz : H z = none) (hdz : H dz = none) (ne : dz ≠ z) :
    spT X.K F (.ref z :: vs) (upd (upd H dz (.own z)) z (.ins Cl dz [])) (fun v H2 => v = .non ∧ R (.ref z) H2) (L2.WE (fun cls d σ H => ∃ fs ρ C H0, T.A H0 C H ∧ CellsR X.K H0 C H ∧ SlotsR X.K H0 ρ σ ∧ ρ.length = σ.length ∧ ExcR X.K H0 H d fs ∧ T.XQ cls fs ρ C) σ) := by
  obtain ⟨μ, rr, pm, h⟩ := h
  obtain ⟨p1, c1⟩ := stp_made (Cl := Cl) at_.c hz hdz ne
  have at1 := at_.step p1 c1
  have pm1 : ((z, Cell.ins Cl [] []) :: C).Perm (((z, Cell.ins Cl [] []) :: μ) ++ rr) := by rw [List.cons_append]; exact pm.cons _
  refine ⟨upd H0 dz (.own z), .raw (.ref z) :: ds, (z, .ins Cl [] []) :: μ, _, _, c1.part pm1, Reps.cons rfl (r.mono p1.base), h z, fun v d C' H' H0' p c r' ⟨q1, q2⟩ => ?_, fun cls dd fs C' H' H0' p c xr q => ?_⟩
  · subst q1
    obtain ⟨p2, c2⟩ := c1.back pm1 p c
    exact ⟨r', k (.ref z) (.raw (.ref z)) _ H' H0' (p1.trans c1 p2) c2 rfl q2⟩
  · obtain ⟨p2, c2⟩ := c1.back pm1 p c
    have a3 := at_.step (p1.trans c1 p2) c2
    exact ⟨fs, ρ, _, H0', a3.a, a3.c, a3.s, a3.l, xr, q⟩
/-- the making runs -/
theorem run_makeT {pins : List (Addr × Obj)} {σ : L2.St} {H H0 : Hp} {s : Shared} {R : VK} {us : List Value} {vs : List V} {ds : List D} (M : Mk X.K Cl f) (Fk : FnG X.prog X.w X.K X.mg X.base k f fd ps F) (hr : RoomG (k + 1) X.A) (hb : Binds X.K fd ps dus) (hd : Vals dvs dus) (hdd : ∀ H, Reps X.K H dds dvs)
    (I : Inv X pins σ H s) (rv : Vals vs us) (at_ : At T H0 ρ C σ H) (r : Reps X.K H0 ds vs) (h : AsksM T F Cl ρ (ds ++ dds) C Q) (k : Cont X H0 C H Q R) : wpAny (model X.prog X.w) X.A (call (.ref Cl) us) (EP X pins σ R) X.xe s := by
  have J := Inv.made (C := Cl) I
  have all := asksM_sp h at_ (r.append (hdd H0)) k (z := s.heap.objs.size + 1) (dz := s.heap.objs.size) (I.hok.fresh (Nat.le_succ _)) (I.hok.fresh (Nat.le_refl _)) (Nat.ne_of_lt (Nat.lt_succ_self _))
  have rall : Vals (V.ref (s.heap.objs.size + 1) :: (vs ++ dvs)) (Value.ref (s.heap.objs.size + 1) :: (us ++ dus)) := .cons rfl (rv.append hd)
  have nlen : ((Value.ref (s.heap.objs.size + 1) :: us) ++ dus).length = ps.length := by
    obtain ⟨_, ds', _, _, _, _, r', h', _⟩ := id all
    have e1 := Fk.len _ _ _ _ h'
    rw [r'.length, rall.length] at e1
    exact e1
  have went := Fk.run _ X.stack _ _ ⟨Value.ref (s.heap.objs.size + 1) :: us, []⟩ _ _ _ _ (hr.make Cl us []) (J.env0.make Cl us []) (hb _ (Value.ref (s.heap.objs.size + 1) :: us) J.kIn nlen) rall all
  refine wpAny_call (make_map (f := f) I.kIn M.makes M.init (beq_iff_eq.mp M.fn) (codeAny_mono went ?_))
  rintro (e | (_ | _ | _ | u)) s' hq
  · exact passAt T.tk σ pins _ _ e s' J hq
  · exact False.elim hq
  · exact False.elim hq
  · exact False.elim hq
  · obtain ⟨v, H', I', rv', ev, q⟩ := J.after hq
    subst ev
    exact ⟨rv', .ref (s.heap.objs.size + 1), H', I', rfl, q⟩
/-- C(a, ..) -/
theorem we_make (M : Mk X.K Cl f) (Fk : FnG X.prog X.w X.K X.mg X.base k f fd ps F) (hr : RoomG (k + 1) X.A) (hg : Gl X x) (hm : X.mg x = some (.ref Cl)) (hb : Binds X.K fd ps dus) (hd : Vals dvs dus) (hdd : ∀ H, Reps X.K H dds dvs)
    (h : WA T (a :: es) ρ C fun ds C1 => AsksM T F Cl ρ (ds ++ dds) C1 Q) (hdb : (x == ("__debug__" : Str)) = false := by decide) (he : starEach (a :: es) X.env = (false, eval a X.env) :: starEach es X.env := by rfl) (hpl : (backTo pos (starEach es X.env)).any (·.1) = false := by rfl) :
    WE T (.Call (.Name x p) (a :: es) [] pos) ρ C Q := by
  refine ⟨fun pins s σ H R I ⟨H0, at_, k⟩ => wpAny_Call_Name_kw (ld_glob I hg hm (W.callWith_K (h₀ := X.base) I.ok.mod.kin M.kp ?_ he hpl) hdb)⟩
  refine thn (h.run pos pins s σ H (fun vs H1 => ∃ ds C1 H01, At T H01 ρ C1 σ H1 ∧ Cont X H01 C1 H1 Q R ∧ Reps X.K H01 ds vs ∧ AsksM T F Cl ρ (ds ++ dds) C1 Q) I
    ⟨H0, at_, fun vs ds C1 H1 H01 p1 c1 r1 q1 => ⟨ds, C1, H01, at_.step p1 c1, k.after p1 c1 fun _ _ z => z, r1, q1⟩⟩) ?_
  exact fun us s1 ⟨vs, H1, I1, rv, ds, C1, H01, at1, k1, r1, q1⟩ => ⟨I1.kIn, run_makeT M Fk hr hb hd hdd I1 rv at1 r1 q1 k1⟩
theorem we_make0 (M : Mk X.K Cl f) (Fk : FnG X.prog X.w X.K X.mg X.base k f fd ps F) (hr : RoomG (k + 1) X.A) (hg : Gl X x) (hm : X.mg x = some (.ref Cl)) (hb : Binds X.K fd ps dus) (hd : Vals dvs dus) (hdd : ∀ H, Reps X.K H dds dvs)
    (h : AsksM T F Cl ρ dds C Q) (hdb : (x == ("__debug__" : Str)) = false := by decide) : WE T (.Call (.Name x p) [] [] pos) ρ C Q :=
  ⟨fun pins s σ H R I ⟨H0, at_, k⟩ => wpAny_Call_Name_kw (ld_glob I hg hm (W.callWith_K0 I.kIn M.kp (run_makeT (us := []) (vs := []) (ds := []) M Fk hr hb hd hdd I .nil at_ Reps.nil h k)) hdb)⟩

/-! ### cells that stand still from now on -/
def Cell.toD : Cell → D
  | .lst ds => .lst ds
  | .dK ks ds => .dic ks ds
  | .ins Cl ns ds => .ins Cl ns ds
theorem stp_freeze {K : W.Frag} {H0 H : Hp} {C : Cells} {i : Nat} {z : Addr} {c : Cell} (r : CellsR K H0 C H) (hi : C[i]? = some (z, c)) :
    ∃ o, H z = some o ∧ Stp H0 C H (upd H0 z o) (C.eraseIdx i) H ∧ CellsR K (upd H0 z o) (C.eraseIdx i) H ∧ Rep K (upd H0 z o) c.toD (.ref z) := by
  have hm : (z, c) ∈ C := List.mem_iff_getElem?.mpr ⟨i, hi⟩
  have ok := r.ok z c hm
  obtain ⟨o, ho⟩ := Option.ne_none_iff_exists'.mp ok.some
  have n0 := r.free z ⟨c, hm⟩
  have s0 : Same H0 (upd H0 z o) := fun a u h => by rw [upd_ne (ne_of_none h n0)]; exact h
  have er : ∀ a x, (a, x) ∈ C.eraseIdx i → (a, x) ∈ C ∧ a ≠ z := fun a x h => by
    have h' := List.mem_of_mem_eraseIdx h
    refine ⟨h', fun e => ?_⟩
    subst e
    obtain ⟨j, hj⟩ := List.mem_iff_getElem?.mp h
    rw [List.getElem?_eraseIdx] at hj
    have nd := r.nd
    have key : ∀ j', C[j']? = some (a, x) → j' = i := fun j' hj' => by
      have h1 : (C.map (·.1))[i]? = some a := by rw [List.getElem?_map, hi]; rfl
      have h2 : (C.map (·.1))[j']? = some a := by rw [List.getElem?_map, hj']; rfl
      obtain ⟨l1, e1⟩ := List.getElem?_eq_some_iff.mp h1
      obtain ⟨l2, e2⟩ := List.getElem?_eq_some_iff.mp h2
      exact ((List.getElem_inj nd).mp (e1.trans e2.symm)).symm
    split at hj
    · have := key _ hj; omega
    · have := key _ hj; omega
  refine ⟨o, ho, ⟨s0, fun a u h _ => h, fun a h e n => ⟨?_, fun ⟨x, hx⟩ => n ⟨x, (er a x hx).1⟩⟩⟩, ⟨fun a u h => ?_, fun a ⟨x, hx⟩ => ?_, fun a x hx => (r.ok a x (er a x hx).1).mono s0 rfl, ?_⟩, ?_⟩
  · rw [upd_ne (show a ≠ z from fun q => n ⟨c, by rw [q]; exact hm⟩)]; exact e
  · by_cases q : a = z
    · subst q; rw [upd_same] at h; cases h; exact ho
    · rw [upd_ne q] at h; exact r.same a u h
  · rw [upd_ne (er a x hx).2]; exact r.free a ⟨x, (er a x hx).1⟩
  · exact r.nd.sublist ((List.eraseIdx_sublist _ _).map _)
  · cases c with
    | lst ds =>
      obtain ⟨vs, q1, q2⟩ := ok
      rw [ho] at q1; cases q1
      exact ⟨z, vs, rfl, .inl (.inl upd_same), q2.mono s0⟩
    | dK ks ds =>
      obtain ⟨vs, q1, q3, q2⟩ := ok
      rw [ho] at q1; cases q1
      exact ⟨z, vs, rfl, .inl upd_same, q3, q2.mono s0⟩
    | ins Cl ns ds =>
      obtain ⟨dx, vs, q1, q3, q2⟩ := ok
      rw [ho] at q1; cases q1
      exact ⟨z, dx, vs, rfl, upd_same, q3, q2.mono s0⟩
/-- a result that is a cell, as a tree -/
theorem we_frz (h : WE T e ρ C fun d C1 => ∃ (i : Nat) (z : Addr) (c : Cell), d = .raw (.ref z) ∧ C1[i]? = some (z, c) ∧ Q c.toD (C1.eraseIdx i)) : WE T e ρ C Q :=
  PE.imp h fun σ H R ⟨H0, at_, k⟩ => ⟨H0, at_, fun v d C1 H1 H01 p1 c1 r1 ⟨i, z, c, e1, hi, q⟩ => by
    subst e1
    obtain rfl : v = .ref z := r1
    obtain ⟨o, ho, p2, c2, r2⟩ := stp_freeze c1 hi
    exact k _ _ _ H1 _ (p1.trans c1 p2) c2 r2 q⟩
/-- a slot that is a cell, as a tree -/
theorem wss_frz {N : TEnds} {st : List Stmt} (j i : Nat) {z : Addr} {c : Cell} (hj : ρ[j]? = some (some (.raw (.ref z)))) (hi : C[i]? = some (z, c)) (h : WSs T st (ρ.set j (some c.toD)) (C.eraseIdx i) N) : WSs T st ρ C N :=
  PSs.imp h fun Dn σ H ⟨H0, at_, k⟩ => by
    obtain ⟨o, ho, p2, c2, r2⟩ := stp_freeze at_.c hi
    have at2 := at_.step p2 c2
    obtain ⟨v, hv, rv⟩ := at_.s j _ hj
    obtain rfl : v = .ref z := rv
    refine ⟨_, ⟨at2.a, at2.c, fun i' d hd => ?_, by rw [List.length_set]; exact at2.l⟩, k.after p2 c2⟩
    rw [List.getElem?_set] at hd
    split at hd
    · rename_i e; subst e
      split at hd
      · cases hd; exact ⟨_, hv, r2⟩
      · cases hd
    · exact at2.s i' d hd


/-! ### a field is stored -/
def putN (f : Str) (d : D) : List Str → List D → List Str × List D
  | n :: ns, x :: ds => if n = f then (n :: ns, d :: ds) else (n :: (putN f d ns ds).1, x :: (putN f d ns ds).2)
  | _, _ => ([f], [d])
theorem reps_put {K : W.Frag} {H0 : Hp} {f : Str} {d : D} {v : V} (r : Rep K H0 d v) : ∀ {ns : List Str} {ds : List D} {vs : List V}, Reps K H0 ds vs → ns.length = vs.length →
    ∃ vs', putF f v (ns.zip vs) = (putN f d ns ds).1.zip vs' ∧ (putN f d ns ds).1.length = vs'.length ∧ Reps K H0 (putN f d ns ds).2 vs'
  | [], ds, vs, h, hl => by
    cases vs with
    | nil => cases ds with
      | nil => exact ⟨[v], rfl, rfl, Reps.cons r Reps.nil⟩
      | cons d0 ds => obtain ⟨_, _, q, _⟩ := h; cases q
    | cons v0 vs => cases hl
  | n :: ns, [], vs, h, hl => by cases h; cases hl
  | n :: ns, d0 :: ds, vs, ⟨v0, vr, h1, h2, h3⟩, hl => by
    subst h1
    rw [List.zip_cons_cons]
    unfold putN
    by_cases e : n = f
    · subst e
      rw [if_pos rfl]
      exact ⟨v :: vr, by unfold putF; rw [if_pos rfl]; rfl, by simpa using hl, Reps.cons r h3⟩
    · rw [if_neg e]
      obtain ⟨vs', q1, q2, q3⟩ := reps_put r h3 (by simpa using hl)
      exact ⟨v0 :: vs', by unfold putF; rw [if_neg e, q1]; rfl, by simp [q2], Reps.cons h2 q3⟩
theorem ws_fld {N : TEnds} {pos' : Pos} (i : Nat) (h : WE T e ρ C fun d C1 => WE T o ρ C1 fun od C2 => ∃ z Cl ns ds, od = .raw (.ref z) ∧ C2[i]? = some (z, .ins Cl ns ds) ∧ Cls X.K Cl ∧ NoAttr X.K Cl m ∧ ns.length < 1000 ∧
      N.nx ρ (C2.set i (z, .ins Cl (putN m d ns ds).1 (putN m d ns ds).2)))
    (hs : swapsWith e (some (.Attribute o m pos')) pos.line X.env = pure false := by rfl) : WS T (.Assign [.Attribute o m pos'] e pos) ρ C N :=
  PS.imp (ps_fld (pe_some T ρ o) h hs) fun Dn σ H ⟨H0, at_, k⟩ => ⟨H0, at_, fun v d C1 H1 H01 p1 c1 r1 q1 => ⟨C1, _, q1, H01, at_.step p1 c1, fun v2 od C2 H2 H02 p2 c2 r2 ⟨z, Cl, ns, ds, e1, hi, hc, hn, hl, q⟩ => by
    subst e1
    obtain rfl : v2 = .ref z := r2
    obtain ⟨dx, vs, g1, g2, g3⟩ := c2.ok z _ (List.mem_iff_getElem?.mpr ⟨i, hi⟩)
    obtain ⟨vs', f1, f2, f3⟩ := reps_put (f := m) (r1.mono p2.base) g3 g2
    obtain ⟨p3, c3⟩ := stp_write (o := .ins Cl dx (putF m v (ns.zip vs))) c2 hi (c' := .ins Cl (putN m d ns ds).1 (putN m d ns ds).2) ⟨dx, vs', by rw [upd_same, f1], f2, f3⟩
    have at3 := ((at_.step p1 c1).step p2 c2).step p3 c3
    refine ⟨z, Cl, dx, _, rfl, g1, hc, hn, ?_, ContS.here (((k.after p1 c1).after p2 c2).after p3 c3).nx at3 q⟩
    rw [List.length_zip, ← g2]; omega⟩⟩
end
end Tr

set_option maxHeartbeats 2000000
namespace Tr
open PySem L2 PySem.Spec PyProof.Rows

section
variable {X : Cx} {T : TX X} {ρ : Rho} {C : Cells} {Q : QE} {e a b o : Expr} {pos p apos cpos : Pos} {es : List Expr} {d d1 d2 : D} {ds ds2 : List D}

/-! ### lists and tuples, read -/
def LstD (C : Cells) (d : D) (ds : List D) : Prop := d = .lst ds ∨ ∃ a, d = .raw (.ref a) ∧ (a, Cell.lst ds) ∈ C
def SeqD (C : Cells) (d : D) (ds : List D) : Prop := LstD C d ds ∨ d = .tup ds
theorem LstD.l : LstD C (.lst ds) ds := .inl rfl
theorem LstD.c {i : Nat} {a : Addr} (h : C[i]? = some (a, .lst ds)) : LstD C (.raw (.ref a)) ds := .inr ⟨a, rfl, List.mem_iff_getElem?.mpr ⟨i, h⟩⟩
theorem SeqD.l : SeqD C (.lst ds) ds := .inl (.inl rfl)
theorem SeqD.t : SeqD C (.tup ds) ds := .inr rfl
theorem SeqD.c {i : Nat} {a : Addr} (h : C[i]? = some (a, .lst ds)) : SeqD C (.raw (.ref a)) ds := .inl (.c h)
theorem lst_at {K : W.Frag} {H0 H : Hp} {v : V} (c : CellsR K H0 C H) (r : Rep K H0 d v) (h : LstD C d ds) : ∃ a vs, v = .ref a ∧ SqL K H a vs ∧ Reps K H0 ds vs := by
  rcases h with rfl | ⟨a, rfl, hm⟩
  · obtain ⟨a, vs, h1, h2, h3⟩ := r
    exact ⟨a, vs, h1, Same.sqL c.same h2, h3⟩
  · obtain ⟨vs, h1, h2⟩ := c.ok a _ hm
    exact ⟨a, vs, r, .inl (.inl h1), h2⟩
theorem tup_at {K : W.Frag} {H0 H : Hp} {v : V} (c : CellsR K H0 C H) (r : Rep K H0 (.tup ds) v) : ∃ a vs, v = .ref a ∧ SqT K H a vs ∧ Reps K H0 ds vs := by
  obtain ⟨a, vs, h1, h2, h3⟩ := r
  exact ⟨a, vs, h1, Same.sqT c.same h2, h3⟩
theorem cw_len (h : SeqD C d ds) (q : Q (.int ds.length) C) : CW T (.builtin "len") [d] C Q :=
  cw_look (d := .int ds.length) call_len_seq (fun xs H H0 c r => by
    obtain ⟨v, e1, r1⟩ := r.one
    subst e1
    rcases h with h | h
    · obtain ⟨a, vs, e2, h2, h3⟩ := lst_at c r1 h
      subst e2
      exact ⟨.int ds.length, rfl, fun R k => ⟨a, vs, rfl, .inl h2, by rw [← h3.length]; exact k⟩⟩
    · subst h
      obtain ⟨a, vs, e2, h2, h3⟩ := tup_at c r1
      subst e2
      exact ⟨.int ds.length, rfl, fun R k => ⟨a, vs, rfl, .inr h2, by rw [← h3.length]; exact k⟩⟩) q
theorem cw_len_str {s : Str} (h : s.length ≤ 100000) (q : Q (.int s.length) C) : CW T (.builtin "len") [.str s] C Q :=
  cw_look (d := .int s.length) call_len_str (fun xs H H0 c r => by
    obtain ⟨v, e1, r1⟩ := r.one
    cases r1; subst e1
    exact ⟨.int s.length, rfl, fun R k => ⟨s, rfl, Nat.le_trans h (by decide), k⟩⟩) q
/-- list(s), a new one that stands still; tuple(s) -/
theorem cw_list (h : SeqD C d ds) (q : Q (.lst ds) C) : CW T (.type "list") [d] C Q :=
  CallR.imp call_list_of fun xs H R ⟨H0, c, r, k⟩ => by
    obtain ⟨v, e1, r1⟩ := r.one
    subst e1
    have fin : ∀ (vs : List V), Reps X.K H0 ds vs → ∀ l, H l = none → R (.ref l) (upd H l (.lst vs)) := fun vs h3 l hl => by
      obtain ⟨p2, c2⟩ := stp_new (o := .lst vs) c hl
      exact k _ (.lst ds) C _ _ p2 c2 ⟨l, vs, rfl, .inl (.inl upd_same), h3.mono p2.base⟩ q
    rcases h with h | h
    · obtain ⟨a, vs, e2, h2, h3⟩ := lst_at c r1 h
      subst e2
      exact ⟨a, vs, rfl, .inl h2, fin vs h3⟩
    · subst h
      obtain ⟨a, vs, e2, h2, h3⟩ := tup_at c r1
      subst e2
      exact ⟨a, vs, rfl, .inr h2, fin vs h3⟩
theorem cw_listC (h : SeqD C d ds) (q : ∀ p, Q (.raw (.ref p)) ((p, .lst ds) :: C)) : CW T (.type "list") [d] C Q :=
  CallR.imp call_list_of fun xs H R ⟨H0, c, r, k⟩ => by
    obtain ⟨v, e1, r1⟩ := r.one
    subst e1
    have fin : ∀ (vs : List V), Reps X.K H0 ds vs → ∀ l, H l = none → R (.ref l) (upd H l (.lst vs)) := fun vs h3 l hl => by
      obtain ⟨p2, c2⟩ := stp_cell (o := .lst vs) (c := .lst ds) c hl ⟨vs, upd_same, h3⟩
      exact k _ (.raw (.ref l)) _ _ _ p2 c2 rfl (q l)
    rcases h with h | h
    · obtain ⟨a, vs, e2, h2, h3⟩ := lst_at c r1 h
      subst e2
      exact ⟨a, vs, rfl, .inl h2, fin vs h3⟩
    · subst h
      obtain ⟨a, vs, e2, h2, h3⟩ := tup_at c r1
      subst e2
      exact ⟨a, vs, rfl, .inr h2, fin vs h3⟩
theorem cw_tuple (h : SeqD C d ds) (q : Q (.tup ds) C) : CW T (.type "tuple") [d] C Q :=
  CallR.imp call_tuple_of fun xs H R ⟨H0, c, r, k⟩ => by
    obtain ⟨v, e1, r1⟩ := r.one
    subst e1
    rcases h with h | h
    · obtain ⟨a, vs, e2, h2, h3⟩ := lst_at c r1 h
      subst e2
      refine ⟨a, vs, rfl, .inl ⟨h2, fun l hl => ?_⟩⟩
      obtain ⟨p2, c2⟩ := stp_new (o := .tup vs) c hl
      exact k _ (.tup ds) C _ _ p2 c2 ⟨l, vs, rfl, .inl (.inl upd_same), h3.mono p2.base⟩ q
    · subst h
      obtain ⟨a, vs, e2, h2, h3⟩ := tup_at c r1
      subst e2
      exact ⟨a, vs, rfl, .inr ⟨h2, k.here (d := .tup ds) c r1 q⟩⟩

/-! ### subscripts -/
def IW (T : TX X) (d1 d2 : D) (C : Cells) (Q : QE) : Prop := IxR X fun x y H R => ∃ H0, CellsR X.K H0 C H ∧ Rep X.K H0 d1 x ∧ Rep X.K H0 d2 y ∧ Cont X H0 C H Q R
theorem IxR.imp {r r' : R2} (h : IxR X r) (i : ∀ x y H R, r' x y H R → r x y H R) : IxR X r' := fun value slice pins s σ H x y v u Q I rx ry q hs => h value slice pins s σ H x y v u Q I rx ry (i _ _ _ _ q) hs
theorem ix_some (T : TX X) : IxR X (fun x y H R => ∃ d1 d2 C Q, IW T d1 d2 C Q ∧ ∃ H0, CellsR X.K H0 C H ∧ Rep X.K H0 d1 x ∧ Rep X.K H0 d2 y ∧ Cont X H0 C H Q R) :=
  fun value slice pins s σ H x y v u Q I rx ry ⟨d1, d2, C, q, h, k⟩ hs => h value slice pins s σ H x y v u Q I rx ry k hs
theorem we_ix (h : WE T a ρ C fun d1 C1 => WE T b ρ C1 fun d2 C2 => IW T d1 d2 C2 Q) (hs : PlainIx b) : WE T (.Subscript a b pos) ρ C Q := by
  refine PE.imp (pe_ix (ix_some T) h (pe_some T ρ b) hs) fun σ H R ⟨H0, at_, k⟩ => ⟨H0, at_, fun v1 d1 C1 H1 H01 p1 c1 r1 q1 => ?_⟩
  have at1 := at_.step p1 c1
  exact ⟨C1, _, q1, H01, at1, fun v2 d2 C2 H2 H02 p2 c2 r2 q2 => ⟨d1, d2, C2, Q, q2, H02, c2, r1.mono p2.base, r2, k.after (p1.trans c1 p2) c2 fun _ _ z => z⟩⟩
theorem ixN_lt {n : Nat} {i : Int} {j : Nat} (h : ixN n i = some j) : j < n := (ixN_seq h).2.1
theorem atI_reps {K : W.Frag} {H0 : Hp} {vs : List V} {i : Int} (r : Reps K H0 ds vs) (h : atI ds i = some d) : ∃ v, atI vs i = some v ∧ Rep K H0 d v := by
  unfold atI at h ⊢
  rw [← r.length]
  cases e : ixN ds.length i with
  | none => rw [e] at h; cases h
  | some j => rw [e] at h; exact r.get h
theorem iw_lst {i : Int} (h : LstD C d1 ds) (hi : atI ds i = some d) (q : Q d C) : IW T d1 (.int i) C Q :=
  IxR.imp ix_list fun x y H R ⟨H0, c, r1, r2, k⟩ => by
    cases r2
    obtain ⟨a, vs, e2, h2, h3⟩ := lst_at c r1 h
    obtain ⟨v, g1, g2⟩ := atI_reps h3 hi
    exact ⟨a, vs, i, v, e2, rfl, h2, g1, k.here c g2 q⟩
theorem iw_tup {i : Int} (hi : atI ds i = some d) (q : Q d C) : IW T (.tup ds) (.int i) C Q :=
  IxR.imp ix_tup fun x y H R ⟨H0, c, r1, r2, k⟩ => by
    cases r2
    obtain ⟨a, vs, e2, h2, h3⟩ := tup_at c r1
    obtain ⟨v, g1, g2⟩ := atI_reps h3 hi
    exact ⟨a, vs, i, v, e2, rfl, h2, g1, k.here c g2 q⟩
theorem iw_str {s : Str} {i : Int} {c : Nat} (hl : s.length ≤ 100000) (hi : atI s.cps.toList i = some c) (q : Q (.str ⟨#[c]⟩) C) : IW T (.str s) (.int i) C Q :=
  IxR.imp ix_str fun x y H R ⟨H0, c, r1, r2, k⟩ => by
    cases r1; cases r2
    exact ⟨s, i, _, rfl, rfl, Nat.le_trans hl (by decide), hi, k.here (d := .str ⟨#[_]⟩) c rfl q⟩

/-! ### slices -/
def cutD (ds : List D) (lo hi : Option Int) : List D := (ds.drop (HT.sIx ds.length 0 lo)).take (HT.sIx ds.length ds.length hi - HT.sIx ds.length 0 lo)
theorem reps_cut {K : W.Frag} {H0 : Hp} {vs : List V} (r : Reps K H0 ds vs) (lo hi : Option Int) : Reps K H0 (cutD ds lo hi) (cutV vs lo hi) := by
  unfold cutD cutV
  rw [← r.length]
  exact (r.drop _).take _
/-- an optional part -/
def TOx (T : TX X) (ρ : Rho) (C : Cells) (Q : Option Int → Cells → Prop) : TO := fun σ H R => ∃ H0, At T H0 ρ C σ H ∧ ∀ i C' H' H0', Stp H0 C H H0' C' H' → CellsR X.K H0' C' H' → Q i C' → R i H'
def WO (T : TX X) (e : Option Expr) (ρ : Rho) (C : Cells) (Q : Option Int → Cells → Prop) : Prop := PO X e (TOx T ρ C Q)
theorem PO.imp {e : Option Expr} {t t' : TO} (h : PO X e t) (i : ∀ σ H R, t' σ H R → t σ H R) : PO X e t' := ⟨fun pins s σ H Q I q => h.run pins s σ H Q I (i σ H Q q)⟩
theorem po_any (T : TX X) (ρ : Rho) (e : Option Expr) : PO X e (fun σ H R => ∃ C Q, WO T e ρ C Q ∧ TOx T ρ C Q σ H R) := ⟨fun pins s σ H Q I ⟨C, q, h, t⟩ => h.run pins s σ H Q I t⟩
theorem wo_none {Q : Option Int → Cells → Prop} (q : Q none C) : WO T none ρ C Q := PO.imp po_none fun σ H R ⟨H0, at_, k⟩ => k none C H H0 (Stp.refl _ _ _) at_.c q
theorem wo_some {Q : Option Int → Cells → Prop} (h : WE T e ρ C fun d C1 => ∃ i, d = .int i ∧ Q (some i) C1) : WO T (some e) ρ C Q :=
  PO.imp (po_some h) fun σ H R ⟨H0, at_, k⟩ => ⟨H0, at_, fun v d C1 H1 H01 p1 c1 r1 ⟨i, e1, q⟩ => by subst e1; exact ⟨i, r1, k _ C1 H1 H01 p1 c1 q⟩⟩
def SW (T : TX X) (d : D) (lo hi : Option Int) (C : Cells) (Q : QE) : Prop := SlR X fun x l u H R => l = lo ∧ u = hi ∧ ∃ H0, CellsR X.K H0 C H ∧ Rep X.K H0 d x ∧ Cont X H0 C H Q R
theorem SlR.imp {r r' : V → Option Int → Option Int → Hp → VK → Prop} (h : SlR X r) (i : ∀ x l u H R, r' x l u H R → r x l u H R) : SlR X r' := fun pins s σ H x v vl vu lo hi sl Q I rx hs pl pu q => h pins s σ H x v vl vu lo hi sl Q I rx hs pl pu (i _ _ _ _ _ q)
theorem sl_some (T : TX X) : SlR X (fun x l u H R => ∃ d C Q, SW T d l u C Q ∧ ∃ H0, CellsR X.K H0 C H ∧ Rep X.K H0 d x ∧ Cont X H0 C H Q R) :=
  fun pins s σ H x v vl vu lo hi sl Q I rx hs pl pu ⟨d, C, q, h, k⟩ => h pins s σ H x v vl vu lo hi sl Q I rx hs pl pu ⟨rfl, rfl, k⟩
theorem we_slice {lo hi : Option Expr} {p2 : Pos} (h : WE T e ρ C fun d C1 => WO T lo ρ C1 fun l C2 => WO T hi ρ C2 fun u C3 => SW T d l u C3 Q) : WE T (.Subscript e (.Slice lo hi none p2) pos) ρ C Q := by
  refine PE.imp (pe_slice (sl_some T) h (po_any T ρ lo) (po_any T ρ hi)) fun σ H R ⟨H0, at_, k⟩ => ⟨H0, at_, fun v d C1 H1 H01 p1 c1 r1 q1 => ?_⟩
  have at1 := at_.step p1 c1
  exact ⟨C1, _, q1, H01, at1, fun l C2 H2 H02 p2 c2 q2 => ⟨C2, _, q2, H02, at1.step p2 c2, fun u C3 H3 H03 p3 c3 q3 => ⟨d, C3, Q, q3, H03, c3, (r1.mono p2.base).mono p3.base, k.after ((p1.trans c1 p2).trans c2 p3) c3 fun _ _ z => z⟩⟩⟩
theorem sw_lst {lo hi : Option Int} (h : LstD C d ds) (q : Q (.lst (cutD ds lo hi)) C) : SW T d lo hi C Q :=
  SlR.imp sl_list fun x l u H R ⟨e1, e2, H0, c, r1, k⟩ => by
    subst e1; subst e2
    obtain ⟨a, vs, e2, h2, h3⟩ := lst_at c r1 h
    refine ⟨a, vs, e2, h2, fun z hz => ?_⟩
    obtain ⟨p2, c2⟩ := stp_new (o := .lst (cutV vs l u)) c hz
    exact k _ (.lst (cutD ds l u)) C _ _ p2 c2 ⟨z, _, rfl, .inl (.inl upd_same), (reps_cut h3 l u).mono p2.base⟩ q
/-- the whole tuple is the tuple itself -/
def rSlTw (K : W.Frag) : V → Option Int → Option Int → Hp → VK → Prop := fun x lo hi H Q => ∃ a xs, x = .ref a ∧ SqT K H a xs ∧ (HT.sIx xs.length 0 lo = 0 ∧ HT.sIx xs.length xs.length hi = xs.length) ∧ Q x H

/-! ### what changes a list -/
theorem we_append (i : Nat) (h : WE T o ρ C fun od C1 => ∃ z ds, od = .raw (.ref z) ∧ C1[i]? = some (z, .lst ds) ∧ WE T a ρ C1 fun d C2 => ∃ ds2, C2[i]? = some (z, .lst ds2) ∧ ds2.length < 100000 ∧ Q .non (C2.set i (z, .lst (ds2 ++ [d]))))
    (hbase : attributeBase o "append" X.env (eval o X.env) = eval o X.env := by rfl) (hline : (apos.endLine == cpos.line) = true := by rfl) (hs : starEach [a] X.env = (false, eval a X.env) :: starEach [] X.env := by rfl)
    (hfew : ((backTo cpos (starEach [a] X.env)).all (fun x => !x.1) && (backToKw cpos (keywordEach [] X.env)).all (fun x => x.1.isSome)
      && decide (([a] : List Expr).length + ([] : List Keyword).length + (if ([] : List Keyword).isEmpty then 0 else 1) < 30)) = true := by rfl) (hplain : (backTo cpos (starEach [] X.env)).any (·.1) = false := by rfl) :
    WE T (.Call (.Attribute o "append" apos) [a] [] cpos) ρ C Q := by
  refine PE.imp (pe_bm F.plainAttrs_list F.slot_list_append F.type_list_append mt_append h (pa_cons (pe_some T ρ a) pa_nil hs) hbase hfew hline hs hplain) fun σ H R ⟨H0, at_, k⟩ => ⟨H0, at_, fun v od C1 H1 H01 p1 c1 r1 ⟨z, ds, e1, hi, hw⟩ => ?_⟩
  subst e1
  obtain rfl : v = .ref z := r1
  obtain ⟨vs, g1, g2⟩ := c1.ok z _ (List.mem_iff_getElem?.mpr ⟨i, hi⟩)
  refine ⟨.inl ⟨rfl, vs, .inl (.inl g1)⟩, C1, _, hw, H01, at_.step p1 c1, fun v2 d C2 H2 H02 p2 c2 r2 ⟨ds2, hi2, hl, q⟩ => ?_⟩
  obtain ⟨vs2, f1, f2⟩ := c2.ok z _ (List.mem_iff_getElem?.mpr ⟨i, hi2⟩)
  refine ⟨z, vs2, v2, rfl, rfl, f1, ?_, ?_⟩
  · rw [← f2.length]; exact Nat.lt_trans hl (by decide)
  · obtain ⟨p3, c3⟩ := stp_write (o := .lst (vs2 ++ [v2])) c2 hi2 (c' := .lst (ds2 ++ [d])) ⟨_, upd_same, f2.append (Reps.cons r2 Reps.nil)⟩
    exact k _ .non _ _ _ ((p1.trans c1 p2).trans c2 p3) c3 rfl q
/-- xs.pop() -/
theorem we_pop (i : Nat) (h : WE T o ρ C fun od C1 => ∃ z ds, od = .raw (.ref z) ∧ C1[i]? = some (z, .lst (ds ++ [d])) ∧ Q d (C1.set i (z, .lst ds)))
    (hbase : attributeBase o "pop" X.env (eval o X.env) = eval o X.env := by rfl) (hline : (apos.endLine == cpos.line) = true := by rfl) :
    WE T (.Call (.Attribute o "pop" apos) [] [] cpos) ρ C Q := by
  refine PE.imp (pe_bm0 F.plainAttrs_list F.slot_list_pop F.type_list_pop mt_pop h hbase hline) fun σ H R ⟨H0, at_, k⟩ => ⟨H0, at_, fun v od C1 H1 H01 p1 c1 r1 ⟨z, ds, e1, hi, q⟩ => ?_⟩
  subst e1
  obtain rfl : v = .ref z := r1
  obtain ⟨vs, g1, g2⟩ := c1.ok z _ (List.mem_iff_getElem?.mpr ⟨i, hi⟩)
  obtain ⟨vs1, vs2, e2, f1, f2⟩ := g2.split
  obtain ⟨v2, e3, f3⟩ := f2.one
  subst e3; subst e2
  refine ⟨.inl ⟨rfl, _, .inl (.inl g1)⟩, z, _, v2, rfl, rfl, g1, by simp, ?_⟩
  obtain ⟨p3, c3⟩ := stp_write (o := .lst vs1) c1 hi (c' := .lst ds) ⟨_, upd_same, f1⟩
  rw [List.dropLast_concat]
  exact k v2 d _ _ _ (p1.trans c1 p3) c3 f3 q

/-! ### what loops walk -/
theorem wi_lst {tg : Expr} {Q : QI} (h : WE T e ρ C fun d C1 => ∃ ds, d = .lst ds ∧ Q ds (fun _ => True) C1) : WI T tg e ρ C Q := by
  refine PI.imp (pi_list h) fun σ H R ⟨H0, at_, k⟩ => ⟨H0, at_, fun v d C1 H1 H01 p1 c1 r1 ⟨ds, e1, q⟩ => ?_⟩
  subst e1
  obtain ⟨a, vs, h1, h2, h3⟩ := r1
  exact ⟨a, h1, ⟨vs, Same.sqL c1.same h2⟩, k _ ds _ C1 H1 H01 p1 c1 (yields_list h2 h3) q⟩
end
end Tr

set_option maxHeartbeats 2000000
namespace Tr
open PySem L2 PySem.Spec PyProof.Rows

section
variable {X : Cx} {T : TX X} {ρ : Rho} {C : Cells} {Q : QE} {e a b o : Expr} {pos p apos cpos : Pos} {es : List Expr} {d d1 d2 : D} {ds ds2 : List D}

/-! ### what loops walk, further -/
theorem yields_tup {K : W.Frag} {H0 : Hp} {a : Addr} {vs : List V} (hs : SqT K H0 a vs) (r : Reps K H0 ds vs) : Yields K (Itt K a) H0 (fun _ => True) ds where
  go := fun i H0' C H e c _ hi => ⟨vs, vs[i]'(by rw [← r.length]; exact hi), Same.sqT (e.trans c.same) hs, by simp⟩
  stop := fun i H0' C H e c _ hi => ⟨vs, Same.sqT (e.trans c.same) hs, by rw [← r.length]; exact hi⟩
  yld := fun i H0' C H x H' d e c _ hd ⟨e1, y⟩ => by
    subst e1
    refine ⟨H0', Stp.refl _ _ _, c, ?_⟩
    have := y vs (Same.sqT (e.trans c.same) hs)
    obtain ⟨v, h1, h2⟩ := r.get hd
    rw [this] at h1; cases h1
    exact h2.mono e
theorem wi_tup {tg : Expr} {Q : QI} (h : WE T e ρ C fun d C1 => ∃ ds, d = .tup ds ∧ Q ds (fun _ => True) C1) : WI T tg e ρ C Q := by
  refine PI.imp (pi_tup h) fun σ H R ⟨H0, at_, k⟩ => ⟨H0, at_, fun v d C1 H1 H01 p1 c1 r1 ⟨ds, e1, q⟩ => ?_⟩
  subst e1
  obtain ⟨a, vs, h1, h2, h3⟩ := r1
  exact ⟨a, h1, ⟨vs, Same.sqT c1.same h2⟩, k _ ds _ C1 H1 H01 p1 c1 (yields_tup h2 h3) q⟩
/-- a list that may change, but doesn't while it is walked -/
theorem yields_cell {K : W.Frag} {H0 : Hp} {a : Addr} : Yields K (Itl K a) H0 (fun C => (a, Cell.lst ds) ∈ C) ds where
  go := fun i H0' C H e c hm hi => by
    obtain ⟨vs, h1, h2⟩ := c.ok a _ hm
    exact ⟨vs, vs[i]'(by rw [← h2.length]; exact hi), .inl (.inl h1), by simp⟩
  stop := fun i H0' C H e c hm hi => by
    obtain ⟨vs, h1, h2⟩ := c.ok a _ hm
    exact ⟨vs, .inl (.inl h1), by rw [← h2.length]; exact hi⟩
  yld := fun i H0' C H x H' d e c hm hd ⟨e1, y⟩ => by
    subst e1
    obtain ⟨vs, h1, h2⟩ := c.ok a _ hm
    have := y vs (.inl (.inl h1))
    obtain ⟨v, g1, g2⟩ := h2.get hd
    rw [this] at g1; cases g1
    exact ⟨H0', Stp.refl _ _ _, c, g2⟩
theorem wi_cell {tg : Expr} {Q : QI} (h : WE T e ρ C fun d C1 => ∃ z ds, d = .raw (.ref z) ∧ (z, Cell.lst ds) ∈ C1 ∧ Q ds (fun C => (z, Cell.lst ds) ∈ C) C1) : WI T tg e ρ C Q := by
  refine PI.imp (pi_list h) fun σ H R ⟨H0, at_, k⟩ => ⟨H0, at_, fun v d C1 H1 H01 p1 c1 r1 ⟨z, ds, e1, hm, q⟩ => ?_⟩
  subst e1
  obtain rfl : v = .ref z := r1
  obtain ⟨vs, h1, h2⟩ := c1.ok z _ hm
  exact ⟨z, rfl, ⟨vs, .inl (.inl h1)⟩, k _ ds _ C1 H1 H01 p1 c1 yields_cell q⟩
def rangeD (lo : Int) (n : Nat) : List D := (List.range n).map fun i => .int (lo + (i : Nat))
theorem rangeD_len (lo : Int) (n : Nat) : (rangeD lo n).length = n := by simp [rangeD]
theorem yields_range {K : W.Frag} {H0 : Hp} (lo : Int) (n : Nat) : Yields K (Itr lo n) H0 (fun _ => True) (rangeD lo n) where
  go := fun i H0' C H e c _ hi => by rw [rangeD_len] at hi; exact hi
  stop := fun i H0' C H e c _ hi => by rw [rangeD_len] at hi; exact hi
  yld := fun i H0' C H x H' d e c _ hd ⟨e1, e2⟩ => by
    subst e1; subst e2
    refine ⟨H0', Stp.refl _ _ _, c, ?_⟩
    unfold rangeD at hd
    rw [List.getElem?_map] at hd
    cases q : (List.range n)[i]? with
    | none => rw [q] at hd; cases hd
    | some j =>
      rw [q] at hd; cases hd
      obtain ⟨h1, h2⟩ := List.getElem?_eq_some_iff.mp q
      rw [List.getElem_range] at h2
      subst h2
      rfl
theorem wi_range1 {tg : Expr} {Q : QI} (hg : Gl X "range") (hm : X.mg "range" = none) (h : WE T a ρ C fun d C1 => ∃ j : Int, d = .int j ∧ -(2 ^ 62) ≤ j ∧ j < 2 ^ 62 ∧ Q (rangeD 0 j.toNat) (fun _ => True) C1)
    (hs : starEach [a] X.env = [(false, eval a X.env)] := by rfl) (hs2 : starEach [a] X.env = (false, eval a X.env) :: starEach [] X.env := by rfl) : WI T tg (.Call (.Name "range" p) [a] [] pos) ρ C Q := by
  refine PI.imp (pi_range1 hg hm (pa_cons h pa_nil hs2) hs) fun σ H R ⟨H0, at_, k⟩ => ⟨H0, at_, fun v d C1 H1 H01 p1 c1 r1 ⟨j, e1, l1, l2, q⟩ => ?_⟩
  subst e1; cases r1
  exact ⟨j, rfl, l1, l2, k _ _ _ C1 H1 H01 p1 c1 (yields_range 0 _) q⟩
theorem wi_range2 {tg : Expr} {Q : QI} (hg : Gl X "range") (hm : X.mg "range" = none) (h : WE T a ρ C fun d C1 => WE T b ρ C1 fun d2 C2 => ∃ i j : Int, d = .int i ∧ d2 = .int j ∧ (-(2 ^ 62) ≤ i ∧ i < 2 ^ 62 ∧ -(2 ^ 62) ≤ j ∧ j < 2 ^ 62) ∧ Q (rangeD i (j - i).toNat) (fun _ => True) C2)
    (hs : starEach [a, b] X.env = [(false, eval a X.env), (false, eval b X.env)] := by rfl) (hs2 : starEach [b] X.env = [(false, eval b X.env)] := by rfl)
    (hs3 : starEach [a, b] X.env = (false, eval a X.env) :: starEach [b] X.env := by rfl) (hs4 : starEach [b] X.env = (false, eval b X.env) :: starEach [] X.env := by rfl) : WI T tg (.Call (.Name "range" p) [a, b] [] pos) ρ C Q := by
  refine PI.imp (pi_range2 hg hm (pa_cons h (pa_cons (pe_some T ρ b) pa_nil hs4) hs3) hs hs2) fun σ H R ⟨H0, at_, k⟩ => ⟨H0, at_, fun v d C1 H1 H01 p1 c1 r1 q1 => ⟨C1, _, q1, H01, at_.step p1 c1, fun v2 d2 C2 H2 H02 p2 c2 r2 ⟨i, j, e1, e2, l, q⟩ => ?_⟩⟩
  subst e1; subst e2; cases r1; cases r2
  exact ⟨i, j, rfl, l, k _ _ _ C2 H2 H02 (p1.trans c1 p2) c2 (yields_range i _) q⟩
/-- the signs of a text -/
def signsD (s : Str) : List D := s.cps.toList.map fun c => .str ⟨#[c]⟩
theorem yields_str {K : W.Frag} {H0 : Hp} (s : Str) : Yields K (Its s) H0 (fun _ => True) (signsD s) where
  go := fun i H0' C H e c _ hi => by show i < s.cps.size; simpa [signsD] using hi
  stop := fun i H0' C H e c _ hi => by show s.cps.size ≤ i; simpa [signsD] using hi
  yld := fun i H0' C H x H' d e c _ hd ⟨e1, k, hk, e2⟩ => by
    subst e1; subst e2
    refine ⟨H0', Stp.refl _ _ _, c, ?_⟩
    unfold signsD at hd
    rw [List.getElem?_map, Array.getElem?_toList, hk] at hd
    cases hd; rfl
theorem wi_str {tg : Expr} {Q : QI} (h : WE T e ρ C fun d C1 => ∃ s, d = .str s ∧ Q (signsD s) (fun _ => True) C1) : WI T tg e ρ C Q := by
  refine PI.imp (pi_str h) fun σ H R ⟨H0, at_, k⟩ => ⟨H0, at_, fun v d C1 H1 H01 p1 c1 r1 ⟨s, e1, q⟩ => ?_⟩
  subst e1; cases r1
  exact ⟨s, rfl, k _ _ _ C1 H1 H01 p1 c1 (yields_str s) q⟩

/-! ### list comprehensions -/
/-- the block of a comprehension -/
def TX.blk (T : TX X) (s : Shared) (H : Hp) (scope : Scope) (cenv : Env) (fp : List Addr) : TX (X.blk s H scope cenv fp) where
  A := T.A
  up := T.up
  XQ := fun _ _ _ _ => False
  tk := fun u s' ⟨_, _, _, _, _, _, _, _, _, _, _, _, _, _, _, _, w⟩ => let ⟨_, _, _, _, _, _, _, _, _, q⟩ := w; False.elim q
  pass := PassesOwn.never
theorem At.blk {T : TX X} {s : Shared} {H' : Hp} {scope : Scope} {cenv : Env} {fp : List Addr} {H0 : Hp} {σ : L2.St} {H : Hp} (h : At T H0 ρ C σ H) : At (T.blk s H' scope cenv fp) H0 ρ C σ H := ⟨h.a, h.c, h.s, h.l⟩
theorem At.unblk {T : TX X} {s : Shared} {H' : Hp} {scope : Scope} {cenv : Env} {fp : List Addr} {H0 : Hp} {σ : L2.St} {H : Hp} (h : At (T.blk s H' scope cenv fp) H0 ρ C σ H) : At T H0 ρ C σ H := ⟨h.a, h.c, h.s, h.l⟩
/-- what holds in every block of this comprehension -/
abbrev InBlk (T : TX X) (scope : Scope) (P : ∀ {Y : Cx}, TX Y → Prop) : Prop := ∀ (s : Shared) (H : Hp) (Ca : Addr) (cl : List (Str × Addr)) (fp : List Addr), P (T.blk s H scope (compEnvC scope cl Ca X.env) fp)
def wipeR (ρ : Rho) : List Nat → Rho
  | [] => ρ
  | v :: vs => (wipeR ρ vs).set v none
theorem wipeR_len (ρ : Rho) : ∀ vs : List Nat, (wipeR ρ vs).length = ρ.length
  | [] => rfl
  | v :: vs => by unfold wipeR; rw [List.length_set, wipeR_len ρ vs]
theorem slots_wipe {K : W.Frag} {H0 : Hp} {σ : L2.St} (h : SlotsR K H0 ρ σ) : ∀ vs : List Nat, SlotsR K H0 (wipeR ρ vs) (wipe σ vs)
  | [] => h
  | v :: vs => SlotsR.unset v (slots_wipe h vs)
theorem At.wipe {T : TX X} {H0 : Hp} {σ : L2.St} {H : Hp} (h : At T H0 ρ C σ H) (vs : List Nat) : At T H0 (wipeR ρ vs) C (L2.wipe σ vs) H := ⟨h.a, h.c, slots_wipe h.s vs, by rw [wipeR_len, wipe_length]; exact h.l⟩
/-- the target: names in slots, one or a tuple of them -/
inductive Bind where
  | one (i : Nat)
  | tup (is : List Nat)
def setAll {α : Type} (l : List (Option α)) : List Nat → List α → List (Option α)
  | i :: is, x :: xs => setAll (l.set i (some x)) is xs
  | _, _ => l
def Bind.to (b : Bind) (d : D) (ρ : Rho) : Option Rho := match b, d with
  | .one i, d => some (ρ.set i (some d))
  | .tup is, .tup ds => if is.length = ds.length then some (setAll ρ is ds) else none
  | _, _ => none
def gNames : List Nat → TGs
  | [] => gNil
  | i :: is => gCons (gName i) (gNames is)
def Bind.g (K : W.Frag) : Bind → TG
  | .one i => gName i
  | .tup is => gTup K is.length (gNames is)
def Bind.slots : Bind → List Nat
  | .one i => [i]
  | .tup is => is
theorem setAll_len {α : Type} : ∀ (is : List Nat) (xs : List α) (l : List (Option α)), (setAll l is xs).length = l.length
  | [], xs, l => by cases xs <;> rfl
  | i :: is, [], l => rfl
  | i :: is, x :: xs, l => by unfold setAll; rw [setAll_len is xs, List.length_set]
theorem slots_setAll {K : W.Frag} {H0 : Hp} : ∀ {is : List Nat} {ds : List D} {vs : List V} {ρ : Rho} {σ : L2.St}, Reps K H0 ds vs → SlotsR K H0 ρ σ → ρ.length = σ.length → SlotsR K H0 (setAll ρ is ds) (setAll σ is vs)
  | [], ds, vs, ρ, σ, r, h, l => by cases ds <;> cases vs <;> exact h
  | i :: is, [], vs, ρ, σ, r, h, l => by cases r; exact h
  | i :: is, d :: ds, vs, ρ, σ, ⟨v, rr, e1, r1, r2⟩, h, l => by
    subst e1
    have z : SlotsR K H0 (setAll (ρ.set i (some d)) is ds) (setAll (σ.set i (some v)) is rr) := slots_setAll r2 (SlotsR.set i h r1 l) (by simp [l])
    exact z
theorem gNames_to {R : L2.St → Hp → Prop} {H : Hp} : ∀ {is : List Nat} {vs : List V} {σ : L2.St}, is.length = vs.length → R (setAll σ is vs) H → gNames is vs σ H R
  | [], [], σ, _, h => ⟨rfl, h⟩
  | i :: is, v :: vs, σ, hl, h => ⟨v, vs, rfl, gNames_to (by simpa using hl) h⟩
theorem set_wipe {i : Nat} {x : V} : ∀ {vs : List Nat} {σ : L2.St}, i ∈ vs → wipe (σ.set i (some x)) vs = wipe σ vs
  | [], _, h => by cases h
  | v :: vs, σ, h => by
    show (wipe (σ.set i (some x)) vs).set v none = (wipe σ vs).set v none
    by_cases e : i ∈ vs
    · rw [set_wipe e]
    · have e' : i = v := (List.mem_cons.mp h).resolve_right e
      subst e'
      apply List.ext_getElem?
      intro j
      rw [List.getElem?_set, List.getElem?_set, wipe_length, wipe_length, List.length_set]
      by_cases q : i = j
      · subst q; simp
      · rw [if_neg q, if_neg q]
        by_cases hj : j ∈ vs
        · have z : ∀ τ : L2.St, (wipe τ vs)[j]? = if j < τ.length then some none else none := by
            intro τ
            induction vs with
            | nil => cases hj
            | cons w ws ih =>
              show ((wipe τ ws).set w none)[j]? = _
              rw [List.getElem?_set, wipe_length]
              by_cases q2 : w = j
              · subst q2; simp
              · rw [if_neg q2]
                rcases List.mem_cons.mp hj with q3 | q3
                · exact absurd q3.symm q2
                · exact ih (fun h1 => e (List.mem_cons_of_mem _ h1)) (by simp) q3
          rw [z, z, List.length_set]
        · rw [wipe_out hj, wipe_out hj, List.getElem?_set_ne q]
theorem wipe_wipe (σ : L2.St) : ∀ vs : List Nat, wipe (wipe σ vs) vs = wipe σ vs := by
  intro vs
  apply List.ext_getElem?
  intro j
  by_cases hj : j ∈ vs
  · have z : ∀ (τ : L2.St), (wipe τ vs)[j]? = if j < τ.length then some none else none := by
      intro τ
      induction vs with
      | nil => cases hj
      | cons w ws ih =>
        show ((wipe τ ws).set w none)[j]? = _
        rw [List.getElem?_set, wipe_length]
        by_cases q2 : w = j
        · subst q2; simp
        · rw [if_neg q2]
          rcases List.mem_cons.mp hj with q3 | q3
          · exact absurd q3.symm q2
          · exact ih q3
    rw [z, z, wipe_length]
  · rw [wipe_out hj]
theorem setAll_wipe : ∀ {is vs : List Nat} {xs : List V} {σ : L2.St}, (∀ i ∈ is, i ∈ vs) → wipe (setAll σ is xs) vs = wipe σ vs
  | [], vs, xs, σ, h => by cases xs <;> rfl
  | i :: is, vs, [], σ, h => rfl
  | i :: is, vs, x :: xs, σ, h => by
    unfold setAll
    rw [setAll_wipe (fun j hj => h j (List.mem_cons_of_mem _ hj)), set_wipe (h i List.mem_cons_self)]
theorem bind_to {bd : Bind} {d : D} {v : V} {ρ' : Rho} {H0 H : Hp} {σ : L2.St} {vs : List Nat} {R : L2.St → Hp → Prop} {K : W.Frag} (c : Same H0 H) (hb : bd.to d ρ = some ρ') (hv : ∀ i ∈ bd.slots, i ∈ vs) (r : Rep K H0 d v) (s : SlotsR K H0 ρ σ) (l : ρ.length = σ.length)
    (h : ∀ σ', SlotsR K H0 ρ' σ' → ρ'.length = σ'.length → wipe σ' vs = wipe σ vs → R σ' H) : bd.g K v σ H R := by
  cases bd with
  | one i =>
    cases hb
    exact h _ (SlotsR.set i s r l) (by simp [l]) (set_wipe (hv i (by simp [Bind.slots])))
  | tup is =>
    cases d with
    | tup ds =>
      simp only [Bind.to] at hb
      split at hb
      · rename_i hl
        cases hb
        obtain ⟨a, ws, h1, h2, h3⟩ := r
        refine ⟨a, ws, h1, Same.sqT c h2, by rw [← h3.length]; exact hl.symm, gNames_to (hl.trans h3.length) (h _ (slots_setAll h3 s l) (by rw [setAll_len, setAll_len]; exact l) (setAll_wipe hv))⟩
      · cases hb
    | _ => simp [Bind.to] at hb
/-- the comprehension's loop: acc the items made so far -/
def LcW (T : TX X) (scope : Scope) (bd : Bind) (elt : Expr) (vs : List Nat) (ρ : Rho) (P : Cells → Prop) (Q : QE) : List D → List D → Cells → Prop
  | [], acc, C => P C ∧ Q (.lst acc) C
  | d :: r, acc, C => P C ∧ ∃ ρ', bd.to d (wipeR ρ vs) = some ρ' ∧ InBlk T scope fun T' => WE T' elt ρ' C fun y C2 => acc.length < 100000 ∧ LcW T scope bd elt vs ρ P Q r (acc ++ [y]) C2
def LcW1 (T : TX X) (scope : Scope) (bd : Bind) (i elt : Expr) (vs : List Nat) (ρ : Rho) (P : Cells → Prop) (Q : QE) : List D → List D → Cells → Prop
  | [], acc, C => P C ∧ Q (.lst acc) C
  | d :: r, acc, C => P C ∧ ∃ ρ', bd.to d (wipeR ρ vs) = some ρ' ∧ InBlk T scope fun T' => WT T' i ρ' C fun k C1 =>
      if k = true then (InBlk T scope fun T' => WE T' elt ρ' C1 fun y C2 => acc.length < 100000 ∧ LcW1 T scope bd i elt vs ρ P Q r (acc ++ [y]) C2) else LcW1 T scope bd i elt vs ρ P Q r acc C1
/-- the new list on the way: in nobody's hands -/
structure Way (X : Cx) (H01 : Hp) (C1 : Cells) (H1 : Hp) (L : Addr) (acc : List D) (H0 : Hp) (C : Cells) (H : Hp) : Prop where
  st : Stp H01 C1 H1 H0 C H
  c : CellsR X.K H0 C H
  at_ : ∃ vs, H L = some (.lst vs) ∧ Reps X.K H0 acc vs
  n0 : H0 L = none
  nd : ¬ Dom C L
theorem Way.step {H01 H1 H0 H H0' H' : Hp} {C1 C' : Cells} {L : Addr} {acc : List D} (w : Way X H01 C1 H1 L acc H0 C H) (p : Stp H0 C H H0' C' H') (c' : CellsR X.K H0' C' H') : Way X H01 C1 H1 L acc H0' C' H' := by
  obtain ⟨vs, h1, h2⟩ := w.at_
  obtain ⟨q1, q2⟩ := p.own L (by rw [h1]; simp) w.n0 w.nd
  exact ⟨w.st.trans w.c p, c', ⟨vs, p.fr L _ h1 w.nd, h2.mono p.base⟩, q1, q2⟩
theorem Way.add {H01 H1 H0 H : Hp} {C1 : Cells} {L : Addr} {acc : List D} {d : D} {v : V} (w : Way X H01 C1 H1 L acc H0 C H) (hL : H1 L = none) (r : Rep X.K H0 d v) : ∃ vs, H L = some (.lst vs) ∧ vs.length = acc.length ∧ Way X H01 C1 H1 L (acc ++ [d]) H0 C (upd H L (.lst (vs ++ [v]))) := by
  obtain ⟨vs, h1, h2⟩ := w.at_
  have off : ∀ a x, (a, x) ∈ C → a ≠ L := fun a x hx e => w.nd ⟨x, e ▸ hx⟩
  refine ⟨vs, h1, h2.length.symm, ⟨⟨w.st.base, fun a o h n => ?_, w.st.own⟩, ⟨fun a o h => ?_, w.c.free, fun a x hx => (w.c.ok a x hx).mono (Same.refl _) (upd_ne (off a x hx)), w.c.nd⟩, ⟨_, upd_same, h2.append (Reps.cons r Reps.nil)⟩, w.n0, w.nd⟩⟩
  · rw [upd_ne (ne_of_none h hL)]; exact w.st.fr a o h n
  · rw [upd_ne (ne_of_none h w.n0)]; exact w.c.same a o h
theorem Way.fin {H01 H1 H0 H : Hp} {C1 : Cells} {L : Addr} {acc : List D} (w : Way X H01 C1 H1 L acc H0 C H) (hL : H1 L = none) : ∃ H0', Stp H01 C1 H1 H0' C H ∧ CellsR X.K H0' C H ∧ Rep X.K H0' (.lst acc) (.ref L) := by
  obtain ⟨vs, h1, h2⟩ := w.at_
  have s0 : Same H0 (upd H0 L (.lst vs)) := fun a u h => by rw [upd_ne (ne_of_none h w.n0)]; exact h
  refine ⟨upd H0 L (.lst vs), ⟨w.st.base.trans s0, w.st.fr, fun a h e n => ?_⟩, ⟨fun a o h => ?_, fun a d => ?_, fun a x hx => (w.c.ok a x hx).mono s0 rfl, w.c.nd⟩, ⟨L, vs, rfl, .inl (.inl upd_same), h2.mono s0⟩⟩
  · obtain ⟨q1, q2⟩ := w.st.own a h e n
    exact ⟨by rw [upd_ne (show a ≠ L from fun z => h (by rw [z]; exact hL))]; exact q1, q2⟩
  · by_cases q : a = L
    · subst q; rw [upd_same] at h; cases h; exact h1
    · rw [upd_ne q] at h; exact w.c.same a o h
  · rw [upd_ne (show a ≠ L from fun z => w.nd (by rw [← z]; exact d))]; exact w.c.free a d
theorem way0 {H0 H : Hp} {L : Addr} (c : CellsR X.K H0 C H) (hL : H L = none) : Way X H0 C H L [] H0 C (upd H L (.lst [])) := by
  have n0 := c.nn hL
  refine ⟨⟨Same.refl _, fun a o h n => by rw [upd_ne (ne_of_none h hL)]; exact h, fun a h e n => ⟨e, n⟩⟩, ⟨fun a o h => by rw [upd_ne (ne_of_none h n0)]; exact c.same a o h, c.free, fun a x hx => (c.ok a x hx).mono (Same.refl _) (upd_ne fun z => (c.ok a x hx).some (by rw [z]; exact hL)), c.nd⟩, ⟨[], upd_same, Reps.nil⟩, n0, c.notDom hL⟩
section
variable {scope : Scope} {own : List (Str × Nat)} {tg iter elt i : Expr} {bd : Bind}
/-- an element, whatever the block -/
def someB (T : TX X) (scope : Scope) (elt : Expr) : TE := fun σ H R => ∃ ρ C Q, InBlk T scope (fun T' => WE T' elt ρ C Q) ∧ TEx T ρ C Q σ H R
theorem pe_someB (T : TX X) (scope : Scope) (elt : Expr) (s : Shared) (H : Hp) (Ca : Addr) (cl : List (Str × Addr)) (fp : List Addr) : PE (X.blk s H scope (compEnvC scope cl Ca X.env) fp) elt (someB T scope elt) :=
  ⟨fun pins s' σ H' R I ⟨ρ, C, Q, h, H0, at_, k⟩ => (h s H Ca cl fp).run pins s' σ H' R I ⟨H0, at_.blk, k⟩⟩
def someBT (T : TX X) (scope : Scope) (elt : Expr) : TT := fun σ H R => ∃ ρ C Q, InBlk T scope (fun T' => WT T' elt ρ C Q) ∧ TTx T ρ C Q σ H R
theorem pt_someB (T : TX X) (scope : Scope) (elt : Expr) (s : Shared) (H : Hp) (Ca : Addr) (cl : List (Str × Addr)) (fp : List Addr) : PT (X.blk s H scope (compEnvC scope cl Ca X.env) fp) elt (someBT T scope elt) :=
  ⟨fun pins s' σ H' R I ⟨ρ, C, Q, h, H0, at_, k⟩ => (h s H Ca cl fp).run pins s' σ H' R I ⟨H0, at_.blk, k⟩⟩
theorem read_lc (own : List (Str × Nat)) (bd : Bind) (hv : ∀ i ∈ bd.slots, i ∈ own.map (·.2)) : ∀ σ H R, TEx T ρ C Q σ H R → tLc (TIx T ρ C fun ds P C1 => LcW T scope bd elt (own.map (·.2)) ρ P Q ds [] C1) (bd.g X.K) tYes (someB T scope elt) (own.map (·.2)) σ H R := by
  refine fun σ H R ⟨H0, at_, k⟩ => ⟨H0, at_, fun J ds P C1 H1 H01 p1 c1 y1 q1 L hL => ?_⟩
  have at1 := at_.step p1 c1
  refine ⟨fun j m H2 => m = ds.length - j ∧ j ≤ ds.length ∧ ∃ acc C2 H02, Way X H01 C1 H1 L acc H02 C2 H2 ∧ LcW T scope bd elt (own.map (·.2)) ρ P Q (ds.drop j) acc C2, ⟨_, rfl, Nat.zero_le _, [], C1, H01, way0 c1 hL, q1⟩, ?_⟩
  rintro j m H2 ⟨rfl, hj, acc, C2, H02, w2, q2⟩
  have hP : P C2 := by
    generalize ds.drop j = l at q2
    cases l with
    | nil => exact q2.1
    | cons d r => exact q2.1
  by_cases hlt : j < ds.length
  · rw [List.drop_eq_getElem_cons hlt] at q2
    obtain ⟨_, ρ', hb, qe⟩ := q2
    refine .inr ⟨y1.go j _ _ _ w2.st.base w2.c hP hlt, fun H3 => ∃ acc C3 H03, Way X H01 C1 H1 L acc H03 C3 H3 ∧ LcW T scope bd elt (own.map (·.2)) ρ P Q (ds.drop (j + 1)) acc C3, fun H3 ⟨acc, C3, H03, w3, q3⟩ => ⟨_, by omega, rfl, hlt, acc, C3, H03, w3, q3⟩, fun x H3 hy => ?_⟩
    obtain ⟨H03, p3, c3, r3⟩ := y1.yld j _ _ _ x H3 ds[j] w2.st.base w2.c hP (by simp [hlt]) hy
    have w3 := w2.step p3 c3
    have at3 := at1.step w3.st c3
    refine bind_to c3.same hb hv r3 (at3.wipe _).s (at3.wipe _).l fun σ' s' l' ew => ⟨by rw [ew, wipe_wipe], ρ', C2, _, qe, H03, ⟨at3.a, c3, s', l'⟩, fun v y C4 H4 H04 p4 c4 r4 ⟨hlen, q4⟩ => ?_⟩
    obtain ⟨vs, f1, f2, w5⟩ := (w3.step p4 c4).add hL r4
    exact ⟨vs, f1, by rw [f2]; exact Nat.lt_trans hlen (by decide), _, C4, H04, w5, q4⟩
  · have e : j = ds.length := by omega
    subst e
    rw [List.drop_length] at q2
    obtain ⟨H0', f1, f2, f3⟩ := w2.fin hL
    exact .inl ⟨y1.stop _ _ _ _ w2.st.base w2.c hP (Nat.le_refl _), k _ _ C2 H2 H0' (p1.trans c1 f1) f2 f3 q2.2⟩
theorem we_lc (own : List (Str × Nat)) (bd : Bind) (hc : X.calm = true) (hN : X.N.Nodup) (ok : BlkOk X.N X.env.scope scope own)
    (hg : ∀ (s : Shared) (H : Hp) (Ca : Addr) (cl : List (Str × Addr)) (fp : List Addr), PG (X.blk s H scope (compEnvC scope cl Ca X.env) fp) tg (bd.g X.K)) (hv : ∀ i ∈ bd.slots, i ∈ own.map (·.2))
    (h : WI T tg iter ρ C fun ds P C1 => LcW T scope bd elt (own.map (·.2)) ρ P Q ds [] C1) (hs : ∀ x, foldedSetIterable iter X.env x = pure x := by intro _; rfl) : WE T (.ListComp elt [⟨tg, iter, [], 0⟩] scope pos) ρ C Q := by
  exact PE.imp (pe_lc hc hN h ok hg (fun _ _ _ _ _ => pts_nil) (pe_someB T scope elt) hs) (read_lc own bd hv)
/-- name = [..] on one line -/
theorem ws_setLc {N : TEnds} {x : Str} {py spos : Pos} (own : List (Str × Nat)) (bd : Bind) (j : Nat) (hc : X.calm = true) (hN : X.N.Nodup) (hy : X.N[j]? = some x) (hyl : X.env.scope.names.lookup x = some .local)
    (hsw : swapsWith (.ListComp elt [⟨tg, iter, [], 0⟩] scope pos) (some (.Name x py)) spos.line X.env = pure true) (ok : BlkOk X.N X.env.scope scope own)
    (hg : ∀ (s : Shared) (H : Hp) (Ca : Addr) (cl : List (Str × Addr)) (fp : List Addr), PG (X.blk s H scope (compEnvC scope cl Ca X.env) fp) tg (bd.g X.K)) (hv : ∀ i ∈ bd.slots, i ∈ own.map (·.2))
    (h : WI T tg iter ρ C fun ds P C1 => LcW T scope bd elt (own.map (·.2)) ρ P (fun d C2 => N.nx (ρ.set j (some d)) C2) ds [] C1) (hs : ∀ x, foldedSetIterable iter X.env x = pure x := by intro _; rfl) : WS T (.Assign [.Name x py] (.ListComp elt [⟨tg, iter, [], 0⟩] scope pos) spos) ρ C N :=
  PS.imp (ps_setLc hc hN hy hyl hsw h ok hg (fun _ _ _ _ _ => pts_nil) (pe_someB T scope elt) hs) fun Dn σ H ⟨H0, at_, k⟩ => read_lc own bd hv σ H _ ⟨H0, at_, fun v d C1 H1 H01 p c r q =>
    (k.after p c).nx _ _ C1 H1 H01 (Stp.refl _ _ _) c (SlotsR.set j (at_.step p c).s r at_.l) (by rw [List.length_set, List.length_set]; exact at_.l) q⟩
theorem read_lc1 (own : List (Str × Nat)) (bd : Bind) (hv : ∀ i ∈ bd.slots, i ∈ own.map (·.2)) : ∀ σ H R, TEx T ρ C Q σ H R → tLc (TIx T ρ C fun ds P C1 => LcW1 T scope bd i elt (own.map (·.2)) ρ P Q ds [] C1) (bd.g X.K) (someBT T scope i) (someB T scope elt) (own.map (·.2)) σ H R := by
  refine fun σ H R ⟨H0, at_, k⟩ => ⟨H0, at_, fun J ds P C1 H1 H01 p1 c1 y1 q1 L hL => ?_⟩
  have at1 := at_.step p1 c1
  refine ⟨fun j m H2 => m = ds.length - j ∧ j ≤ ds.length ∧ ∃ acc C2 H02, Way X H01 C1 H1 L acc H02 C2 H2 ∧ LcW1 T scope bd i elt (own.map (·.2)) ρ P Q (ds.drop j) acc C2, ⟨_, rfl, Nat.zero_le _, [], C1, H01, way0 c1 hL, q1⟩, ?_⟩
  rintro j m H2 ⟨rfl, hj, acc, C2, H02, w2, q2⟩
  have hP : P C2 := by
    generalize ds.drop j = l at q2
    cases l with
    | nil => exact q2.1
    | cons d r => exact q2.1
  by_cases hlt : j < ds.length
  · rw [List.drop_eq_getElem_cons hlt] at q2
    obtain ⟨_, ρ', hb, qe⟩ := q2
    refine .inr ⟨y1.go j _ _ _ w2.st.base w2.c hP hlt, fun H3 => ∃ acc C3 H03, Way X H01 C1 H1 L acc H03 C3 H3 ∧ LcW1 T scope bd i elt (own.map (·.2)) ρ P Q (ds.drop (j + 1)) acc C3, fun H3 ⟨acc, C3, H03, w3, q3⟩ => ⟨_, by omega, rfl, hlt, acc, C3, H03, w3, q3⟩, fun x H3 hy => ?_⟩
    obtain ⟨H03, p3, c3, r3⟩ := y1.yld j _ _ _ x H3 ds[j] w2.st.base w2.c hP (by simp [hlt]) hy
    have w3 := w2.step p3 c3
    have at3 := at1.step w3.st c3
    refine bind_to c3.same hb hv r3 (at3.wipe _).s (at3.wipe _).l fun σ' s' l' ew => ⟨by rw [ew, wipe_wipe], ρ', C2, _, qe, H03, ⟨at3.a, c3, s', l'⟩, fun b C5 H5 H05 p5 c5 q5 => ?_⟩
    have w5 := w3.step p5 c5
    have at5 : At T H05 ρ' C5 σ' H5 := ⟨(at1.step w5.st c5).a, c5, SlotsR.mono s' p5.base, l'⟩
    cases b with
    | false => exact ⟨acc, C5, H05, w5, q5⟩
    | true =>
      refine ⟨ρ', C5, _, q5, H05, at5, fun v y C4 H4 H04 p4 c4 r4 ⟨hlen, q4⟩ => ?_⟩
      obtain ⟨vs, f1, f2, w6⟩ := (w5.step p4 c4).add hL r4
      exact ⟨vs, f1, by rw [f2]; exact Nat.lt_trans hlen (by decide), _, C4, H04, w6, q4⟩
  · have e : j = ds.length := by omega
    subst e
    rw [List.drop_length] at q2
    obtain ⟨H0', f1, f2, f3⟩ := w2.fin hL
    exact .inl ⟨y1.stop _ _ _ _ w2.st.base w2.c hP (Nat.le_refl _), k _ _ C2 H2 H0' (p1.trans c1 f1) f2 f3 q2.2⟩
theorem we_lc1 (own : List (Str × Nat)) (bd : Bind) (hc : X.calm = true) (hN : X.N.Nodup) (ok : BlkOk X.N X.env.scope scope own)
    (hg : ∀ (s : Shared) (H : Hp) (Ca : Addr) (cl : List (Str × Addr)) (fp : List Addr), PG (X.blk s H scope (compEnvC scope cl Ca X.env) fp) tg (bd.g X.K)) (hv : ∀ i ∈ bd.slots, i ∈ own.map (·.2))
    (h : WI T tg iter ρ C fun ds P C1 => LcW1 T scope bd i elt (own.map (·.2)) ρ P Q ds [] C1) (hs : ∀ x, foldedSetIterable iter X.env x = pure x := by intro _; rfl) : WE T (.ListComp elt [⟨tg, iter, [i], 0⟩] scope pos) ρ C Q := by
  exact PE.imp (pe_lc hc hN h ok hg (fun s H Ca cl fp => pts_one (pt_someB T scope i s H Ca cl fp)) (pe_someB T scope elt) hs) (read_lc1 own bd hv)
/-- name = [..] on one line -/
theorem ws_setLc1 {N : TEnds} {x : Str} {py spos : Pos} (own : List (Str × Nat)) (bd : Bind) (j : Nat) (hc : X.calm = true) (hN : X.N.Nodup) (hy : X.N[j]? = some x) (hyl : X.env.scope.names.lookup x = some .local)
    (hsw : swapsWith (.ListComp elt [⟨tg, iter, [i], 0⟩] scope pos) (some (.Name x py)) spos.line X.env = pure true) (ok : BlkOk X.N X.env.scope scope own)
    (hg : ∀ (s : Shared) (H : Hp) (Ca : Addr) (cl : List (Str × Addr)) (fp : List Addr), PG (X.blk s H scope (compEnvC scope cl Ca X.env) fp) tg (bd.g X.K)) (hv : ∀ i ∈ bd.slots, i ∈ own.map (·.2))
    (h : WI T tg iter ρ C fun ds P C1 => LcW1 T scope bd i elt (own.map (·.2)) ρ P (fun d C2 => N.nx (ρ.set j (some d)) C2) ds [] C1) (hs : ∀ x, foldedSetIterable iter X.env x = pure x := by intro _; rfl) : WS T (.Assign [.Name x py] (.ListComp elt [⟨tg, iter, [i], 0⟩] scope pos) spos) ρ C N :=
  PS.imp (ps_setLc hc hN hy hyl hsw h ok hg (fun s H Ca cl fp => pts_one (pt_someB T scope i s H Ca cl fp)) (pe_someB T scope elt) hs) fun Dn σ H ⟨H0, at_, k⟩ => read_lc1 own bd hv σ H _ ⟨H0, at_, fun v d C1 H1 H01 p c r q =>
    (k.after p c).nx _ _ C1 H1 H01 (Stp.refl _ _ _) c (SlotsR.set j (at_.step p c).s r at_.l) (by rw [List.length_set, List.length_set]; exact at_.l) q⟩
end
end
end Tr

set_option maxHeartbeats 2000000
namespace Tr
open PySem L2 PySem.Spec PyProof.Rows

section
variable {X : Cx} {T : TX X} {ρ : Rho} {C : Cells} {Q : QE} {e a b c o : Expr} {pos p apos cpos : Pos} {es : List Expr} {d d1 d2 : D} {ds ds2 : List D}

/-! ### ints -/
theorem ow_int0 {f : Value → Value → Sem Value} {g : Int → Int → V} {i j : Int} (gd : D) (ho : OpR X f (rI0 g)) (hg : ∀ H0 : Hp, Rep X.K H0 gd (g i j)) (q : Q gd C) : OW T f (.int i) (.int j) C Q :=
  ow_look ho (fun x y H H0 c r1 r2 => by cases r1; cases r2; exact ⟨g i j, hg H0, fun R k => ⟨i, j, rfl, rfl, k⟩⟩) q
theorem ow_intC {f : Value → Value → Sem Value} {P : Int → Int → Prop} {g : Int → Int → V} {i j : Int} (gd : D) (ho : OpR X f (rI P g)) (hp : P i j) (hg : ∀ H0 : Hp, Rep X.K H0 gd (g i j)) (q : Q gd C) : OW T f (.int i) (.int j) C Q :=
  ow_look ho (fun x y H H0 c r1 r2 => by cases r1; cases r2; exact ⟨g i j, hg H0, fun R k => ⟨i, j, rfl, rfl, hp, k⟩⟩) q
theorem ow_add {i j : Int} (q : Q (.int (i + j)) C) : OW T (binaryOp .Add) (.int i) (.int j) C Q := ow_int0 (.int (i + j)) op_add (fun _ => rfl) q
theorem ow_sub {i j : Int} (q : Q (.int (i - j)) C) : OW T (binaryOp .Sub) (.int i) (.int j) C Q := ow_int0 (.int (i - j)) op_sub (fun _ => rfl) q
theorem ow_mul {i j : Int} (h : CMul i j) (q : Q (.int (i * j)) C) : OW T (binaryOp .Mult) (.int i) (.int j) C Q := ow_intC (.int (i * j)) op_mul h (fun _ => rfl) q
theorem ow_fdiv {i j : Int} (h : 0 < j ∧ j < 1073741824) (q : Q (.int (i / j)) C) : OW T (binaryOp .FloorDiv) (.int i) (.int j) C Q := ow_intC (.int (i / j)) op_fdiv h (fun _ => rfl) q
theorem ow_mod {i j : Int} (h : 0 < j) (q : Q (.int (i % j)) C) : OW T (binaryOp .Mod) (.int i) (.int j) C Q := ow_intC (.int (i % j)) op_mod h (fun _ => rfl) q
theorem ow_pow {i j : Int} (h : CPow i j) (q : Q (.int (i ^ j.toNat)) C) : OW T (binaryOp .Pow) (.int i) (.int j) C Q := ow_intC (.int (i ^ j.toNat)) op_pow h (fun _ => rfl) q
theorem ow_lt {i j : Int} (q : Q (.bl (decide (i < j))) C) : OW T (compareOp .Lt) (.int i) (.int j) C Q := ow_int0 (.bl (decide (i < j))) op_lt (fun _ => rfl) q
theorem ow_le {i j : Int} (q : Q (.bl (decide (i ≤ j))) C) : OW T (compareOp .LtE) (.int i) (.int j) C Q := ow_int0 (.bl (decide (i ≤ j))) op_le (fun _ => rfl) q
theorem ow_gt {i j : Int} (q : Q (.bl (decide (j < i))) C) : OW T (compareOp .Gt) (.int i) (.int j) C Q := ow_int0 (.bl (decide (j < i))) op_gt (fun _ => rfl) q
theorem ow_ge {i j : Int} (q : Q (.bl (decide (j ≤ i))) C) : OW T (compareOp .GtE) (.int i) (.int j) C Q := ow_int0 (.bl (decide (j ≤ i))) op_ge (fun _ => rfl) q
theorem we_neg {i : Int} (h : WE T a ρ C fun d C1 => ∃ i, d = .int i ∧ Q (.int (-i)) C1) : WE T (.UnaryOp .USub a pos) ρ C Q :=
  PE.imp (pe_un un_neg h) fun σ H R ⟨H0, at_, k⟩ => ⟨H0, at_, fun v d C1 H1 H01 p1 c1 r1 ⟨i, e1, q⟩ => by subst e1; cases r1; exact ⟨i, rfl, k _ (.int (-i)) C1 H1 H01 p1 c1 rfl q⟩⟩
/-- a op1 b op2 c -/
theorem wt_chain {op op' : CmpOp} {Q : QT} (h : WE T a ρ C fun d1 C1 => WE T b ρ C1 fun d2 C2 => OW T (compareOp op) d1 d2 C2 fun d C3 => ∃ k, d = .bl k ∧ if k = true then WE T c ρ C3 (fun d3 C4 => OW T (compareOp op') d2 d3 C4 fun d C5 => ∃ k, d = .bl k ∧ Q k C5) else Q false C3)
    (hc : PT X (.Compare a [op, op'] [b, c] pos) (tB (tChain (someO T (compareOp op)) (someO T (compareOp op')) (TEx T ρ C fun d1 C1 => WE T b ρ C1 fun d2 C2 => OW T (compareOp op) d1 d2 C2 fun d C3 => ∃ k, d = .bl k ∧ if k = true then WE T c ρ C3 (fun d3 C4 => OW T (compareOp op') d2 d3 C4 fun d C5 => ∃ k, d = .bl k ∧ Q k C5) else Q false C3) (someE T ρ b) (someE T ρ c)))) : WT T (.Compare a [op, op'] [b, c] pos) ρ C Q :=
  PT.imp hc fun σ H R ⟨H0, at_, k⟩ => ⟨H0, at_, fun v1 d1 C1 H1 H01 p1 c1 r1 q1 => by
    have at1 := at_.step p1 c1
    refine ⟨C1, _, q1, H01, at1, fun v2 d2 C2 H2 H02 p2 c2 r2 q2 => ?_⟩
    have at2 := at1.step p2 c2
    have r1' := r1.mono p2.base
    refine ⟨d1, d2, C2, _, q2, H02, c2, r1', r2, fun v3 d3 C3 H3 H03 p3 c3 r3 ⟨j, e3, q3⟩ => ?_⟩
    subst e3; cases r3
    have at3 := at2.step p3 c3
    refine ⟨j, rfl, ?_⟩
    cases j with
    | false => exact ⟨false, rfl, k false C3 H3 H03 ((p1.trans c1 p2).trans c2 p3) c3 q3⟩
    | true =>
      refine ⟨C3, _, q3, H03, at3, fun v4 d4 C4 H4 H04 p4 c4 r4 q4 => ⟨d2, d4, C4, _, q4, H04, c4, (r2.mono p3.base).mono p4.base, r4, fun v5 d5 C5 H5 H05 p5 c5 r5 ⟨j, e5, q5⟩ => ?_⟩⟩
      subst e5; cases r5
      exact ⟨j, rfl, k j C5 H5 H05 ((((p1.trans c1 p2).trans c2 p3).trans c3 p4).trans c4 p5) c5 q5⟩⟩

/-! ### data that == reads -/
mutual
def toPy : D → PyData
  | .non => .none
  | .bl b => .bool b
  | .int i => .int i
  | .str s => .str s
  | .lst ds => .list (toPys ds)
  | .tup ds => .tuple (toPys ds)
  | _ => .none
def toPys : List D → List PyData
  | [] => []
  | d :: ds => toPy d :: toPys ds
end
mutual
def plainD : D → Bool
  | .non | .bl _ | .int _ | .str _ => true
  | .lst ds => plainDs ds
  | .tup ds => plainDs ds
  | _ => false
def plainDs : List D → Bool
  | [] => true
  | d :: ds => plainD d && plainDs ds
end
mutual
theorem rep_dp {K : W.Frag} {H0 H : Hp} (c : Same H0 H) : ∀ {d : D} {v : V}, plainD d = true → Rep K H0 d v → Dp K H v (toPy d)
  | .non, _, _, h => by cases h; exact .non
  | .bl _, _, _, h => by cases h; exact .bl _
  | .int _, _, _, h => by cases h; exact .int _
  | .str _, _, _, h => by cases h; exact .str _
  | .lst _, _, hp, ⟨a, vs, h1, h2, h3⟩ => by subst h1; exact .lst (Same.sqL c h2) (reps_dp c hp h3)
  | .tup _, _, hp, ⟨a, vs, h1, h2, h3⟩ => by subst h1; exact .tup (Same.sqT c h2) (reps_dp c hp h3)
theorem reps_dp {K : W.Frag} {H0 H : Hp} (c : Same H0 H) : ∀ {ds : List D} {vs : List V}, plainDs ds = true → Reps K H0 ds vs → DpAll K H vs (toPys ds)
  | [], _, _, h => by cases h; exact .nil
  | d :: ds, _, hp, ⟨v, r, h1, h2, h3⟩ => by
    subst h1
    have hp' : (plainD d && plainDs ds) = true := hp
    rw [Bool.and_eq_true] at hp'
    exact .cons (rep_dp c hp'.1 h2) (reps_dp c hp'.2 h3)
end
/-- d, as == reads it -/
def PyR (C : Cells) (d : D) (p : PyData) : Prop := (plainD d = true ∧ p = toPy d) ∨ ∃ a ds, d = .raw (.ref a) ∧ (a, Cell.lst ds) ∈ C ∧ plainDs ds = true ∧ p = .list (toPys ds)
theorem pyR_t (h : plainD d = true) : PyR C d (toPy d) := .inl ⟨h, rfl⟩
theorem pyR_c {i : Nat} {a : Addr} (h : C[i]? = some (a, .lst ds)) (hp : plainDs ds = true) : PyR C (.raw (.ref a)) (.list (toPys ds)) := .inr ⟨a, ds, rfl, List.mem_iff_getElem?.mpr ⟨i, h⟩, hp, rfl⟩
theorem pyR_dp {K : W.Frag} {H0 H : Hp} {v : V} {p : PyData} (c : CellsR K H0 C H) (r : Rep K H0 d v) (h : PyR C d p) : Dp K H v p := by
  rcases h with ⟨h1, rfl⟩ | ⟨a, ds, rfl, hm, hp, rfl⟩
  · exact rep_dp c.same h1 r
  · obtain ⟨vs, g1, g2⟩ := c.ok a _ hm
    obtain rfl : v = .ref a := r
    exact .lst (.inl (.inl g1)) (reps_dp c.same hp g2)
theorem ow_eq {p1 p2 : PyData} (hu : X.A.units + 64 < cLine) (h1 : PyR C d1 p1) (h2 : PyR C d2 p2) (s1 : SeqAt.shaped p1 = true) (s2 : SeqAt.shaped p2 = true) (q : Q (.bl (PyData.eqv p1 p2)) C) : OW T (compareOp .Eq) d1 d2 C Q :=
  ow_look (d := .bl (PyData.eqv p1 p2)) (op_eqD hu) (fun x y H H0 c r1 r2 => ⟨.bl (PyData.eqv p1 p2), rfl, fun R k => ⟨p1, p2, pyR_dp c r1 h1, pyR_dp c r2 h2, s1, s2, k⟩⟩) q
theorem ow_ne {p1 p2 : PyData} (hu : X.A.units + 64 < cLine) (h1 : PyR C d1 p1) (h2 : PyR C d2 p2) (s1 : SeqAt.shaped p1 = true) (s2 : SeqAt.shaped p2 = true) (q : Q (.bl (!PyData.eqv p1 p2)) C) : OW T (compareOp .NotEq) d1 d2 C Q :=
  ow_look (d := .bl (!PyData.eqv p1 p2)) (op_neD hu) (fun x y H H0 c r1 r2 => ⟨.bl (!PyData.eqv p1 p2), rfl, fun R k => ⟨p1, p2, pyR_dp c r1 h1, pyR_dp c r2 h2, s1, s2, k⟩⟩) q
/-- texts -/
theorem ow_eq_str {x y : Str} (q : Q (.bl (decide (x = y))) C) : OW T (compareOp .Eq) (.str x) (.str y) C Q :=
  ow_look (d := .bl (decide (x = y))) op_eq (fun u v H H0 c r1 r2 => by cases r1; cases r2; exact ⟨.bl (decide (x = y)), rfl, fun R k => ⟨rfl, by
    rw [show decide (V.str x = V.str y) = decide (x = y) by by_cases e : x = y <;> simp [e]]; exact k⟩⟩) q
theorem ow_ne_str {x y : Str} (q : Q (.bl (!decide (x = y))) C) : OW T (compareOp .NotEq) (.str x) (.str y) C Q :=
  ow_look (d := .bl (!decide (x = y))) op_ne (fun u v H H0 c r1 r2 => by cases r1; cases r2; exact ⟨.bl (!decide (x = y)), rfl, fun R k => ⟨rfl, by
    rw [show decide (V.str x = V.str y) = decide (x = y) by by_cases e : x = y <;> simp [e]]; exact k⟩⟩) q
theorem ow_eq_int {x y : Int} (q : Q (.bl (decide (x = y))) C) : OW T (compareOp .Eq) (.int x) (.int y) C Q :=
  ow_look (d := .bl (decide (x = y))) op_eq (fun u v H H0 c r1 r2 => by cases r1; cases r2; exact ⟨.bl (decide (x = y)), rfl, fun R k => ⟨rfl, by
    rw [show decide (V.int x = V.int y) = decide (x = y) by by_cases e : x = y <;> simp [e]]; exact k⟩⟩) q
theorem ow_ne_int {x y : Int} (q : Q (.bl (!decide (x = y))) C) : OW T (compareOp .NotEq) (.int x) (.int y) C Q :=
  ow_look (d := .bl (!decide (x = y))) op_ne (fun u v H H0 c r1 r2 => by cases r1; cases r2; exact ⟨.bl (!decide (x = y)), rfl, fun R k => ⟨rfl, by
    rw [show decide (V.int x = V.int y) = decide (x = y) by by_cases e : x = y <;> simp [e]]; exact k⟩⟩) q
/-- is None, is not None -/
def isNon : D → Bool
  | .non => true
  | _ => false
theorem isNon_v {K : W.Frag} {H0 : Hp} {v : V} (r : Rep K H0 d v) (hr : ∀ w, d ≠ .raw w) : decide (v = .non) = isNon d := by
  cases d with
  | non => cases r; rfl
  | bl b => cases r; rfl
  | int i => cases r; rfl
  | str s => cases r; rfl
  | lst ds => obtain ⟨a, vs, h, _⟩ := r; subst h; rfl
  | tup ds => obtain ⟨a, vs, h, _⟩ := r; subst h; rfl
  | dic ks ds => obtain ⟨a, vs, h, _⟩ := r; subst h; rfl
  | ins Cl ns ds => obtain ⟨a, dx, vs, h, _⟩ := r; subst h; rfl
  | raw w => exact absurd rfl (hr w)
  | tpn ds => obtain ⟨a, vs, h, _⟩ := r; subst h; rfl
theorem ow_isN (hr : ∀ w, d ≠ .raw w) (q : Q (.bl (isNon d)) C) : OW T (compareOp .Is) d .non C Q :=
  ow_look (d := .bl (isNon d)) op_isN (fun x y H H0 c r1 r2 => by cases r2; exact ⟨.bl (isNon d), rfl, fun R k => ⟨rfl, by rw [isNon_v r1 hr]; exact k⟩⟩) q
theorem ow_isNotN (hr : ∀ w, d ≠ .raw w) (q : Q (.bl (!isNon d)) C) : OW T (compareOp .IsNot) d .non C Q :=
  ow_look (d := .bl (!isNon d)) op_notN (fun x y H H0 c r1 r2 => by cases r2; exact ⟨.bl (!isNon d), rfl, fun R k => ⟨rfl, by rw [isNon_v r1 hr]; exact k⟩⟩) q

/-! ### texts -/
theorem ow_add_str {x y : Str} (h : x.length + y.length ≤ 100000) (q : Q (.str (x ++ y)) C) : OW T (binaryOp .Add) (.str x) (.str y) C Q :=
  ow_look (d := .str (x ++ y)) op_add_str (fun u v H H0 c r1 r2 => by cases r1; cases r2; exact ⟨.str (x ++ y), rfl, fun R k => ⟨x, y, rfl, rfl, Nat.le_trans h (by decide), k⟩⟩) q
theorem sw_str {s : Str} {lo hi : Option Int} (h : s.length ≤ 100000) (q : Q (.str (cutS s lo hi)) C) : SW T (.str s) lo hi C Q :=
  SlR.imp sl_str fun x l u H R ⟨e1, e2, H0, c, r1, k⟩ => by
    subst e1; subst e2; cases r1
    exact ⟨s, rfl, Nat.le_trans h (by decide), k.here (d := .str (cutS s l u)) c rfl q⟩
theorem sw_tup {lo hi : Option Int} (q : Q (.tup (cutD ds lo hi)) C) : SW T (.tup ds) lo hi C Q :=
  SlR.imp sl_tupA fun x l u H R ⟨e1, e2, H0, c, r1, k⟩ => by
    subst e1; subst e2
    obtain ⟨a, vs, g1, g2, g3⟩ := id r1
    have hl := g3.length
    refine ⟨a, vs, g1, Same.sqT c.same g2, fun hw => ?_, fun _ z hz => ?_⟩
    · have e : cutD ds l u = ds := by
        unfold cutD
        rw [hl, hw.1, hw.2, ← hl]; simp
      rw [e] at q
      subst g1
      exact k.here (d := .tup ds) c r1 q
    · obtain ⟨p2, c2⟩ := stp_new (o := .tup (cutV vs l u)) c hz
      exact k _ (.tup (cutD ds l u)) C _ _ p2 c2 ⟨z, _, rfl, .inl (.inl upd_same), (reps_cut g3 l u).mono p2.base⟩ q
theorem cw_str_int {i : Int} (h : i.natAbs.log2 < 1920) (q : Q (.str (toString i)) C) : CW T (.type "str") [.int i] C Q :=
  cw_look (d := .str (toString i)) call_str_int (fun xs H H0 c r => by
    obtain ⟨v, e1, r1⟩ := r.one
    cases r1; subst e1
    exact ⟨.str (toString i), rfl, fun R k => ⟨i, rfl, h, k⟩⟩) q
theorem cw_str_str {s : Str} (q : Q (.str s) C) : CW T (.type "str") [.str s] C Q :=
  cw_look (d := .str s) SkE.call_str_str (fun xs H H0 c r => by
    obtain ⟨v, e1, r1⟩ := r.one
    cases r1; subst e1
    exact ⟨.str s, rfl, fun R k => ⟨s, rfl, k⟩⟩) q
theorem cw_int_str {s : Str} {n : Int} (h : intText? s = some n) (hl : s.length ≤ 640) (q : Q (.int n) C) : CW T (.type "int") [.str s] C Q :=
  cw_look (d := .int n) call_int_str (fun xs H H0 c r => by
    obtain ⟨v, e1, r1⟩ := r.one
    cases r1; subst e1
    exact ⟨.int n, rfl, fun R k => ⟨s, n, rfl, h, hl, k⟩⟩) q
theorem cw_int {i : Int} (q : Q (.int i) C) : CW T (.type "int") [.int i] C Q :=
  cw_look (d := .int i) call_int1 (fun xs H H0 c r => by
    obtain ⟨v, e1, r1⟩ := r.one
    cases r1; subst e1
    exact ⟨.int i, rfl, fun R k => .inl ⟨i, rfl, k⟩⟩) q
theorem cw_int_bl {k : Bool} (q : Q (.int (if k then 1 else 0)) C) : CW T (.type "int") [.bl k] C Q :=
  cw_look (d := .int (if k then 1 else 0)) call_int1 (fun xs H H0 c r => by
    obtain ⟨v, e1, r1⟩ := r.one
    cases r1; subst e1
    exact ⟨.int (if k then 1 else 0), rfl, fun R q => .inr ⟨k, rfl, q⟩⟩) q
theorem cw_abs {i : Int} (q : Q (.int (if i < 0 then -i else i)) C) : CW T (.builtin "abs") [.int i] C Q :=
  cw_look (d := .int (if i < 0 then -i else i)) call_abs (fun xs H H0 c r => by
    obtain ⟨v, e1, r1⟩ := r.one
    cases r1; subst e1
    exact ⟨.int (if i < 0 then -i else i), rfl, fun R k => ⟨i, rfl, k⟩⟩) q
/-- all, any of a list of bools -/
theorem reps_bls {K : W.Frag} {H0 : Hp} : ∀ {bs : List Bool} {vs : List V}, Reps K H0 (bs.map D.bl) vs → vs = bs.map V.bl
  | [], _, h => h
  | x :: r, _, ⟨_, _, h1, h2, h3⟩ => by subst h1; rw [reps_bls h3, h2]; rfl
theorem cw_all {bs : List Bool} (hc : X.calm = true) (q : Q (.bl (bs.all id)) C) : CW T (.builtin "all") [.lst (bs.map D.bl)] C Q :=
  cw_look (d := .bl (bs.all id)) (cr_all hc) (fun xs H H0 c r => by
    obtain ⟨v, e1, a, vs, e2, h2, h3⟩ := r.one
    subst e1; subst e2
    rw [reps_bls h3] at h2
    exact ⟨.bl (bs.all id), rfl, fun R k => ⟨a, bs, rfl, Same.sqL c.same h2, k⟩⟩) q
theorem cw_any {bs : List Bool} (hc : X.calm = true) (q : Q (.bl (bs.any id)) C) : CW T (.builtin "any") [.lst (bs.map D.bl)] C Q :=
  cw_look (d := .bl (bs.any id)) (cr_any hc) (fun xs H H0 c r => by
    obtain ⟨v, e1, a, vs, e2, h2, h3⟩ := r.one
    subst e1; subst e2
    rw [reps_bls h3] at h2
    exact ⟨.bl (bs.any id), rfl, fun R k => ⟨a, bs, rfl, Same.sqL c.same h2, k⟩⟩) q
end
end Tr

set_option maxHeartbeats 2000000
namespace Tr
open PySem L2 PySem.Spec PyProof.Rows

/-! ### x != y by the class's own __eq__ -/
section
open Builtin
variable {prog : Program} {w : World} {A : Around} {E : Value → Shared → Prop} {s : Shared} {K : W.Frag} {x C f : Addr} {ox : Obj} {od : Option Obj} {b tb : Value}
theorem ne_call {Q : Value → Shared → Prop} (hu : A.in1.units < cLine) (X : K.In s.heap) (I : W.InstAt s.heap x ox C od) (ho : W.mroIn K C (.type "object") = some true) (hs : W.findIn K (.ref C) "__eq__" = some (some (.ref f))) (hf : W.isFn K (.ref f) = true)
    (h : wpAny (model prog w) A.in1 (call (.ref f) [.ref x, b]) (fun v s' => ∃ k, v = .bool k ∧ Q (.bool (!k)) s') E s) : wpAny (model prog w) A (call (.builtin "object.__ne__") [.ref x, b]) Q E s := by
  refine wpAny_call (codeAny_call_builtin PySem.F.cmp_object.ne.plain PySem.F.cmpEntry_ne ?_)
  have L0 := I.type (M := model prog w)
  have L1 := W.looks_mroIn (M := model prog w) X ho
  have chk : ∀ {P : Unit → Shared → Prop} {A : Around} {E : Value → Shared → Prop}, P () s → wpAny (model prog w) A (checkBuiltinCall "object.__ne__" ⟨[.ref x, b], []⟩) P E s := fun {P A E} hp => by
    have ha := PySem.F.cmpArgs_ne (.ref x) b
    unfold argsOk at ha
    unfold checkBuiltinCall
    simp only [PySem.F.cmpKind_ne, PySem.F.cmpSplit_ne]
    unfold isInstance
    repeat (first | (with_reducible refine L0.here ?_) | (with_reducible refine L1.here ?_) | wp_step)
    exact hp
  refine chk ?_
  unfold Builtin.«object.__ne__»
  repeat (first
    | with_reducible refine wpAny_cRoomFor hu ?_
    | (refine wpAny_bind (m := callSpecialIfBound? (.ref x) (Str.ofString "__eq__") [b]) (W.ifBound_K X I hs hf (wpAny_mono h (fun r s' hr => ?_) fun _ _ y => y)))
    | wp_step)
  obtain ⟨k, rfl, hq⟩ := hr
  repeat (first | exact hq | exact wpAny_pure hq | exact wpAny_truthy_bool hq | (refine wpAny_bind (m := truthy (.bool _)) (wpAny_truthy_bool ?_)) | wp_step)
theorem ne_K {Q : Value → Shared → Prop} (hu : A.in1.units < cLine) (X : K.In s.heap) (I : W.InstAt s.heap x ox C od) (hb : W.Looks (model prog w) s.heap (typeOf b) tb) (hn : W.notFirst K C tb = true) (ho : W.mroIn K C (.type "object") = some true)
    (hne : W.findIn K (.ref C) "__ne__" = some (some (.builtin "object.__ne__"))) (hs : W.findIn K (.ref C) "__eq__" = some (some (.ref f))) (hf : W.isFn K (.ref f) = true)
    (h : wpAny (model prog w) A.in1 (call (.ref f) [.ref x, b]) (fun v s' => ∃ k, v = .bool k ∧ Q (.bool (!k)) s') E s) : wpAny (model prog w) A (richCompare .NotEq (.ref x) b) Q E s := by
  have one : wpAny (model prog w) A (tryCompare (.ref x) "__ne__" b) (fun r s' => ∃ v, r = some v ∧ Q v s') E s := by
    have bd := PySem.F.cmp_object.ne.bind (.ref x)
    unfold tryCompare
    simp only [callSpecialIfBound?, bindSpecialIfBound?]
    refine wpAny_bind (wpAny_holding (wpAny_bind (wpAny_bind (wpAny_bind (I.type.here ((W.looks_findIn X hne).here ?_))))))
    dsimp only
    rw [bd]
    refine wpAny_bind (wpAny_askSetting (wpAny_ite ?_))
    have core : wpAny (model prog w) A (call (.builtin "object.__ne__") [.ref x, b]) (fun v s' => ∃ k, v = .bool k ∧ Q (.bool k) s') E s := ne_call hu X I ho hs hf (wpAny_mono h (fun v s' ⟨k, e, q⟩ => ⟨k, e, _, rfl, q⟩) fun _ _ y => y)
    split
    · refine wpAny_bind (wpAny_pure (wpAny_pure ?_))
      show wpAny _ _ (call (.builtin "object.__ne__") ([.ref x] ++ [b]) >>= fun v => pure (some v)) _ _ _
      exact wpAny_bind (wpAny_mono core (fun v s' ⟨k, e, q⟩ => by subst e; exact wpAny_pure (wpAny_pure ⟨_, rfl, q⟩)) fun _ _ h' => h')
    · refine wpAny_tryCatch (wpAny_bind (wpAny_pure (wpAny_pure ?_)))
      show wpAny _ _ (call (.builtin "object.__ne__") ([.ref x] ++ [b]) >>= fun v => pure (some v)) _ _ _
      exact wpAny_bind (wpAny_mono core (fun v s' ⟨k, e, q⟩ => by subst e; exact wpAny_pure (wpAny_pure ⟨_, rfl, q⟩)) fun _ _ h' => h')
  unfold richCompare
  simp only [oneThing_ref]
  refine wpAny_holding (wpAny_bind (wpAny_cRoomFor (Nat.lt_of_succ_lt hu) ?_))
  refine wpAny_bind (I.type.here (wpAny_bind (hb.here ?_)))
  split
  · rename_i q
    have e : W.subIn K tb (.ref C) = some false := by
      rcases Bool.or_eq_true_iff.mp hn with e | e
      · rw [beq_iff_eq.mp e] at q; simp at q
      · exact beq_iff_eq.mp e
    refine wpAny_bind ((W.looks_subIn X e).here ?_)
    simp only [Bool.false_eq_true, if_false]
    refine wpAny_bind (wpAny_mono one (fun r s' z => ?_) fun _ _ e => e)
    obtain ⟨v, rfl, hq⟩ := z
    exact wpAny_pure hq
  · refine wpAny_bind (wpAny_pure ?_)
    simp only [Bool.false_eq_true, if_false]
    refine wpAny_bind (wpAny_mono one (fun r s' z => ?_) fun _ _ e => e)
    obtain ⟨v, rfl, hq⟩ := z
    exact wpAny_pure hq
end

/-! ### types -/
theorem in1_G {k : Nat} {A : Around} (r : RoomG (k + 1) A) : RoomG k A.in1 := ⟨r.rm.in1, r.gd⟩
/-- what isinstance asks of an own class -/
structure ClsI (K : W.Frag) (Cl : Addr) : Prop where
  c : Cls K Cl
  ca : W.findIn K (.ref Cl) "__class__" = some (some (.builtin "object.__class__"))
  cn : W.specialIn K (.builtin "object.__class__") "__get__" = some (some (.builtin "getset_descriptor.__get__"))
  ct : W.takesIn K (.builtin "object.__class__") = some true
  cm : W.mroIn K Cl (.type "object") = some true
inductive TyD (K : W.Frag) (C : Cells) : D → Value → Prop
  | non : TyD K C .non (.type "NoneType")
  | bl (b) : TyD K C (.bl b) (.type "bool")
  | int (i) : TyD K C (.int i) (.type "int")
  | str (s) : TyD K C (.str s) (.type "str")
  | lst (ds) : TyD K C (.lst ds) (.type "list")
  | tup (ds) : TyD K C (.tup ds) (.type "tuple")
  | ins {Cl ns ds} (h : ClsI K Cl) : TyD K C (.ins Cl ns ds) (.ref Cl)
  | cl {a ds} (h : (a, Cell.lst ds) ∈ C) : TyD K C (.raw (.ref a)) (.type "list")
  | ci {a Cl ns ds} (h : (a, Cell.ins Cl ns ds) ∈ C) (hc : ClsI K Cl) : TyD K C (.raw (.ref a)) (.ref Cl)
theorem rd_tyL {K : W.Frag} {H : Hp} {a : Addr} {vs : List V} (h : SqL K H a vs) : TyX K H (.ref a) (.type "list") := by
  rcases h with (h | ⟨o, h⟩) | ⟨o, its, n, h1, h2, _⟩
  · exact .base (.lst h)
  · exact .base (.frz h)
  · exact .kList h1 h2
theorem rd_tyT {K : W.Frag} {H : Hp} {a : Addr} {vs : List V} (h : SqT K H a vs) : TyX K H (.ref a) (.type "tuple") := by
  rcases h with (h | ⟨o, h⟩) | ⟨o, its, n, h1, h2, _⟩
  · exact .base (.tup h)
  · exact .fTuple h
  · exact .kTuple h1 h2
theorem ty_at {K : W.Frag} {H0 H : Hp} {C : Cells} {d : D} {v : V} {t : Value} (c : CellsR K H0 C H) (r : Rep K H0 d v) (h : TyD K C d t) : TyX K H v t := by
  cases h with
  | non => cases r; exact .base .non
  | bl b => cases r; exact .base (.bl b)
  | int b => cases r; exact .base (.int b)
  | str b => cases r; exact .base (.str b)
  | lst ds => obtain ⟨a, vs, e, h, _⟩ := r; subst e; exact rd_tyL (Same.sqL c.same h)
  | tup ds => obtain ⟨a, vs, e, h, _⟩ := r; subst e; exact rd_tyT (Same.sqT c.same h)
  | ins h => obtain ⟨a, dx, vs, e, h1, _⟩ := r; subst e; exact .base (.ins (c.same _ _ h1) h.c h.ca h.cn h.ct h.cm)
  | cl hm => cases r; obtain ⟨vs, e, _⟩ := c.ok _ _ hm; exact .base (.lst e)
  | ci hm h => cases r; obtain ⟨dx, vs, e, _⟩ := c.ok _ _ hm; exact .base (.ins e h.c h.ca h.cn h.ct h.cm)
/-- a class among data -/
inductive ClsD : D → Value → Prop
  | ty (n : String) : ClsD (.raw (.ty n)) (.type n)
  | own (Cl : Addr) : ClsD (.raw (.ref Cl)) (.ref Cl)
theorem cls_at {K : W.Frag} {H0 : Hp} {d : D} {v : V} {u : Value} (r : Rep K H0 d v) (h : ClsD d u) : ClsV v u := by
  cases h with
  | ty n => cases r; exact .ty n
  | own C => cases r; exact .own C
theorem clss_at {K : W.Frag} {H0 : Hp} : ∀ {ds : List D} {vs : List V} {us : List Value}, Reps K H0 ds vs → Paired ClsD ds us → Paired ClsV vs us
  | [], _, _, r, .nil => by cases r; exact .nil
  | d :: ds, _, _, ⟨v, vs, e, r1, r2⟩, .cons h t => by subst e; exact .cons (cls_at r1 h) (clss_at r2 t)

section
variable {X : Cx} {T : TX X} {ρ : Rho} {C : Cells} {Q : QE} {e a b c o : Expr} {pos p apos cpos : Pos} {es : List Expr} {d d1 d2 : D} {ds ds2 : List D}
/-- a built-in's name as a value -/
theorem we_ty {x : Str} {n : String} (hg : Gl X x) (hm : X.mg x = none) (hv : bootBuiltins x = some (.type n)) (q : Q (.raw (.ty n)) C) (hn : x ≠ "__name__" := by decide) (hd : (x == ("__debug__" : Str)) = false := by decide) : WE T (.Name x pos) ρ C Q :=
  we_look (d := .raw (.ty n)) (pe_bltn (v := .ty n) hg hm hv rfl hn hd) (fun σ H H0 a => ⟨.ty n, rfl, fun R k => k⟩) q
theorem call_isiS : CallR X (.builtin "isinstance") (fun xs H Q => ∃ (x : V) (tp : Addr) (cs : List V) (t : Value) (us : List Value) (b : Bool), xs = [x, .ref tp] ∧ SqT X.K H tp cs ∧ Paired ClsV cs us ∧ TyX X.K H x t ∧ W.kitAny X.K t us = some b ∧ Q (.bl b) H) := by
  intro pins s σ H xs us Q I r h
  obtain ⟨x, tp, cs, t, ws, b, rfl, hT, k, ty, e, q⟩ := h
  obtain ⟨u1, u2, rfl, r1, r2⟩ := vals2 r
  cases (show u2 = Value.ref tp from r2)
  obtain ⟨P, Z, p, hx⟩ := kit_of I r1 ty
  obtain ⟨its, rv, ⟨o, h1, h2, n, h3⟩, _⟩ := I.tuple hT
  have e3 := ClsV.all k rv
  subst e3
  obtain ⟨oc, od, dt, sl⟩ := o
  simp only at h2 h3
  subst h2 h3
  exact W.kia_tup Z I.kIn p h1 e hx fun tk => ⟨.bl b, H, I.tok tk, rfl, q⟩
theorem cw_isi {t u : Value} {b : Bool} (hc : ClsD d2 u) (ht : TyD X.K C d1 t) (hk : W.kitOne X.K t u = some b) (q : Q (.bl b) C) : CW T (.builtin "isinstance") [d1, d2] C Q :=
  cw_look (d := .bl b) call_isi (fun xs H H0 c r => by
    obtain ⟨v, w, e1, r1, r2⟩ := r.two
    subst e1
    exact ⟨.bl b, rfl, fun R k => ⟨v, w, t, u, b, rfl, cls_at r2 hc, ty_at c r1 ht, hk, k⟩⟩) q
theorem cw_isiT {t : Value} {us : List Value} {b : Bool} (hc : Paired ClsD ds us) (ht : TyD X.K C d1 t) (hk : W.kitAny X.K t us = some b) (q : Q (.bl b) C) : CW T (.builtin "isinstance") [d1, .tup ds] C Q :=
  cw_look (d := .bl b) call_isiS (fun xs H H0 c r => by
    obtain ⟨v, w, e1, r1, r2⟩ := r.two
    subst e1
    obtain ⟨a, vs, e2, h2, h3⟩ := tup_at c r2
    subst e2
    exact ⟨.bl b, rfl, fun R k => ⟨v, a, vs, t, us, b, rfl, h2, clss_at h3 hc, ty_at c r1 ht, hk, k⟩⟩) q
end

/-! ### a def that is called by an operation -/
section
variable {X : Cx} {T : TX X} {ρ : Rho} {C : Cells} {Q : QE} {pos p apos : Pos} {k : Nat} {f Cl : Addr} {fd : FuncData} {ps : List Str} {F : FS} {dvs : List V} {dds : List D} {dus : List Value} {d1 d2 d : D} {ns : List Str} {ds : List D}
/-- what such a call asks: nothing is raised -/
def AsksN (F : FS) (ds : List D) (C : Cells) (Q : QE) : Prop := ∃ μ r, C.Perm (μ ++ r) ∧ F ds μ (fun d μ' => Q d (μ' ++ r)) fun _ _ _ => False
theorem run_N {pins : List (Addr × Obj)} {σ : L2.St} {H H0 : Hp} {s : Shared} {R : VK} {us : List Value} {vs : List V} {A : Around} {E' : Value → Shared → Prop} (Fk : FnG X.prog X.w X.K X.mg X.base k f fd ps F) (hr : RoomG k A) (hb : Binds X.K fd ps [])
    (I : Inv X pins σ H s) (e0 : Env0 X.prog X.w X.K X.mg X.base A X.stack s H) (rv : Vals vs us) (c : CellsR X.K H0 C H) (r : Reps X.K H0 ds vs) (h : AsksN F ds C Q) (kk : Cont X H0 C H Q R) : wpAny (model X.prog X.w) A (call (.ref f) us) (EP X pins σ R) E' s := by
  obtain ⟨μ, rr, pm, h⟩ := h
  have all : spT X.K F vs H R (fun _ _ _ => False) := ⟨H0, ds, μ, _, _, c.part pm, r, h, fun v d C' H' H0' p c' r' q => by
    obtain ⟨p2, c2⟩ := c.back pm p c'
    exact kk v d _ H' H0' p2 c2 r' q, fun cls dd fs C' H' H0' p c x q => q⟩
  have nlen : us.length = ps.length := by
    rw [← rv.length, ← r.length]
    exact Fk.len _ _ _ _ h
  have bnd := hb s us I.kIn (by rw [List.append_nil]; exact nlen)
  rw [List.append_nil] at bnd
  have went := Fk.run A X.stack s H ⟨us, []⟩ us vs R _ hr e0 bnd rv all
  refine wpAny_call (codeAny_mono went ?_)
  rintro (e | (_ | _ | _ | u)) s' hq
  · obtain ⟨_, _, _, _, _, _, _, _, _, _, _, _, z⟩ := hq; exact z.elim
  · exact False.elim hq
  · exact False.elim hq
  · exact False.elim hq
  · exact I.after hq
/-- the heap's own word on an instance -/
theorem ins_inst {pins : List (Addr × Obj)} {σ : L2.St} {H H0 : Hp} {s : Shared} {v : V} {u : Value} (I : Inv X pins σ H s) (rv : RelV v u) (c : CellsR X.K H0 C H) (r : Rep X.K H0 d v) (h : InsD C d Cl ns ds) : ∃ ad ox od, v = .ref ad ∧ u = .ref ad ∧ W.InstAt s.heap ad ox Cl (some od) := by
  obtain ⟨ad, dx, vs, e1, e2, e3, e4⟩ := ins_at c r h
  subst e1
  obtain rfl : u = Value.ref ad := rv
  obtain ⟨mA, O, _⟩ := ins_get I.hok e2
  obtain ⟨od, J, _⟩ := O.look
  exact ⟨ad, _, od, rfl, rfl, J⟩
/-- x == y (or another comparison), by the def of x's class -/
theorem ow_own {op : CmpOp} {t : Value} (hop : ∀ a b, compareOp op a b = richCompare op a b) (hs : W.findIn X.K (.ref Cl) (cmpInfo op).2.1 = some (some (.ref f))) (hf : W.isFn X.K (.ref f) = true) (hn : W.notFirst X.K Cl t = true)
    (Fk : FnG X.prog X.w X.K X.mg X.base k f fd ps F) (hr : RoomG k X.A) (hb : Binds X.K fd ps []) (h1 : InsD C d1 Cl ns ds) (h2 : TyD X.K C d2 t)
    (h : AsksN F [d1, d2] C fun d C' => ∃ j, d = .bl j ∧ Q (.bl j) C') : OW T (compareOp op) d1 d2 C Q := by
  intro pins s σ H x y v u R I rx ry ⟨H0, c, r1, r2, kk⟩
  obtain ⟨ad, ox, od, e1, e2, J⟩ := ins_inst I rx c r1 h1
  subst e1; subst e2
  obtain ⟨P, Z, p, hx⟩ := kit_of I ry (ty_at c r2 h2)
  obtain ⟨m, hF⟩ := I.fr
  rw [hop]
  refine W.cmp_K (op := op) hr.rm.units0 hF I.ok.mod.kin J (Z.ty _ _ I.kIn p) hn hs hf ?_
  refine wpAny_mono (run_N (us := [.ref ad, u]) (vs := [.ref ad, y]) (R := fun v H => ∃ j, v = .bl j ∧ R (.bl j) H) Fk hr hb I I.env0 (.cons rfl (.cons ry .nil)) c (Reps.cons r1 (Reps.cons r2 Reps.nil)) h
    (fun v d C' H' H0' p c' r ⟨j, e, q⟩ => by subst e; cases r; exact ⟨j, rfl, kk _ (.bl j) C' H' H0' p c' rfl q⟩)) (fun w s' z => ?_) fun _ _ x => x
  obtain ⟨z', H', I', rz, j, e, qz⟩ := z
  subst e
  cases (show w = Value.bool j from rz)
  exact ⟨.bl j, H', I', rfl, qz⟩
/-- x != y, by the def for == -/
theorem ow_neOwn {t : Value} (hne : W.findIn X.K (.ref Cl) "__ne__" = some (some (.builtin "object.__ne__"))) (hs : W.findIn X.K (.ref Cl) "__eq__" = some (some (.ref f))) (hf : W.isFn X.K (.ref f) = true) (hn : W.notFirst X.K Cl t = true)
    (ho : W.mroIn X.K Cl (.type "object") = some true) (Fk : FnG X.prog X.w X.K X.mg X.base k f fd ps F) (hr : RoomG (k + 1) X.A) (hb : Binds X.K fd ps []) (h1 : InsD C d1 Cl ns ds) (h2 : TyD X.K C d2 t)
    (h : AsksN F [d1, d2] C fun d C' => ∃ j, d = .bl j ∧ Q (.bl (!j)) C') : OW T (compareOp .NotEq) d1 d2 C Q := by
  intro pins s σ H x y v u R I rx ry ⟨H0, c, r1, r2, kk⟩
  obtain ⟨ad, ox, od, e1, e2, J⟩ := ins_inst I rx c r1 h1
  subst e1; subst e2
  obtain ⟨P, Z, p, hx⟩ := kit_of I ry (ty_at c r2 h2)
  obtain ⟨m, hF⟩ := I.fr
  show wpAny _ _ (richCompare .NotEq _ _) _ _ _
  refine ne_K (in1_G hr).rm.units0 I.kIn J (Z.ty _ _ I.kIn p) hn ho hne hs hf ?_
  refine wpAny_mono (run_N (us := [.ref ad, u]) (vs := [.ref ad, y]) (R := fun v H => ∃ j, v = .bl j ∧ R (.bl (!j)) H) Fk (in1_G hr) hb I I.env0.in1 (.cons rfl (.cons ry .nil)) c (Reps.cons r1 (Reps.cons r2 Reps.nil)) h
    (fun v d C' H' H0' p c' r ⟨j, e, q⟩ => by subst e; cases r; exact ⟨j, rfl, kk _ (.bl (!j)) C' H' H0' p c' rfl q⟩)) (fun w s' z => ?_) fun _ _ x => x
  obtain ⟨z', H', I', rz, j, e, qz⟩ := z
  subst e
  cases (show w = Value.bool j from rz)
  exact ⟨j, rfl, .bl (!j), H', I', rfl, qz⟩
/-- len(x), by the def of x's class -/
theorem cw_lenOwn (hs : W.findIn X.K (.ref Cl) "__len__" = some (some (.ref f))) (hf : W.isFn X.K (.ref f) = true) (Fk : FnG X.prog X.w X.K X.mg X.base k f fd ps F) (hr : RoomG (k + 1) X.A) (hb : Binds X.K fd ps []) (h1 : InsD C d Cl ns ds)
    (h : AsksN F [d] C fun d C' => ∃ n : Nat, d = .int n ∧ n ≤ 1000000 ∧ Q (.int n) C') : CW T (.builtin "len") [d] C Q := by
  intro pins s σ H vs us R I rv ⟨H0, c, r, kk⟩
  obtain ⟨v, e, r1⟩ := r.one
  subst e
  obtain ⟨u, rfl, ru⟩ := rv.one
  obtain ⟨ad, ox, od, e1, e2, J⟩ := ins_inst I ru c r1 h1
  subst e1; subst e2
  obtain ⟨m, hF⟩ := I.fr
  refine W.len_K hF I.ok.mod.kin J hs hf ?_
  refine wpAny_mono (run_N (us := [.ref ad]) (vs := [.ref ad]) (R := fun v H => ∃ n : Nat, v = .int n ∧ n ≤ 1000000 ∧ R (.int n) H) Fk (in1_G hr) hb I I.env0.in1 (.cons rfl .nil) c (Reps.cons r1 Reps.nil) h
    (fun v d C' H' H0' p c' r ⟨n, e, hn, q⟩ => by subst e; cases r; exact ⟨n, rfl, hn, kk _ (.int n) C' H' H0' p c' rfl q⟩)) (fun w s' z => ?_) fun _ _ x => x
  obtain ⟨z', H', I', rz, n, e, hn, qz⟩ := z
  subst e
  obtain ⟨t, ht⟩ := (show ∃ t, w = Value.int n t from rz)
  subst ht
  exact ⟨⟨Int.natCast_nonneg _, by omega⟩, .int n, H', I'.tok _, ⟨_, rfl⟩, qz⟩
/-- str(x), by the def of x's class -/
theorem cw_strOwn (hs : W.findIn X.K (.ref Cl) "__str__" = some (some (.ref f))) (hf : W.isFn X.K (.ref f) = true) (Fk : FnG X.prog X.w X.K X.mg X.base k f fd ps F) (hr : RoomG (k + 2) X.A) (hb : Binds X.K fd ps []) (h1 : InsD C d Cl ns ds)
    (h : AsksN F [d] C fun d C' => ∃ z : Str, d = .str z ∧ Q (.str z) C') : CW T (.type "str") [d] C Q := by
  intro pins s σ H vs us R I rv ⟨H0, c, r, kk⟩
  obtain ⟨v, e, r1⟩ := r.one
  subst e
  obtain ⟨u, rfl, ru⟩ := rv.one
  obtain ⟨ad, ox, od, e1, e2, J⟩ := ins_inst I ru c r1 h1
  subst e1; subst e2
  refine W.kso_call (in1_G (in1_G hr)).rm.units0 I.kIn J hs hf ?_
  refine wpAny_mono (run_N (us := [.ref ad]) (vs := [.ref ad]) (R := fun v H => ∃ z : Str, v = .str z ∧ R (.str z) H) Fk (in1_G (in1_G hr)) hb I I.env0.in1.in1 (.cons rfl .nil) c (Reps.cons r1 Reps.nil) h
    (fun v d C' H' H0' p c' r ⟨z, e, q⟩ => by subst e; cases r; exact ⟨z, rfl, kk _ (.str z) C' H' H0' p c' rfl q⟩)) (fun w s' z => ?_) fun _ _ x => x
  obtain ⟨z', H', I', rz, n, e, qz⟩ := z
  subst e
  obtain ⟨t, ht⟩ := (show ∃ t, w = Value.str n t from rz)
  subst ht
  exact ⟨.str n, H', I', ⟨_, rfl⟩, qz⟩
end

/-! ### lists put together, turned about; texts -/
section
variable {X : Cx} {T : TX X} {ρ : Rho} {C : Cells} {Q : QE} {e a b c o : Expr} {pos p apos cpos : Pos} {es : List Expr} {d d1 d2 : D} {ds ds2 : List D}
def rCatS (K : W.Frag) : R2 := fun x y H Q => ∃ l b xs zs, x = .ref l ∧ y = .ref b ∧ SqL K H l xs ∧ SqL K H b zs ∧ xs.length + zs.length ≤ sizeLine ∧ ∀ p, H p = none → Q (.ref p) (upd H p (.lst (xs ++ zs)))
theorem op_catS : OpR X (binaryOp .Add) (rCatS X.K) := by
  intro pins s σ H x y v u Q I rx ry h
  obtain ⟨l, b, xs, zs, rfl, rfl, hH, hB, hz, q⟩ := h
  cases rx
  cases ry
  obtain ⟨its, r, ht, z1⟩ := I.list hH
  obtain ⟨its2, r2, ht2, z2⟩ := I.list hB
  have l1 := r.length
  have l2 := r2.length
  obtain ⟨⟨cl1, dd, data, sl⟩, n, ho, hc, _, hd⟩ := id ht
  obtain ⟨⟨cl2, dd2, data2, sl2⟩, n2, ho2, hc2, _, hd2⟩ := id ht2
  simp only at hc hd hc2 hd2
  subst hc hd hc2 hd2
  refine concat_meets ⟨_, ho, rfl⟩ ⟨_, ho2, rfl⟩ PySem.noFill_list_add PySem.seq_list_add PySem.F.slot_list_add PySem.F.entry_list_add (PySem.F.args_list_add_2 _ _) (list_addW l b its.toArray its2.toArray n n2 dd dd2 sl sl2 (by rw [List.size_toArray, List.size_toArray]; omega)) ⟨ho, ho2, ?_⟩
  rw [show its.toArray ++ its2.toArray = (its ++ its2).toArray by simp]
  exact ⟨.ref _, _, I.lnew (t' := s.toks) (r.append r2) (by rw [List.length_append]; omega), rfl, q _ I.fresh⟩
/-- xs + ys: a new list that stands still, or a cell -/
theorem ow_cat (h1 : LstD C d1 ds) (h2 : LstD C d2 ds2) (hl : ds.length + ds2.length ≤ 100000) (q : Q (.lst (ds ++ ds2)) C) : OW T (binaryOp .Add) d1 d2 C Q :=
  OpR.imp op_catS fun x y H R ⟨H0, c, r1, r2, k⟩ => by
    obtain ⟨a, vs, e1, g1, g2⟩ := lst_at c r1 h1
    obtain ⟨b, ws, e2, g3, g4⟩ := lst_at c r2 h2
    have l1 := g2.length
    have l2 := g4.length
    refine ⟨a, b, vs, ws, e1, e2, g1, g3, Nat.le_trans (by omega) (show 100000 ≤ sizeLine by decide), fun p hp => ?_⟩
    obtain ⟨p2, c2⟩ := stp_new (o := .lst (vs ++ ws)) c hp
    exact k _ (.lst (ds ++ ds2)) C _ _ p2 c2 ⟨p, _, rfl, .inl (.inl upd_same), (g2.append g4).mono p2.base⟩ q
theorem ow_catC (h1 : LstD C d1 ds) (h2 : LstD C d2 ds2) (hl : ds.length + ds2.length ≤ 100000) (q : ∀ p, Q (.raw (.ref p)) ((p, .lst (ds ++ ds2)) :: C)) : OW T (binaryOp .Add) d1 d2 C Q :=
  OpR.imp op_catS fun x y H R ⟨H0, c, r1, r2, k⟩ => by
    obtain ⟨a, vs, e1, g1, g2⟩ := lst_at c r1 h1
    obtain ⟨b, ws, e2, g3, g4⟩ := lst_at c r2 h2
    have l1 := g2.length
    have l2 := g4.length
    refine ⟨a, b, vs, ws, e1, e2, g1, g3, Nat.le_trans (by omega) (show 100000 ≤ sizeLine by decide), fun p hp => ?_⟩
    obtain ⟨p2, c2⟩ := stp_cell (o := .lst (vs ++ ws)) (c := .lst (ds ++ ds2)) c hp ⟨_, upd_same, g2.append g4⟩
    exact k _ (.raw (.ref p)) _ _ _ p2 c2 rfl (q p)
/-- t + u -/
theorem ow_catT (hl : ds.length + ds2.length ≤ 100000) (q : Q (.tup (ds ++ ds2)) C) : OW T (binaryOp .Add) (.tup ds) (.tup ds2) C Q :=
  OpR.imp op_catA fun x y H R ⟨H0, c, r1, r2, k⟩ => by
    obtain ⟨a, vs, e1, g1, g2⟩ := tup_at c r1
    obtain ⟨b, ws, e2, g3, g4⟩ := tup_at c r2
    have l1 := g2.length
    have l2 := g4.length
    refine ⟨a, b, vs, ws, e1, e2, g1, g3, Nat.le_trans (by omega) (show 100000 ≤ sizeLine by decide), fun e => ?_, fun _ e => ?_, fun _ _ p hp => ?_⟩
    · subst e; subst e2
      have : ds = [] := List.length_eq_zero_iff.mp l1
      subst this
      exact k.here (d := .tup ([] ++ ds2)) c r2 q
    · subst e; subst e1
      have : ds2 = [] := List.length_eq_zero_iff.mp l2
      subst this
      rw [List.append_nil] at q
      exact k.here (d := .tup ds) c r1 q
    · obtain ⟨p2, c2⟩ := stp_new (o := .tup (vs ++ ws)) c hp
      exact k _ (.tup (ds ++ ds2)) C _ _ p2 c2 ⟨p, _, rfl, .inl (.inl upd_same), (g2.append g4).mono p2.base⟩ q
theorem Reps.reverse {K : W.Frag} {H : Hp} : ∀ {ds : List D} {vs : List V}, Reps K H ds vs → Reps K H ds.reverse vs.reverse
  | [], _, h => by cases h; exact Reps.nil
  | d :: ds, _, ⟨v, r, e, h1, h2⟩ => by
    subst e
    rw [List.reverse_cons, List.reverse_cons]
    exact (Reps.reverse h2).append (Reps.cons h1 Reps.nil)
/-- xs[::-1] -/
theorem we_rev {k : Nat} {p1 p2 p3 : Pos} (h : WE T e ρ C fun d C1 => ∃ ds, LstD C1 d ds ∧ Q (.lst ds.reverse) C1) : WE T (.Subscript e (.Slice none none (some (.UnaryOp .USub (.Constant (.int 1) k p1) p2)) p3) pos) ρ C Q :=
  PE.imp (pe_revL h) fun σ H R ⟨H0, at_, k⟩ => ⟨H0, at_, fun v d C1 H1 H01 pp c1 r1 ⟨ds, hl, q⟩ => by
    obtain ⟨a, vs, e1, g1, g2⟩ := lst_at c1 r1 hl
    refine ⟨a, vs, e1, g1, fun p hp => ?_⟩
    obtain ⟨p2, c2⟩ := stp_new (o := .lst vs.reverse) c1 hp
    exact k _ (.lst ds.reverse) C1 _ _ (pp.trans c1 p2) c2 ⟨p, _, rfl, .inl (.inl upd_same), (Reps.reverse g2).mono p2.base⟩ q⟩
theorem we_revC {k : Nat} {p1 p2 p3 : Pos} (h : WE T e ρ C fun d C1 => ∃ ds, LstD C1 d ds ∧ ∀ p, Q (.raw (.ref p)) ((p, .lst ds.reverse) :: C1)) : WE T (.Subscript e (.Slice none none (some (.UnaryOp .USub (.Constant (.int 1) k p1) p2)) p3) pos) ρ C Q :=
  PE.imp (pe_revL h) fun σ H R ⟨H0, at_, k⟩ => ⟨H0, at_, fun v d C1 H1 H01 pp c1 r1 ⟨ds, hl, q⟩ => by
    obtain ⟨a, vs, e1, g1, g2⟩ := lst_at c1 r1 hl
    refine ⟨a, vs, e1, g1, fun p hp => ?_⟩
    obtain ⟨p2, c2⟩ := stp_cell (o := .lst vs.reverse) (c := .lst ds.reverse) c1 hp ⟨_, upd_same, Reps.reverse g2⟩
    exact k _ (.raw (.ref p)) _ _ _ (pp.trans c1 p2) c2 rfl (q p)⟩

/-! ### methods of texts -/
/-- a method of a text, with one argument -/
theorem we_m1 {r : V → List V → Hp → VK → Prop} {m : Str} (hm : ∀ {to te : TE}, PE X o to → PE X e te → PE X (.Call (.Attribute o m apos) [e] [] pos) (tM1 r to te))
    (h : WE T o ρ C fun d1 C1 => ∃ s, d1 = .str s ∧ WE T e ρ C1 fun d2 C2 => ∀ v H H0 R, CellsR X.K H0 C2 H → Rep X.K H0 d2 v → Cont X H0 C2 H Q R → r (.str s) [v] H R) : WE T (.Call (.Attribute o m apos) [e] [] pos) ρ C Q :=
  PE.imp (hm h (pe_some T ρ e)) fun σ H R ⟨H0, at_, k⟩ => ⟨H0, at_, fun v d C1 H1 H01 p1 c1 r1 ⟨s, e1, q1⟩ => by
    subst e1; cases r1
    exact ⟨⟨s, rfl⟩, C1, _, q1, H01, at_.step p1 c1, fun v2 d2 C2 H2 H02 p2 c2 r2 q2 => q2 _ _ _ _ c2 r2 (k.after (p1.trans c1 p2) c2 fun _ _ z => z)⟩⟩
theorem strs_split {K : W.Frag} {H0 H : Hp} {C : Cells} {x : List Str} {R : VK} {Q : QE} (c : CellsR K H0 C H) (q : Q (.lst (x.map D.str)) C)
    (k : ∀ v d C' H' H0', Stp H0 C H H0' C' H' → CellsR K H0' C' H' → Rep K H0' d v → Q d C' → R v H') : rNewStrs x H R := by
  intro p hp
  obtain ⟨p2, c2⟩ := stp_new (o := .lst (x.map V.str)) c hp
  exact k _ (.lst (x.map D.str)) C _ _ p2 c2 ⟨p, _, rfl, .inl (.inl upd_same), Reps.strs x⟩ q
theorem we_split (h : WE T o ρ C fun d1 C1 => ∃ s, d1 = .str s ∧ WE T e ρ C1 fun d2 C2 => ∃ t : Str, d2 = .str t ∧ (t.length == 0) = false ∧ s.length ≤ 100000 ∧ Q (.lst ((Txt.split s t).map D.str)) C2)
    (hs : starEach [e] X.env = [(false, eval e X.env)] := by rfl) (hbase : attributeBase o "split" X.env (eval o X.env) = eval o X.env := by rfl) (hline : (apos.endLine == pos.line) = true := by rfl) : WE T (.Call (.Attribute o "split" apos) [e] [] pos) ρ C Q :=
  we_m1 (fun ho he => pe_split ho he hs hbase hline) (h.mono fun d1 C1 ⟨s, e1, w⟩ => ⟨s, e1, w.mono fun d2 C2 ⟨t, e2, ht, hs, q⟩ v H H0 R c r k => by
    subst e2; cases r
    exact ⟨s, t, rfl, rfl, ht, Nat.le_trans (show s.length + 2 ≤ 100002 by omega) (by decide), strs_split c q k⟩⟩)
theorem we_partition (h : WE T o ρ C fun d1 C1 => ∃ s, d1 = .str s ∧ WE T e ρ C1 fun d2 C2 => ∃ t : Str, d2 = .str t ∧ (t.length == 0) = false ∧ s.length ≤ 100000 ∧ Q (.tup [.str (Txt.partition s t).1, .str (Txt.partition s t).2.1, .str (Txt.partition s t).2.2]) C2)
    (hs : starEach [e] X.env = [(false, eval e X.env)] := by rfl) (hbase : attributeBase o "partition" X.env (eval o X.env) = eval o X.env := by rfl) (hline : (apos.endLine == pos.line) = true := by rfl) : WE T (.Call (.Attribute o "partition" apos) [e] [] pos) ρ C Q :=
  we_m1 (fun ho he => pe_partition ho he hs hbase hline) (h.mono fun d1 C1 ⟨s, e1, w⟩ => ⟨s, e1, w.mono fun d2 C2 ⟨t, e2, ht, hs, q⟩ v H H0 R c r k => by
    subst e2; cases r
    refine ⟨s, t, rfl, rfl, ht, Nat.le_trans hs (by decide), fun p hp => ?_⟩
    obtain ⟨p2, c2⟩ := stp_new (o := .tup [.str (Txt.partition s t).1, .str (Txt.partition s t).2.1, .str (Txt.partition s t).2.2]) c hp
    exact k _ (.tup [.str (Txt.partition s t).1, .str (Txt.partition s t).2.1, .str (Txt.partition s t).2.2]) C2 _ _ p2 c2 ⟨p, _, rfl, .inl (.inl upd_same), Reps.cons rfl (Reps.cons rfl (Reps.cons rfl Reps.nil))⟩ q⟩)
theorem we_join (h : WE T o ρ C fun d1 C1 => ∃ s, d1 = .str s ∧ WE T e ρ C1 fun d2 C2 => ∃ ys : List Str, SeqD C2 d2 (ys.map D.str) ∧ (ys.map (·.length)).sum + ys.length * s.length ≤ 100000 ∧ Q (.str (Txt.join s ys)) C2)
    (hs : starEach [e] X.env = [(false, eval e X.env)] := by rfl) (hbase : attributeBase o "join" X.env (eval o X.env) = eval o X.env := by rfl) (hline : (apos.endLine == pos.line) = true := by rfl) : WE T (.Call (.Attribute o "join" apos) [e] [] pos) ρ C Q :=
  we_m1 (fun ho he => pe_join ho he hs hbase hline) (h.mono fun d1 C1 ⟨s, e1, w⟩ => ⟨s, e1, w.mono fun d2 C2 ⟨ys, hq, hz, q⟩ v H H0 R c r k => by
    rcases hq with hq | hq
    · obtain ⟨a, vs, e2, h2, h3⟩ := lst_at c r hq
      subst e2
      rw [Reps.of_strs h3] at h2
      exact ⟨s, a, ys, rfl, rfl, .inl h2, Nat.le_trans hz (by decide), k.here (d := .str (Txt.join s ys)) c rfl q⟩
    · subst hq
      obtain ⟨a, vs, e2, h2, h3⟩ := tup_at c r
      subst e2
      rw [Reps.of_strs h3] at h2
      exact ⟨s, a, ys, rfl, rfl, .inr h2, Nat.le_trans hz (by decide), k.here (d := .str (Txt.join s ys)) c rfl q⟩⟩)
theorem we_startswith (h : WE T o ρ C fun d1 C1 => ∃ s, d1 = .str s ∧ WE T e ρ C1 fun d2 C2 => ∃ t : Str, d2 = .str t ∧ Q (.bl (Txt.startswith s t)) C2)
    (hs : starEach [e] X.env = [(false, eval e X.env)] := by rfl) (hbase : attributeBase o "startswith" X.env (eval o X.env) = eval o X.env := by rfl) (hline : (apos.endLine == pos.line) = true := by rfl) : WE T (.Call (.Attribute o "startswith" apos) [e] [] pos) ρ C Q :=
  we_m1 (fun ho he => pe_m1 PySem.F.slot_str_startswith PySem.F.type_str_startswith mt_startswith ho he hs hbase hline) (h.mono fun d1 C1 ⟨s, e1, w⟩ => ⟨s, e1, w.mono fun d2 C2 ⟨t, e2, q⟩ v H H0 R c r k => by
    subst e2; cases r
    exact ⟨s, t, rfl, rfl, k.here (d := .bl (Txt.startswith s t)) c rfl q⟩⟩)

/-! ### in, not in -/
def flatD : D → Bool
  | .non | .bl _ | .int _ | .str _ => true
  | _ => false
def toV : D → V
  | .bl b => .bl b
  | .int i => .int i
  | .str s => .str s
  | _ => .non
theorem flat_at {K : W.Frag} {H0 : Hp} {d : D} {v : V} (r : Rep K H0 d v) (h : flatD d = true) : v = toV d ∧ flatV v = true := by
  cases d <;> first | (cases r; exact ⟨rfl, rfl⟩) | cases h
theorem flats_at {K : W.Frag} {H0 : Hp} : ∀ {ds : List D} {vs : List V}, Reps K H0 ds vs → ds.all flatD = true → vs = ds.map toV ∧ vs.all flatV = true
  | [], _, r, _ => by cases r; exact ⟨rfl, rfl⟩
  | d :: ds, _, ⟨v, vs, e, r1, r2⟩, h => by
    subst e
    rw [List.all_cons, Bool.and_eq_true] at h
    obtain ⟨e1, f1⟩ := flat_at r1 h.1
    obtain ⟨e2, f2⟩ := flats_at r2 h.2
    exact ⟨by rw [e1, e2]; rfl, by rw [List.all_cons, f1, f2]; rfl⟩
def inD (d : D) (ds : List D) : Bool := inV (toV d) (ds.map toV)
theorem in_at {n : Bool} {H0 H : Hp} {x y : V} {R : VK} (c : CellsR X.K H0 C H) (r1 : Rep X.K H0 d1 x) (r2 : Rep X.K H0 d2 y) (h : SeqD C d2 ds) (f1 : flatD d1 = true) (f2 : ds.all flatD = true) (k : R (.bl (if n then !inD d1 ds else inD d1 ds)) H) : rIn X.K n x y H R := by
  obtain ⟨e1, g1⟩ := flat_at r1 f1
  rcases h with h | h
  · obtain ⟨a, vs, e2, h2, h3⟩ := lst_at c r2 h
    obtain ⟨e3, g3⟩ := flats_at h3 f2
    refine ⟨a, vs, e2, .inl h2, g1, g3, ?_⟩
    rw [e1, e3]; exact k
  · subst h
    obtain ⟨a, vs, e2, h2, h3⟩ := tup_at c r2
    obtain ⟨e3, g3⟩ := flats_at h3 f2
    refine ⟨a, vs, e2, .inr h2, g1, g3, ?_⟩
    rw [e1, e3]; exact k
theorem ow_in (h : SeqD C d2 ds) (f1 : flatD d1 = true) (f2 : ds.all flatD = true) (q : Q (.bl (inD d1 ds)) C) : OW T (compareOp .In) d1 d2 C Q :=
  ow_look (d := .bl (inD d1 ds)) op_in_seq (fun u v H H0 c r1 r2 => ⟨.bl (inD d1 ds), rfl, fun R k => in_at (n := false) c r1 r2 h f1 f2 k⟩) q
theorem ow_notIn (h : SeqD C d2 ds) (f1 : flatD d1 = true) (f2 : ds.all flatD = true) (q : Q (.bl (!inD d1 ds)) C) : OW T (compareOp .NotIn) d1 d2 C Q :=
  ow_look (d := .bl (!inD d1 ds)) op_notIn_seq (fun u v H H0 c r1 r2 => ⟨.bl (!inD d1 ds), rfl, fun R k => in_at (n := true) c r1 r2 h f1 f2 k⟩) q
theorem inD_strs {s : Str} : ∀ {xs : List Str}, inD (.str s) (xs.map D.str) = decide (s ∈ xs)
  | [] => by simp [inD, inV]
  | x :: xs => by
    have ih := inD_strs (s := s) (xs := xs)
    unfold inD inV at ih ⊢
    rw [List.map_cons, List.map_cons, List.any_cons, ih]
    have : eqV (toV (.str x)) (toV (.str s)) = (x == s) := rfl
    rw [this]
    by_cases h : x = s
    · simp [h]
    · simp [h, Ne.symm h]
/-- one sign in a text -/
theorem ow_inSign {n : Nat} {z : Str} (q : Q (.bl (decide (n ∈ z.cps.toList))) C) : OW T (compareOp .In) (.str ⟨#[n]⟩) (.str z) C Q :=
  ow_look (d := .bl (decide (n ∈ z.cps.toList))) op_in_sign (fun u v H H0 c r1 r2 => by cases r1; cases r2; exact ⟨.bl (decide (n ∈ z.cps.toList)), rfl, fun R k => ⟨n, z, rfl, rfl, k⟩⟩) q

/-! ### repr of data -/
theorem call_reprD (hg : X.A.guards = some []) : CallR X (.builtin "repr") (fun xs H Q => ∃ v p, xs = [v] ∧ Dp X.K H v p ∧ isDisplay p = true ∧ p.showable = true ∧ p.hasDict = false ∧ X.A.units + (p.depth + 1) < cLine ∧ p.shown.length ≤ sizeLine ∧ Q (.str p.shown) H) := by
  intro pins s σ H xs us Q I r h
  obtain ⟨v, p, rfl, dp, hd, hs, hnd, hu, hz, q⟩ := h
  obtain ⟨u, rfl, ru⟩ := r.one
  obtain ⟨as, rd⟩ := Dp.reads I p v u dp ru
  obtain ⟨a, rfl⟩ := isRef_of_reads rd hd
  exact repr_of_reads' rd hs (PyData.noDict_hsm hnd) hg hu (fun _ _ e => e) (fun h' u tk hk => ⟨.str p.shown, H, I.kept hk, ⟨_, rfl⟩, q⟩) hz
theorem cw_repr {p : PyData} (hg : X.A.guards = some []) (hp : PyR C d p) (hd : isDisplay p = true) (hs : p.showable = true) (hnd : p.hasDict = false) (hu : X.A.units + (p.depth + 1) < cLine) (hz : p.shown.length ≤ 100000) (q : Q (.str p.shown) C) : CW T (.builtin "repr") [d] C Q :=
  cw_look (d := .str p.shown) (call_reprD hg) (fun xs H H0 c r => by
    obtain ⟨v, e1, r1⟩ := r.one
    subst e1
    exact ⟨.str p.shown, rfl, fun R k => ⟨v, p, rfl, pyR_dp c r1 hp, hd, hs, hnd, hu, Nat.le_trans hz (by decide), k⟩⟩) q
end
end Tr

set_option maxHeartbeats 2000000
namespace Tr
open PySem L2 PySem.Spec PyProof.Rows

/-! ### a law's own end -/
/-- what a law promises: True of every script -/
def lawFS : FS := fun ds C Q _ => ∃ ns : List Int, ds = [.lst (ns.map .int)] ∧ ns.length ≤ 63 ∧ C = [] ∧ ∀ C', Q (.bl true) C'
theorem cells_nil (K : W.Frag) (H : Hp) : CellsR K H [] H := ⟨Same.refl _, fun a ⟨_, h⟩ => (by cases h), fun a c h => (by cases h), List.nodup_nil⟩
theorem law_sp {K : W.Frag} {H : Hp} {a : Addr} {ns : List Int} (hl : ns.length ≤ 63) (hs : SqL K H a (ns.map V.int)) : spT K lawFS [.ref a] H (fun v _ => v = .bl true) fun _ _ _ => False :=
  ⟨H, [.lst (ns.map .int)], [], fun d _ => d = .bl true, fun _ _ _ => False, cells_nil K H, Reps.cons ⟨a, _, rfl, hs, Reps.ints ns⟩ Reps.nil, ⟨ns, rfl, hl, rfl, fun _ => rfl⟩,
    fun v d C' H' H0' _ _ r e => (by subst e; exact r), fun _ _ _ _ _ _ _ _ _ q => q⟩
section
variable {P : Program} {w : World} {K : W.Frag} {mg mb : Str → Option Value} {k : Nat} {fa a : Addr} {fd : FuncData} {x : Str} {s₁ : Shared} {vs : List Value} {ns : List Int}
/-- from a heap of which at most the script is tracked -/
theorem law_from (H : Hp) (hO : Only H) (hS : SqL K H a (ns.map V.int)) (hok : HOk P w H s₁.heap) (hA : ∀ b, H b ≠ none → b = a) (hK : H a ≠ none → K.lookup a = none)
    (KX : K.In s₁.heap) (hns : s₁.heap.Ns mainGlobals mg) (hb : s₁.heap.Ns builtinsNs mb) (hbb : ∀ x : Str, x ≠ "__name__" → mb x = bootBuiltins x) (hlim : s₁.heap.NoLimit) (hg : s₁.gens = #[])
    (ha : s₁.heap.get? a = some { cls := .type "list", data := .seq vs.toArray }) (hl : ns.length ≤ 63) (hr : RoomG k callerA)
    (F : ∀ base : Heap, K.In base → base.Ns mainGlobals mg → FnG P w K mg base k fa fd [x] lawFS) (hbind : ∀ (s : Shared) (u : Value), BindsTo s fd ⟨[u], []⟩ [(x, u)]) :
    codeAny (model P w) callerA (.call (.ref fa) ⟨[.ref a], []⟩) (fun r s' => r = .ok (.ret (.bool true)) ∧ OldK s₁.heap s'.heap ∧ s'.os = s₁.os ∧ AllBare s'.gens) s₁ := by
  have only : ∀ {b : Addr}, b ≠ a → H b = none := fun {b} ne => Classical.byContradiction fun h => ne (hA b h)
  have dicts : ∀ {b : Addr} {o : Obj} {es : Array DictEntry} {ep : Nat}, s₁.heap.get? b = some o → o.data = .dict es ep → (hidT s₁.heap H).get? b = some o := fun {b o es ep} e d => hidT_get e (by
    refine only fun eq => ?_
    subst eq
    rw [ha] at e; cases e; cases d)
  have names : ∀ {b : Addr} {m : Str → Option Value}, s₁.heap.Ns b m → (hidT s₁.heap H).Ns b m := fun {b m} ⟨o, es, ep, e, d, r⟩ => ⟨o, es, ep, dicts e d, d, r⟩
  have kin : K.In (hidT s₁.heap H) := fun b o e => hidT_get (KX b o e) (by
    by_cases eq : b = a
    · subst eq
      exact Classical.byContradiction fun h => by rw [hK h] at e; cases e
    · exact only eq)
  have lim : (hidT s₁.heap H).NoLimit := let ⟨mc, h1, h2⟩ := hlim; ⟨mc, names h1, h2⟩
  have e0 : Env0 P w K mg (hidT s₁.heap H) callerA [] s₁ H := ⟨rfl, ⟨kin, names hns, ⟨mb, names hb, hbb⟩, lim⟩, fun b o e => of_hidT e, Nat.le_of_eq (hidT_size _ _), trivial, fun b hb => absurd (show b ∈ ([] : List Addr) from hb) (by simp), hok, .of_eq hg⟩
  have went := (F _ kin (names hns)).run callerA [] s₁ H ⟨[.ref a], []⟩ [.ref a] [.ref a] _ _ hr e0 (hbind s₁ (.ref a)) (.cons rfl .nil) (law_sp hl hS)
  refine codeAny_mono went ?_
  rintro (e | (_ | _ | _ | u)) s' h
  · obtain ⟨_, _, _, _, _, _, _, _, _, _, _, _, z⟩ := h
    exact z.elim
  · exact False.elim h
  · exact False.elim h
  · exact False.elim h
  · obtain ⟨v, H', os, bare, un, hok', r', q⟩ := h
    subst q
    obtain rfl : u = Value.bool true := r'
    refine ⟨rfl, OldK.of_keep fun b o e => ?_, os, bare⟩
    rcases hO b with z | ⟨ob, xs, z⟩
    · exact un.keep b o e z (by intro z; exact absurd (show b ∈ ([] : List Addr) from z) (by simp)) (by simp)
    · obtain ⟨e1, _⟩ := hok b _ z
      obtain ⟨e2, _⟩ := hok' b _ (un.frzs b ob _ z)
      rw [e] at e1; cases e1
      exact e2
theorem law_goes (KX : K.In s₁.heap) (hns : s₁.heap.Ns mainGlobals mg) (hb : s₁.heap.Ns builtinsNs mb) (hbb : ∀ x : Str, x ≠ "__name__" → mb x = bootBuiltins x) (hlim : s₁.heap.NoLimit) (hg : s₁.gens = #[])
    (ha : s₁.heap.get? a = some { cls := .type "list", data := .seq vs.toArray }) (hi : IntsAre vs ns) (hl : ns.length ≤ 63) (hr : RoomG k callerA)
    (F : ∀ base : Heap, K.In base → base.Ns mainGlobals mg → FnG P w K mg base k fa fd [x] lawFS) (hbind : ∀ (s : Shared) (u : Value), BindsTo s fd ⟨[u], []⟩ [(x, u)]) :
    codeAny (model P w) callerA (.call (.ref fa) ⟨[.ref a], []⟩) (fun r s' => r = .ok (.ret (.bool true)) ∧ OldK s₁.heap s'.heap ∧ s'.os = s₁.os ∧ AllBare s'.gens) s₁ := by
  have rv := vals_ints hi
  have hsz : ns.length ≤ sizeLine := Nat.le_trans hl (by decide)
  cases hk : K.lookup a with
  | some o =>
    have e := KX a o hk
    rw [ha] at e; cases e
    exact law_from (fun _ => none) (fun _ => .inl rfl) (.inr ⟨_, vs.toArray, _, hk, rfl, rfl, rfl, by rw [List.size_toArray, hi.length]; exact hsz, by simpa using rv⟩) (fun b u z => by cases z) (fun b z => absurd rfl z) (fun z => absurd rfl z) KX hns hb hbb hlim hg ha hl hr F hbind
  | none =>
    have at_a : ∀ b u, (if b = a then some (HO.frz { cls := .type "list", data := .seq vs.toArray } (.lst (ns.map V.int))) else none) = some u → b = a ∧ u = HO.frz { cls := .type "list", data := .seq vs.toArray } (.lst (ns.map V.int)) := fun b u z => by
      split at z
      · rename_i e; exact ⟨e, (Option.some.inj z).symm⟩
      · cases z
    refine law_from (fun b => if b = a then some (.frz { cls := .type "list", data := .seq vs.toArray } (.lst (ns.map V.int))) else none) (fun b => ?_) (.inl (.inr ⟨{ cls := .type "list", data := .seq vs.toArray }, if_pos rfl⟩)) (fun b u z => ?_) (fun b z => ?_) (fun _ => hk) KX hns hb hbb hlim hg ha hl hr F hbind
    · by_cases e : b = a
      · exact .inr ⟨_, _, if_pos e⟩
      · exact .inl (if_neg e)
    · obtain ⟨e1, e2⟩ := at_a b u z
      subst e1; subst e2
      exact ⟨ha, by rw [List.length_map]; exact hsz, vs, _, rv, ha⟩
    · by_cases e : b = a
      · exact e
      · exact absurd (if_neg e) z
end
theorem law_walk {l : W.OpenLaw} {k : Nat} {q : Program} {loose : List Str} {XP : (Str → Option Value) → Heap → Prop} {YP : World → Heap → Prop} {d : DefRec} {K : Params → W.Frag} {x : Str}
    (hn : l.most = some 63) (hdf : d.params.defaults = []) (hr : RoomG k callerA) (hY : ∀ (w : World) (h : Heap), YP w h → (K w.params).In h)
    (F : ∀ (w : World) (mg : Str → Option Value) (fa : Addr) (h : Heap), (K w.params).In h → h.Ns mainGlobals mg → mg d.name = some (.ref fa) →
      ∃ fd : FuncData, (∀ (s : Shared) (u : Value), BindsTo s fd ⟨[u], []⟩ [(x, u)]) ∧ ∀ base : Heap, (K w.params).In base → base.Ns mainGlobals mg → FnG l.prog w (K w.params) mg base k fa fd [x] lawFS) :
    W.WalkO q loose XP YP l.row.toRowW d [] (fun f vs => PySem.call f vs) := by
  refine Att.attach_call hn hdf fun w s₀ s₁ mg mb fa o pm cd doc a vs ns G Y ho hd hcd hmg hobj hints hlen hg => ?_
  have KX := hY w _ Y
  obtain ⟨fd, hb, hF⟩ := F w mg fa _ KX G.T.g hmg
  exact law_goes KX G.T.g G.T.b G.T.builtins G.T.nolimit hg hobj hints hlen hr hF hb
end Tr

set_option maxHeartbeats 2000000
namespace Tr
open PySem L2 PySem.Spec PyProof.Rows

/-! ### enumerate over a tuple -/
section
open AutoSeq1 (wpAny_loadPart')
theorem meets_enumT (l : Addr) (items : Array Value) (n : Nat) (dct : Option Addr) (sl : Array (Option Value)) :
    Meets (Builtin.«enumerate.__new__» ⟨[.type "enumerate", .ref l], []⟩) (fun _ R s => s.heap.get? l = some { cls := .type "tuple", dict := dct, data := .seq items n, slots := sl } ∧
      R (.ok (.ret (.ref (s.heap.push { cls := .type "tuple_iterator", data := .fields #[.ref l, .int 0 0] }).objs.size)))
        { s with heap := (s.heap.push { cls := .type "tuple_iterator", data := .fields #[.ref l, .int 0 0] }).push { cls := .type "enumerate", data := .fields #[.none, .bool false, .ref s.heap.objs.size, rawInt 0, .none, .none] } }) :=
  .of_wp fun prog w A R s h => by
    obtain ⟨hp, g, d, tk, os⟩ := s
    obtain ⟨hl, h⟩ := h
    have hsub := sub_enumerate
    have hL : Heap.IsTuple (Shared.heap ⟨hp, g, d, tk, os⟩) l items := ⟨_, hl, rfl, n, rfl⟩
    wp_walk using wpAny_loadPart' hl
    refine wpAny_stack_any fun st => wpAny_pure ?_
    split
    · rename_i c _ _ _ _ _
      cases (c == Value.type "enumerate")
      · wp_walk using wpAny_loadPart' hl, wpAny_pyIter_tuple hL
        exact ⟨_, rfl, h⟩
      · wp_walk using wpAny_loadPart' hl, wpAny_pyIter_tuple hL
        exact ⟨_, rfl, h⟩
    · wp_walk using wpAny_loadPart' hl, wpAny_pyIter_tuple hL
      exact ⟨_, rfl, h⟩
end
theorem call_enumT {prog : Program} {w : World} {A : Around} {E : Value → Shared → Prop} {s : Shared} {l : Addr} {items : Array Value} {Q : Value → Shared → Prop} (hL : IsTup s.heap l items)
    (h : ∀ h', IsEnum h' (s.heap.objs.size + 1) s.heap.objs.size 0 .none → h'.IsTupleIter s.heap.objs.size l 0 → (∀ b o, s.heap.get? b = some o → h'.get? b = some o) → Q (.ref (s.heap.objs.size + 1)) { s with heap := h' }) :
    wpAny (model prog w) A (call (.type "enumerate") [.ref l]) Q E s := by
  obtain ⟨⟨c, dct, dt, sl⟩, hl, hc, n, hd⟩ := hL
  simp only at hc hd
  subst hc hd
  refine callType_new F.called_enumerate (by decide) (F.typeCall_enumerate_1 _) (F.newCall_enumerate_1 _) (fun obj => F.args_object_init_2 obj _) F.entry_enumerate_new (meets_enumT l items n dct sl) ⟨hl, ?_⟩
  have hz : (s.heap.push { cls := .type "tuple_iterator", data := .fields #[.ref l, .int 0 0] }).objs.size = s.heap.objs.size + 1 := Heap.size_push ..
  show _ ∧ _
  rw [hz]
  have he := Heap.get?_push_size (s.heap.push { cls := .type "tuple_iterator", data := .fields #[.ref l, .int 0 0] }) (o := { cls := .type "enumerate", data := .fields #[.none, .bool false, .ref s.heap.objs.size, rawInt 0, .none, .none] }) rfl
  rw [hz] at he
  exact ⟨⟨_, he, rfl⟩, h _ he ⟨_, Heap.get?_push_of_some _ (Heap.get?_push_size _ rfl), rfl, rfl⟩ fun b o x => Heap.get?_push_of_some _ (Heap.get?_push_of_some _ x)⟩
/-- the tuple at a, each item in a new pair -/
def IteT (K : W.Frag) (a : Addr) : It :=
  ⟨fun i H => ∃ (xs : List V) (x : V), SqT K H a xs ∧ xs[i]? = some x, fun i H v H' => ∃ T x, v = .ref T ∧ H T = none ∧ H' = upd H T (.tup [.int (i : Nat), x]) ∧ ∀ xs, SqT K H a xs → xs[i]? = some x, fun i H => ∃ xs : List V, SqT K H a xs ∧ xs.length ≤ i⟩
theorem turn_enumT {P : Program} {w : World} {K : W.Frag} {elts : List Expr} {kk : Nat} {tpos : Pos} (a e it : Addr) :
    Turn P w K (.Tuple elts kk tpos) (IteT K a) [e, it] e (fun i h => (∃ old, IsEnum h e it ((i : Nat) : Int) old) ∧ h.IsTupleIter it a i ∧ e ≠ it) where
  mem := by simp
  obj := fun i h st b hb => by
    obtain ⟨⟨old, he⟩, ⟨o, ho, hc, hd⟩, _⟩ := st
    rcases (show b = e ∨ b = it by simpa using hb) with z | z
    · rw [z]; exact ⟨_, he, fun v q => nomatch q⟩
    · rw [z]; exact ⟨o, ho, fun v q => by rw [hd] at q; cases q⟩
  keep := fun i h h' st k => let ⟨⟨old, he⟩, hi, hne⟩ := st; ⟨⟨old, k e (by simp) _ he⟩, hi.at fun o q => k it (by simp) o q, hne⟩
  item := by
    intro X hP hw hK hc i pins s σ H E I hf st ⟨xs, x, hq, hx⟩
    subst hP hw hK
    obtain ⟨⟨old, he⟩, hit, hne⟩ := st
    obtain ⟨its, rv, p, hz⟩ := I.tuple hq
    obtain ⟨u, hu, ru⟩ := rv.get hx
    have hel : e < s.heap.objs.size := Heap.lt_size he
    have hil : it < s.heap.objs.size := by obtain ⟨_, q, _⟩ := hit; exact Heap.lt_size q
    have hat : a ≠ it := fun z => by
      obtain ⟨o1, q1, c1, _⟩ := hit
      obtain ⟨o2, q2, c2, _⟩ := p
      rw [z] at q2
      rw [q1] at q2; cases q2
      rw [c1] at c2; injection c2 with z; exact absurd z (by decide)
    have hea : e ≠ a := fun z => by
      obtain ⟨o2, q2, c2, _⟩ := p
      rw [← z, show s.heap.get? e = _ from he] at q2; cases q2
      injection c2 with z; exact absurd z (by decide)
    have hxl : i < its.toArray.size := by
      have := (List.getElem?_eq_some_iff.mp hu).1
      simpa using this
    refine wpAny_pyNext_enum_itemD (Draws.tuple (A := X.A.in1) (show X.A.in1.handled = none from I.ok.hd hc) it a hat its.toArray) he ⟨hit, p⟩ hxl hne (by simp [hne, hea]) fun y h' tk hy ho st' hT hsz hk => ?_
    have ey : y = u := by
      have h1 : its.toArray[i]? = some y := hy
      have h2 : its.toArray[i]? = some u := by simpa using hu
      rw [h1] at h2; exact Option.some.inj h2
    subst ey
    obtain ⟨hit', _⟩ := st'
    refine ⟨_, rfl, wpAny_letOwnedTupleGo_enum (s := { s with heap := h', toks := tk + 1 }) ho fun h'' he' sb => ?_⟩
    have hT2 : h''.get? s.heap.objs.size = some { cls := .type "tuple", data := .seq #[.int i tk, y] } := (sb.2 _ (Nat.ne_of_gt hel)).trans hT
    have new : ObjOk X.prog X.w (upd H s.heap.objs.size (.tup [.int (i : Nat), x])) h'' s.heap.objs.size (.tup [.int (i : Nat), x]) :=
      ⟨by show 2 ≤ sizeLine; decide, [.int i tk, y], .cons ⟨_, rfl⟩ (.cons ru .nil), ⟨_, hT2, rfl, _, rfl⟩⟩
    have I1 : Inv X pins σ (upd H s.heap.objs.size (.tup [.int (i : Nat), x])) { s with heap := h'', toks := tk + 1 } :=
      I.turnedNew (ch := [e, it]) (fun b ob hb q => (sb.2 b (fun z => hb (by simp [z]))).trans (hk b ob (fun z => hb (by simp [z])) (fun z => hb (by simp [z])) q)) hf (Nat.le_refl _) new
    refine ⟨.ref s.heap.objs.size, _, I1, rfl, ⟨_, x, rfl, I.hok.fresh (Nat.le_refl _), rfl, fun ys hy => by rw [I.tuple_inj hy hq]; exact hx⟩, ⟨⟨y, ?_⟩, hit'.at fun o q => (sb.2 it (Ne.symm hne)).trans q, hne⟩, fun b hb => ?_⟩
    · rw [show ((i + 1 : Nat) : Int) = (i : Int) + 1 by omega]; exact he'
    · have hb' : b < s.heap.objs.size := by
        rcases (show b = e ∨ b = it by simpa using hb) with z | z
        · rw [z]; exact hel
        · rw [z]; exact hil
      rw [upd_ne (Nat.ne_of_lt hb')]
      exact (hf b hb).1
  done := by
    intro X hP hw hK hc i pins s σ H E I hf st ⟨xs, hq, hx⟩
    subst hP hw hK
    obtain ⟨⟨old, he⟩, hit, hne⟩ := st
    obtain ⟨its, rv, p, hz⟩ := I.tuple hq
    obtain ⟨f0, f1, f2, f3, f4, f5⟩ := hf it (by simp)
    have hl := rv.length
    have hT : s.TypeIs (.ref e) "enumerate" := ⟨_, he, rfl⟩
    unfold pyNext
    refine wpAny_bind (wpAny_attempt (wpAny_callSpecial?_slot (name := Str.ofString "__next__") hT PySem.F.slot_enumerate_next
      (wpAny_call_entry PySem.F.slot_enumerate_next hT PySem.F.entry_enumerate_next ?_ (PySem.F.args_enumerate_next_1 _))))
    show wpAny _ _ (field (.ref e) 2 >>= _) _ _ _
    refine wpAny_bind (wpAny_field he rfl (x := .ref it) rfl ?_)
    refine wpAny_bind (wpAny_nextOf_tuple_end (show X.A.in1.handled = none from I.ok.hd hc) hit p (by simp; omega) fun h' x he' hx' => ?_)
    obtain ⟨o, ho, hc'⟩ := hx'
    refine wpAny_bind (wpAny_isInstance (T := "StopIteration") (b := true) ⟨o, ho, hc'⟩ isSubtype_stop ?_)
    exact wpAny_pure ⟨rfl, I.turned (t' := s.toks) (fun b o hb q => he' b o hb q) f0 f1 f3 f4 f5⟩
  self := fun A i s Q E st h => let ⟨⟨_, he⟩, _⟩ := st; wpAny_pyIter_enum he h
section
variable {X : Cx} {T : TX X} {ρ : Rho} {C : Cells} {Q : QE} {e a b c o : Expr} {pos p apos cpos tpos : Pos} {es elts : List Expr} {d d1 d2 : D} {ds ds2 : List D} {kk : Nat}
theorem pi_enumT {ta : TA} (hg : Gl X "enumerate") (hm : X.mg "enumerate" = none) (ha : PA X [e] ta) (hs : starEach [e] X.env = [(false, eval e X.env)] := by rfl) :
    PI X (.Tuple elts kk tpos) (.Call (.Name "enumerate" p) [e] [] pos) (fun σ H R => ta σ H fun vs H1 => ∃ a xs, vs = [.ref a] ∧ ((SqL X.K H1 a xs ∧ R (Ite X.K a) H1) ∨ (SqT X.K H1 a xs ∧ R (IteT X.K a) H1))) := by
  refine ⟨fun pins s σ H R I h => ?_⟩
  refine Call_ (ld_blt I hg hm boot_enumerate (callWith_type1 (thn (ha.run pos pins s σ H _ I h) fun us s1 ⟨vs, H1, I1, r1, a, xs, ex, q1⟩ => ?_) hs rfl))
  subst ex
  obtain ⟨u, rfl, r⟩ := r1.one
  cases (show u = Value.ref a from r)
  have fpk : ∀ b ∈ [s1.heap.objs.size + 1, s1.heap.objs.size], FpOk X pins H1 b := fun b hb => by
    have hle : s1.heap.objs.size ≤ b := by
      rcases (show b = s1.heap.objs.size + 1 ∨ b = s1.heap.objs.size by simpa using hb) with z | z
      · rw [z]; exact Nat.le_add_right _ _
      · rw [z]; exact Nat.le_refl _
    exact I1.fpOk hle (I1.hok.fresh hle)
  rcases q1 with ⟨hq, q⟩ | ⟨hq, q⟩
  · obtain ⟨its, rv, p', hz⟩ := I1.list hq
    refine call_enumerate_list p'.isList fun h' he hit hsz hk => wpAny_pyIter_enum he ?_
    exact ⟨s1.heap.objs.size + 1, [s1.heap.objs.size + 1, s1.heap.objs.size], _, _, H1, rfl, I1.kept (t' := s1.toks) hk, turn_enum a (s1.heap.objs.size + 1) s1.heap.objs.size, ⟨⟨.none, he⟩, hit, Nat.succ_ne_self _⟩, fpk, q⟩
  · obtain ⟨its, rv, p', hz⟩ := I1.tuple hq
    refine call_enumT p' fun h' he hit hk => wpAny_pyIter_enum he ?_
    exact ⟨s1.heap.objs.size + 1, [s1.heap.objs.size + 1, s1.heap.objs.size], _, _, H1, rfl, I1.kept (t' := s1.toks) hk, turn_enumT a (s1.heap.objs.size + 1) s1.heap.objs.size, ⟨⟨.none, he⟩, hit, Nat.succ_ne_self _⟩, fpk, q⟩
def enumD : Nat → List D → List D
  | _, [] => []
  | n, d :: ds => .tup [.int n, d] :: enumD (n + 1) ds
theorem enumD_len : ∀ (ds : List D) (n : Nat), (enumD n ds).length = ds.length
  | [], _ => rfl
  | _ :: ds, n => by simp [enumD, enumD_len ds]
theorem enumD_get : ∀ {ds : List D} {n i : Nat} {d : D}, (enumD n ds)[i]? = some d → ∃ y, ds[i]? = some y ∧ d = .tup [.int ((n + i : Nat) : Int), y]
  | [], _, _, _, h => by simp [enumD] at h
  | x :: ds, n, 0, d, h => by simp [enumD] at h; exact ⟨x, rfl, h.symm⟩
  | x :: ds, n, i + 1, d, h => by
    obtain ⟨y, h1, h2⟩ := enumD_get (ds := ds) (n := n + 1) (i := i) (d := d) (by simpa [enumD] using h)
    exact ⟨y, by simpa using h1, by rw [h2]; congr 3; omega⟩
/-- a pair that was just laid -/
theorem pair_rep {K : W.Frag} {H0 H : Hp} {C : Cells} {Tp : Addr} {i : Nat} {x : V} {y : D} (c : CellsR K H0 C H) (n : H Tp = none) (r : Rep K H0 y x) :
    ∃ H0', Stp H0 C H H0' C (upd H Tp (.tup [.int (i : Nat), x])) ∧ CellsR K H0' C (upd H Tp (.tup [.int (i : Nat), x])) ∧ Rep K H0' (.tup [.int (i : Nat), y]) (.ref Tp) := by
  obtain ⟨p2, c2⟩ := stp_new (o := .tup [.int (i : Nat), x]) c n
  exact ⟨_, p2, c2, Tp, _, rfl, .inl (.inl upd_same), Reps.cons rfl (Reps.cons (r.mono p2.base) Reps.nil)⟩
theorem yields_enumT {K : W.Frag} {H0 : Hp} {a : Addr} {vs : List V} (hs : SqT K H0 a vs) (r : Reps K H0 ds vs) : Yields K (IteT K a) H0 (fun _ => True) (enumD 0 ds) where
  go := fun i H0' C H e c _ hi => ⟨vs, vs[i]'(by rw [← r.length, ← enumD_len ds 0]; exact hi), Same.sqT (e.trans c.same) hs, by simp⟩
  stop := fun i H0' C H e c _ hi => ⟨vs, Same.sqT (e.trans c.same) hs, by rw [← r.length, ← enumD_len ds 0]; exact hi⟩
  yld := fun i H0' C H x H' d e c _ hd ⟨Tp, z, e1, n, e2, q⟩ => by
    subst e1; subst e2
    obtain ⟨y, g1, g2⟩ := enumD_get hd
    obtain ⟨v, f1, f2⟩ := r.get g1
    have := q vs (Same.sqT (e.trans c.same) hs)
    rw [f1] at this; cases this
    subst g2
    rw [Nat.zero_add]
    exact pair_rep c n (f2.mono e)
theorem yields_enumL {K : W.Frag} {H0 : Hp} {a : Addr} {vs : List V} (hs : SqL K H0 a vs) (r : Reps K H0 ds vs) : Yields K (Ite K a) H0 (fun _ => True) (enumD 0 ds) where
  go := fun i H0' C H e c _ hi => ⟨vs, vs[i]'(by rw [← r.length, ← enumD_len ds 0]; exact hi), Same.sqL (e.trans c.same) hs, by simp⟩
  stop := fun i H0' C H e c _ hi => ⟨vs, Same.sqL (e.trans c.same) hs, by rw [← r.length, ← enumD_len ds 0]; exact hi⟩
  yld := fun i H0' C H x H' d e c _ hd ⟨Tp, z, e1, n, e2, q⟩ => by
    subst e1; subst e2
    obtain ⟨y, g1, g2⟩ := enumD_get hd
    obtain ⟨v, f1, f2⟩ := r.get g1
    have := q vs (Same.sqL (e.trans c.same) hs)
    rw [f1] at this; cases this
    subst g2
    rw [Nat.zero_add]
    exact pair_rep c n (f2.mono e)
theorem yields_enumC {K : W.Frag} {H0 : Hp} {a : Addr} : Yields K (Ite K a) H0 (fun C => (a, Cell.lst ds) ∈ C) (enumD 0 ds) where
  go := fun i H0' C H e c hm hi => by
    obtain ⟨vs, h1, h2⟩ := c.ok a _ hm
    exact ⟨vs, vs[i]'(by rw [← h2.length, ← enumD_len ds 0]; exact hi), .inl (.inl h1), by simp⟩
  stop := fun i H0' C H e c hm hi => by
    obtain ⟨vs, h1, h2⟩ := c.ok a _ hm
    exact ⟨vs, .inl (.inl h1), by rw [← h2.length, ← enumD_len ds 0]; exact hi⟩
  yld := fun i H0' C H x H' d e c hm hd ⟨Tp, z, e1, n, e2, q⟩ => by
    subst e1; subst e2
    obtain ⟨vs, h1, h2⟩ := c.ok a _ hm
    obtain ⟨y, g1, g2⟩ := enumD_get hd
    obtain ⟨v, f1, f2⟩ := h2.get g1
    have := q vs (.inl (.inl h1))
    rw [f1] at this; cases this
    subst g2
    rw [Nat.zero_add]
    exact pair_rep c n f2
/-- enumerate(x): a list or tuple that stands still, or a list that is a cell and doesn't change meanwhile -/
theorem wi_enum {Q : QI} (hg : Gl X "enumerate") (hm : X.mg "enumerate" = none)
    (h : WE T e ρ C fun d C1 => ∃ ds, ((d = .lst ds ∨ d = .tup ds) ∧ Q (enumD 0 ds) (fun _ => True) C1) ∨ (∃ z, d = .raw (.ref z) ∧ (z, Cell.lst ds) ∈ C1 ∧ Q (enumD 0 ds) (fun C => (z, Cell.lst ds) ∈ C) C1))
    (hs : starEach [e] X.env = [(false, eval e X.env)] := by rfl) (hs2 : starEach [e] X.env = (false, eval e X.env) :: starEach [] X.env := by rfl) : WI T (.Tuple elts kk tpos) (.Call (.Name "enumerate" p) [e] [] pos) ρ C Q := by
  refine PI.imp (pi_enumT hg hm (pa_cons h pa_nil hs2) hs) fun σ H R ⟨H0, at_, k⟩ => ⟨H0, at_, fun v d C1 H1 H01 p1 c1 r1 ⟨ds, q1⟩ => ?_⟩
  rcases q1 with ⟨h1, q⟩ | ⟨z, e1, hz, q⟩
  · rcases h1 with h1 | h1
    · subst h1
      obtain ⟨a, vs, e2, g1, g2⟩ := r1
      subst e2
      exact ⟨a, vs, rfl, .inl ⟨Same.sqL c1.same g1, k _ _ _ C1 H1 H01 p1 c1 (yields_enumL g1 g2) q⟩⟩
    · subst h1
      obtain ⟨a, vs, e2, g1, g2⟩ := r1
      subst e2
      exact ⟨a, vs, rfl, .inr ⟨Same.sqT c1.same g1, k _ _ _ C1 H1 H01 p1 c1 (yields_enumT g1 g2) q⟩⟩
  · subst e1
    obtain rfl : v = .ref z := r1
    obtain ⟨vs, g1, g2⟩ := c1.ok z _ hz
    exact ⟨z, vs, rfl, .inl ⟨.inl (.inl g1), k _ _ _ C1 H1 H01 p1 c1 yields_enumC q⟩⟩
end
end Tr

set_option maxHeartbeats 2000000
namespace Tr
open PySem L2 PySem.Spec PyProof.Rows

/-! ### facts of the top -/
section
variable {K : W.Frag} {x qual : Str} {args : Arguments} {body : List Stmt} {scope : Scope} {f T : Addr} {oc kV doc pm cdv ct oT : Value} {od an dT : Option Addr} {osl sT : Array (Option Value)} {its : List Value} {n : Nat} {dvs : List V} {fd : FuncData} {ps : List Str}
theorem funD0 (l : K.lookup f = some ⟨oc, od, .func (W.fnOf x qual args body scope .none kV doc pm an cdv ct), osl⟩) (c : W.codeIn K cdv qual = true) (k : W.keepIn K (.ref f) = true) :
    FunD K x qual args body scope [] [] f (W.fnOf x qual args body scope .none kV doc pm an cdv ct) := ⟨⟨oc, od, .none, kV, doc, pm, an, cdv, ct, osl, rfl, l, c, .inl ⟨rfl, rfl⟩, .inl rfl⟩, k⟩
theorem funD1 (l : K.lookup f = some ⟨oc, od, .func (W.fnOf x qual args body scope (.ref T) kV doc pm an cdv ct), osl⟩) (c : W.codeIn K cdv qual = true) (k : W.keepIn K (.ref f) = true)
    (lT : K.lookup T = some ⟨oT, dT, .seq its.toArray n, sT⟩) (hv : Vals dvs its) (hd : dvs ≠ []) :
    FunD K x qual args body scope dvs [] f (W.fnOf x qual args body scope (.ref T) kV doc pm an cdv ct) := ⟨⟨oc, od, .ref T, kV, doc, pm, an, cdv, ct, osl, rfl, l, c, .inr ⟨hd, T, _, its, n, rfl, lT, rfl, hv⟩, .inl rfl⟩, k⟩
theorem binds_all (F : FunD K x qual args body scope dvs [] f fd) (n : Nat) (hn : n = ps.length) (hd : dvs ≠ [])
    (h : ∀ (T : Addr) (kV doc pm : Value) (an : Option Addr) (cdv ct : Value) (us its : List Value), us.length = n → its.length = dvs.length →
      ∃ k, bindArgs (W.fnOf x qual args body scope (.ref T) kV doc pm an cdv ct) ⟨us, []⟩ = seqItems? (.ref T) >>= k ∧ k (some its.toArray) = pure (ps.zip us)) : Binds K fd ps [] := by
  obtain ⟨ds, h1, h2⟩ := F.binds1 (ps := ps) n dvs.length hd (by omega) fun T kV doc pm an cdv ct us its hu hi => by
    obtain ⟨k, e1, e2⟩ := h T kV doc pm an cdv ct us its hu hi
    exact ⟨k, e1, by rw [e2, List.drop_of_length_le (by omega), List.append_nil]⟩
  rw [List.drop_length] at h1
  cases h1
  exact h2
theorem kit_ref {C : Addr} {t : Value} {b : Bool} {cd : ClassData} (cl : W.clsIn K C = some cd) (ty : W.typeIn K (.ref C) = some (.type "type")) (ss : W.subIn K t (.ref C) = some b) (ne : (t == .ref C) = false) : W.kitOne K t (.ref C) = some b := by
  unfold W.kitOne
  rw [ne]
  simp only [Bool.false_eq_true, if_false]
  unfold W.kitCls
  simp only [cl, ty, ss]
  rfl
theorem kit_self {C : Addr} : W.kitOne K (.ref C) (.ref C) = some true := by
  unfold W.kitOne
  simp
/-- a tuple among the module's objects -/
theorem rep_ktup {H : Hp} {a : Addr} {vs : List V} {ds : List D} (l : K.lookup a = some ⟨.type "tuple", od, .seq its.toArray n, osl⟩) (hz : its.length ≤ 100000) (hv : Vals vs its) (r : Reps K H ds vs) : Rep K H (.tup ds) (.ref a) :=
  ⟨a, vs, rfl, .inr ⟨_, _, n, l, rfl, rfl, Nat.le_trans (by simpa using hz) (show 100000 ≤ sizeLine by decide), by simpa using hv⟩, r⟩
end
end Tr

set_option maxHeartbeats 2000000
namespace Tr
open PySem L2 PySem.Spec PyProof.Rows
theorem nn {b : Bool} (h : ¬ (!b) = true) : b = true := by cases b with | true => rfl | false => exact absurd rfl h
theorem nd {p : Prop} [Decidable p] (h : ¬ (!decide p) = true) : p := of_decide_eq_true (nn h)
theorem nf {b : Bool} (h : (!b) = true) : b = false := by cases b with | true => cases h | false => rfl
section
variable {X : Cx} {T : TX X} {ρ : Rho} {C : Cells} {Q : QE} {e a b c o : Expr} {pos p apos cpos tpos : Pos} {es elts : List Expr} {d d1 d2 : D} {ds ds2 : List D} {N N' : TEnds} {st : List Stmt}
theorem wt_chain2 {op op' : CmpOp} {Q : QT} (h : WE T a ρ C fun d1 C1 => WE T b ρ C1 fun d2 C2 => OW T (compareOp op) d1 d2 C2 fun d C3 => ∃ k, d = .bl k ∧ if k = true then WE T c ρ C3 (fun d3 C4 => OW T (compareOp op') d2 d3 C4 fun d C5 => ∃ k, d = .bl k ∧ Q k C5) else Q false C3)
    (hm : lastMarks [op, op'] [b, c] = false := by with_unfolding_all rfl) : WT T (.Compare a [op, op'] [b, c] pos) ρ C Q :=
  wt_chain h (pt_chain (op_some T _) (op_some T _) h (pe_some T ρ b) (pe_some T ρ c) hm)
theorem WSs.mono (h : WSs T st ρ C N) (n : ∀ ρ C, N.nx ρ C → N'.nx ρ C) (r : ∀ d C, N.rt d C → N'.rt d C) (b : ∀ ρ C, N.bk ρ C → N'.bk ρ C) (c : ∀ ρ C, N.ct ρ C → N'.ct ρ C) : WSs T st ρ C N' :=
  PSs.imp h fun Dn σ H ⟨H0, at_, k⟩ => ⟨H0, at_, ⟨fun ρ' σ' C' H' H0' p cc s l q => k.nx ρ' σ' C' H' H0' p cc s l (n _ _ q), fun v d C' H' H0' p cc rr q => k.rt v d C' H' H0' p cc rr (r _ _ q),
    fun ρ' σ' C' H' H0' p cc s l q => k.bk ρ' σ' C' H' H0' p cc s l (b _ _ q), fun ρ' σ' C' H' H0' p cc s l q => k.ct ρ' σ' C' H' H0' p cc s l (c _ _ q)⟩⟩
theorem WG.mono {tg : Expr} {Q Q' : QS} (h : WG T tg d ρ C Q) (i : ∀ ρ C, Q ρ C → Q' ρ C) : WG T tg d ρ C Q' :=
  PG.imp h fun v σ H R ⟨H0, at_, r, k⟩ => ⟨H0, at_, r, fun ρ' σ' C' H' H0' p cc s l q => k ρ' σ' C' H' H0' p cc s l (i _ _ q)⟩
/-- a loop by its invariant -/
theorem forW_inv {tg : Expr} {body : List Stmt} {P : Cells → Prop} (I : Nat → Rho → Cells → Prop) (hp : ∀ i ρ C, I i ρ C → P C)
    (step : ∀ i d ρ C, ds[i]? = some d → I i ρ C → WG T tg d ρ C fun ρ1 C1 => WSs T body ρ1 C1 { nx := I (i + 1), ct := I (i + 1), bk := N.nx, rt := N.rt }) (fin : ∀ ρ C, I ds.length ρ C → N.nx ρ C) (h0 : I 0 ρ C) : ForW T tg body P N ds ρ C := by
  have all : ∀ (r : List D) (i : Nat), ds.drop i = r → i ≤ ds.length → ∀ ρ C, I i ρ C → ForW T tg body P N r ρ C := by
    intro r
    induction r with
    | nil =>
      intro i hd hi ρ C h
      have e : i = ds.length := by
        have := congrArg List.length hd
        simp at this; omega
      subst e
      exact ⟨hp _ _ _ h, fin _ _ h⟩
    | cons d r ih =>
      intro i hd hi ρ C h
      have hlt : i < ds.length := by
        have := congrArg List.length hd
        simp at this; omega
      have hg : ds[i]? = some d := by
        rw [List.drop_eq_getElem_cons hlt] at hd
        injection hd with h1 h2
        rw [← h1]; simp [hlt]
      have hd' : ds.drop (i + 1) = r := by
        rw [List.drop_eq_getElem_cons hlt] at hd
        injection hd with h1 h2
      refine ⟨hp _ _ _ h, (step i d ρ C hg h).mono fun ρ1 C1 w => w.mono (fun ρ C q => ih (i + 1) hd' hlt ρ C q) (fun _ _ q => q) (fun _ _ q => q) (fun ρ C q => ih (i + 1) hd' hlt ρ C q)⟩
  exact all ds 0 (by simp) (Nat.zero_le _) ρ C h0
/-- a comprehension that only looks -/
theorem lcw_map {scope : Scope} {bd : Bind} {elt : Expr} {vs : List Nat} {P : Cells → Prop} (f : D → D) (hp : P C) (h : ∀ d ∈ ds, ∃ ρ', bd.to d (wipeR ρ vs) = some ρ' ∧ InBlk T scope fun T' => WE T' elt ρ' C fun y C2 => y = f d ∧ C2 = C)
    (hl : ds.length ≤ 100000) (q : Q (.lst (ds.map f)) C) : LcW T scope bd elt vs ρ P Q ds [] C := by
  have all : ∀ (r acc : List D), acc.length + r.length ≤ 100000 → (∀ d ∈ r, d ∈ ds) → Q (.lst (acc ++ r.map f)) C → LcW T scope bd elt vs ρ P Q r acc C := by
    intro r
    induction r with
    | nil => intro acc hl hm q; rw [List.map_nil, List.append_nil] at q; exact ⟨hp, q⟩
    | cons d r ih =>
      intro acc hl hm q
      obtain ⟨ρ', h1, h2⟩ := h d (hm d List.mem_cons_self)
      simp only [List.length_cons] at hl
      refine ⟨hp, ρ', h1, fun s H Ca cl fp => (h2 s H Ca cl fp).mono fun y C2 ⟨e1, e2⟩ => ?_⟩
      subst e1; subst e2
      exact ⟨by omega, ih (acc ++ [f d]) (by simp; omega) (fun x hx => hm x (List.mem_cons_of_mem _ hx)) (by rw [List.append_assoc]; exact q)⟩
  exact all ds [] (by simpa using hl) (fun _ h => h) (by simpa using q)
/-- the same over l.map g -/
theorem lcw_mapG {α : Type} {scope : Scope} {bd : Bind} {elt : Expr} {vs : List Nat} {P : Cells → Prop} (l : List α) (g f : α → D) (hp : P C) (h : ∀ a ∈ l, ∃ ρ', bd.to (g a) (wipeR ρ vs) = some ρ' ∧ InBlk T scope fun T' => WE T' elt ρ' C fun y C2 => y = f a ∧ C2 = C)
    (hl : l.length ≤ 100000) (q : Q (.lst (l.map f)) C) : LcW T scope bd elt vs ρ P Q (l.map g) [] C := by
  have all : ∀ (r : List α) (acc : List D), acc.length + r.length ≤ 100000 → (∀ d ∈ r, d ∈ l) → Q (.lst (acc ++ r.map f)) C → LcW T scope bd elt vs ρ P Q (r.map g) acc C := by
    intro r
    induction r with
    | nil => intro acc hl hm q; rw [List.map_nil, List.append_nil] at q; exact ⟨hp, q⟩
    | cons d r ih =>
      intro acc hl hm q
      obtain ⟨ρ', h1, h2⟩ := h d (hm d List.mem_cons_self)
      simp only [List.length_cons] at hl
      refine ⟨hp, ρ', h1, fun s H Ca cl fp => (h2 s H Ca cl fp).mono fun y C2 ⟨e1, e2⟩ => ?_⟩
      subst e1; subst e2
      exact ⟨by omega, ih (acc ++ [f d]) (by simp; omega) (fun x hx => hm x (List.mem_cons_of_mem _ hx)) (by rw [List.append_assoc]; exact q)⟩
  exact all l [] (by simpa using hl) (fun _ h => h) (by simpa using q)
theorem lcw1_map {scope : Scope} {bd : Bind} {i elt : Expr} {vs : List Nat} {P : Cells → Prop} (g : D → Bool) (f : D → D) (hp : P C)
    (h : ∀ d ∈ ds, ∃ ρ', bd.to d (wipeR ρ vs) = some ρ' ∧ (InBlk T scope fun T' => WT T' i ρ' C fun k C2 => k = g d ∧ C2 = C) ∧ (g d = true → InBlk T scope fun T' => WE T' elt ρ' C fun y C2 => y = f d ∧ C2 = C))
    (hl : ds.length ≤ 100000) (q : Q (.lst ((ds.filter g).map f)) C) : LcW1 T scope bd i elt vs ρ P Q ds [] C := by
  have all : ∀ (r acc : List D), acc.length + r.length ≤ 100000 → (∀ d ∈ r, d ∈ ds) → Q (.lst (acc ++ (r.filter g).map f)) C → LcW1 T scope bd i elt vs ρ P Q r acc C := by
    intro r
    induction r with
    | nil => intro acc hl hm q; rw [List.filter_nil, List.map_nil, List.append_nil] at q; exact ⟨hp, q⟩
    | cons d r ih =>
      intro acc hl hm q
      obtain ⟨ρ', h1, h2, h3⟩ := h d (hm d List.mem_cons_self)
      simp only [List.length_cons] at hl
      refine ⟨hp, ρ', h1, fun s H Ca cl fp => (h2 s H Ca cl fp).mono fun y C2 ⟨e1, e2⟩ => ?_⟩
      subst e1; subst e2
      cases hg : g d with
      | false =>
        rw [List.filter_cons, hg] at q
        exact iteF (ih acc (by omega) (fun x hx => hm x (List.mem_cons_of_mem _ hx)) q)
      | true =>
        rw [List.filter_cons, hg] at q
        refine iteT fun s H Ca cl fp => (h3 hg s H Ca cl fp).mono fun y C2 ⟨e1, e2⟩ => ?_
        subst e1; subst e2
        exact ⟨by omega, ih (acc ++ [f d]) (by simp; omega) (fun x hx => hm x (List.mem_cons_of_mem _ hx)) (by rw [List.append_assoc]; exact q)⟩
  exact all ds [] (by simpa using hl) (fun _ h => h) (by simpa using q)
theorem lcw1_mapG {α : Type} {scope : Scope} {bd : Bind} {i elt : Expr} {vs : List Nat} {P : Cells → Prop} (l : List α) (g f : α → D) (t : α → Bool) (hp : P C)
    (h : ∀ a ∈ l, ∃ ρ', bd.to (g a) (wipeR ρ vs) = some ρ' ∧ (InBlk T scope fun T' => WT T' i ρ' C fun k C2 => k = t a ∧ C2 = C) ∧ (t a = true → InBlk T scope fun T' => WE T' elt ρ' C fun y C2 => y = f a ∧ C2 = C))
    (hl : l.length ≤ 100000) (q : Q (.lst ((l.filter t).map f)) C) : LcW1 T scope bd i elt vs ρ P Q (l.map g) [] C := by
  have all : ∀ (r : List α) (acc : List D), acc.length + r.length ≤ 100000 → (∀ d ∈ r, d ∈ l) → Q (.lst (acc ++ (r.filter t).map f)) C → LcW1 T scope bd i elt vs ρ P Q (r.map g) acc C := by
    intro r
    induction r with
    | nil => intro acc hl hm q; rw [List.filter_nil, List.map_nil, List.append_nil] at q; exact ⟨hp, q⟩
    | cons d r ih =>
      intro acc hl hm q
      obtain ⟨ρ', h1, h2, h3⟩ := h d (hm d List.mem_cons_self)
      simp only [List.length_cons] at hl
      refine ⟨hp, ρ', h1, fun s H Ca cl fp => (h2 s H Ca cl fp).mono fun y C2 ⟨e1, e2⟩ => ?_⟩
      subst e1; subst e2
      cases hg : t d with
      | false =>
        rw [List.filter_cons, hg] at q
        exact iteF (ih acc (by omega) (fun x hx => hm x (List.mem_cons_of_mem _ hx)) q)
      | true =>
        rw [List.filter_cons, hg] at q
        refine iteT fun s H Ca cl fp => (h3 hg s H Ca cl fp).mono fun y C2 ⟨e1, e2⟩ => ?_
        subst e1; subst e2
        exact ⟨by omega, ih (acc ++ [f d]) (by simp; omega) (fun x hx => hm x (List.mem_cons_of_mem _ hx)) (by rw [List.append_assoc]; exact q)⟩
  exact all l [] (by simpa using hl) (fun _ h => h) (by simpa using q)
/-- a call that asks for all its cells, or for none -/
theorem asks_all {F : FS} (h : F ds C (fun d μ' => Q d μ') fun cls fs μ' => T.XQ cls fs ρ μ') : Asks T F ρ ds C Q := ⟨C, [], by simp, by simpa using h⟩
theorem asks_none {F : FS} (h : F ds [] (fun d μ' => Q d (μ' ++ C)) fun cls fs μ' => T.XQ cls fs ρ (μ' ++ C)) : Asks T F ρ ds C Q := ⟨[], C, by simp, h⟩
theorem asksM_all {F : FS} {Cl : Addr} (h : ∀ z, F (.raw (.ref z) :: ds) ((z, .ins Cl [] []) :: C) (fun d μ' => d = .non ∧ Q (.raw (.ref z)) μ') fun cls fs μ' => T.XQ cls fs ρ μ') : AsksM T F Cl ρ ds C Q := ⟨C, [], by simp, fun z => by simpa using h z⟩
theorem asksN_all {F : FS} (h : F ds C Q fun _ _ _ => False) : AsksN F ds C Q := ⟨C, [], by simp, by simpa using h⟩
/-- a text among written ones -/
theorem ow_inT {s : Str} {xs : List Str} (e : ds = xs.map D.str) (q : Q (.bl (decide (s ∈ xs))) C) : OW T (compareOp .In) (.str s) (.tup ds) C Q :=
  ow_in .t rfl (by subst e; simp [flatD]) (by subst e; rw [inD_strs]; exact q)
theorem ow_notInT {s : Str} {xs : List Str} (e : ds = xs.map D.str) (q : Q (.bl (!decide (s ∈ xs))) C) : OW T (compareOp .NotIn) (.str s) (.tup ds) C Q :=
  ow_notIn .t rfl (by subst e; simp [flatD]) (by subst e; rw [inD_strs]; exact q)
theorem Yields.weak {K : W.Frag} {J : It} {H0 : Hp} {P P' : Cells → Prop} (y : Yields K J H0 P ds) (i : ∀ C, P' C → P C) : Yields K J H0 P' ds :=
  ⟨fun i' H0' C H e c p hi => y.go i' H0' C H e c (i C p) hi, fun i' H0' C H e c p hi => y.stop i' H0' C H e c (i C p) hi, fun i' H0' C H x H' d e c p hd hy => y.yld i' H0' C H x H' d e c (i C p) hd hy⟩
/-- a list or a tuple, standing still or a cell -/
theorem wi_enumS {Q : QI} {kk : Nat} (hg : Gl X "enumerate") (hm : X.mg "enumerate" = none) (h : WE T e ρ C fun d C1 => ∃ ds, SeqD C1 d ds ∧ Q (enumD 0 ds) (fun C' => SeqD C' d ds) C1)
    (hs : starEach [e] X.env = [(false, eval e X.env)] := by rfl) (hs2 : starEach [e] X.env = (false, eval e X.env) :: starEach [] X.env := by rfl) : WI T (.Tuple elts kk tpos) (.Call (.Name "enumerate" p) [e] [] pos) ρ C Q := by
  refine PI.imp (pi_enumT hg hm (pa_cons h pa_nil hs2) hs) fun σ H R ⟨H0, at_, k⟩ => ⟨H0, at_, fun v d C1 H1 H01 p1 c1 r1 ⟨ds, hq, q⟩ => ?_⟩
  rcases hq with (e1 | ⟨z, e1, hz⟩) | e1
  · subst e1
    obtain ⟨a, vs, e2, g1, g2⟩ := r1
    subst e2
    exact ⟨a, vs, rfl, .inl ⟨Same.sqL c1.same g1, k _ _ _ C1 H1 H01 p1 c1 ((yields_enumL g1 g2).weak fun _ _ => trivial) q⟩⟩
  · subst e1
    obtain rfl : v = .ref z := r1
    obtain ⟨vs, g1, g2⟩ := c1.ok z _ hz
    refine ⟨z, vs, rfl, .inl ⟨.inl (.inl g1), k _ _ _ C1 H1 H01 p1 c1 (yields_enumC.weak fun C' h => ?_) q⟩⟩
    rcases h with (h | ⟨z', h, hm⟩) | h
    · cases h
    · cases h; exact hm
    · cases h
  · subst e1
    obtain ⟨a, vs, e2, g1, g2⟩ := r1
    subst e2
    exact ⟨a, vs, rfl, .inr ⟨Same.sqT c1.same g1, k _ _ _ C1 H1 H01 p1 c1 ((yields_enumT g1 g2).weak fun _ _ => trivial) q⟩⟩
theorem hu_G {k : Nat} {A : Around} (r : RoomG k A) : A.units + 64 < cLine := by have := r.rm.un; omega
theorem eqv_strs : ∀ xs ys : List Str, PyData.eqvAll (toPys (xs.map D.str)) (toPys (ys.map D.str)) = decide (xs = ys)
  | [], [] => rfl
  | [], y :: ys => by simp [toPys, PyData.eqvAll]
  | x :: xs, [] => by simp [toPys, PyData.eqvAll]
  | x :: xs, y :: ys => by
    have ih := eqv_strs xs ys
    rw [List.map_cons, List.map_cons]
    unfold toPys
    rw [PyData.eqvAll, ih]
    unfold toPy
    rw [PyData.eqv]
    by_cases h1 : x = y <;> by_cases h2 : xs = ys <;> simp [h1, h2]
theorem lay_strs : ∀ {xs : List Str}, (∀ x ∈ xs, PyData.strOk x = true) → PyData.canLayAll0 (toPys (xs.map D.str)) = true ∧ PyData.depthAll (toPys (xs.map D.str)) = 0
  | [], _ => ⟨rfl, rfl⟩
  | x :: xs, h => by
    obtain ⟨h1, h2⟩ := lay_strs (xs := xs) fun y hy => h y (List.mem_cons_of_mem _ hy)
    rw [List.map_cons]
    unfold toPys
    refine ⟨?_, ?_⟩
    · rw [PyData.canLayAll0, h1]
      unfold toPy
      rw [PyData.canLay0, h x List.mem_cons_self]; rfl
    · rw [PyData.depthAll, h2]
      unfold toPy
      rw [PyData.depth]; rfl
theorem shaped_tupS {xs : List Str} (h : ∀ x ∈ xs, PyData.strOk x = true) : SeqAt.shaped (.tuple (toPys (xs.map D.str))) = true := by
  obtain ⟨h1, h2⟩ := lay_strs h
  unfold SeqAt.shaped
  rw [PyData.canLay0, h1, PyData.depth, h2]; rfl
theorem shaped_lstS {xs : List Str} (h : ∀ x ∈ xs, PyData.strOk x = true) : SeqAt.shaped (.list (toPys (xs.map D.str))) = true := by
  obtain ⟨h1, h2⟩ := lay_strs h
  unfold SeqAt.shaped
  rw [PyData.canLay0, h1, PyData.depth, h2]; rfl
theorem plain_strs : ∀ xs : List Str, plainDs (xs.map D.str) = true
  | [] => rfl
  | x :: xs => by rw [List.map_cons]; unfold plainDs; rw [plain_strs xs]; rfl
theorem pyR_l (h : LstD C d ds) (hp : plainDs ds = true) : PyR C d (.list (toPys ds)) := by
  rcases h with rfl | ⟨a, rfl, hm⟩
  · exact .inl ⟨hp, rfl⟩
  · exact .inr ⟨a, ds, rfl, hm, hp, rfl⟩
theorem pyR_tup (hp : plainDs ds = true) : PyR C (.tup ds) (.tuple (toPys ds)) := .inl ⟨hp, rfl⟩
section
variable {xs ys : List Str} (hu : X.A.units + 64 < cLine) (hx : ∀ x ∈ xs, PyData.strOk x = true) (hy : ∀ x ∈ ys, PyData.strOk x = true)
include hu hx hy
theorem ow_eqTS (q : Q (.bl (decide (xs = ys))) C) : OW T (compareOp .Eq) (.tup (xs.map D.str)) (.tup (ys.map D.str)) C Q :=
  ow_eq hu (pyR_tup (plain_strs xs)) (pyR_tup (plain_strs ys)) (shaped_tupS hx) (shaped_tupS hy) (by rw [PyData.eqv, eqv_strs]; exact q)
theorem ow_neTS (q : Q (.bl (!decide (xs = ys))) C) : OW T (compareOp .NotEq) (.tup (xs.map D.str)) (.tup (ys.map D.str)) C Q :=
  ow_ne hu (pyR_tup (plain_strs xs)) (pyR_tup (plain_strs ys)) (shaped_tupS hx) (shaped_tupS hy) (by rw [PyData.eqv, eqv_strs]; exact q)
theorem ow_eqLS (h1 : LstD C d1 (xs.map D.str)) (h2 : LstD C d2 (ys.map D.str)) (q : Q (.bl (decide (xs = ys))) C) : OW T (compareOp .Eq) d1 d2 C Q :=
  ow_eq hu (pyR_l h1 (plain_strs xs)) (pyR_l h2 (plain_strs ys)) (shaped_lstS hx) (shaped_lstS hy) (by rw [PyData.eqv, eqv_strs]; exact q)
theorem ow_neLS (h1 : LstD C d1 (xs.map D.str)) (h2 : LstD C d2 (ys.map D.str)) (q : Q (.bl (!decide (xs = ys))) C) : OW T (compareOp .NotEq) d1 d2 C Q :=
  ow_ne hu (pyR_l h1 (plain_strs xs)) (pyR_l h2 (plain_strs ys)) (shaped_lstS hx) (shaped_lstS hy) (by rw [PyData.eqv, eqv_strs]; exact q)
end
/-- lists of ints -/
theorem eqv_ints : ∀ xs ys : List Int, PyData.eqvAll (toPys (xs.map D.int)) (toPys (ys.map D.int)) = decide (xs = ys)
  | [], [] => rfl
  | [], y :: ys => by simp [toPys, PyData.eqvAll]
  | x :: xs, [] => by simp [toPys, PyData.eqvAll]
  | x :: xs, y :: ys => by
    have ih := eqv_ints xs ys
    rw [List.map_cons, List.map_cons]
    unfold toPys
    rw [PyData.eqvAll, ih]
    unfold toPy
    rw [PyData.eqv]
    by_cases h1 : x = y <;> by_cases h2 : xs = ys <;> simp [h1, h2]
theorem lay_ints : ∀ xs : List Int, PyData.canLayAll0 (toPys (xs.map D.int)) = true ∧ PyData.depthAll (toPys (xs.map D.int)) = 0
  | [] => ⟨rfl, rfl⟩
  | x :: xs => by
    obtain ⟨h1, h2⟩ := lay_ints xs
    rw [List.map_cons]
    unfold toPys
    refine ⟨?_, ?_⟩
    · rw [PyData.canLayAll0, h1]; rfl
    · rw [PyData.depthAll, h2]; rfl
theorem plain_ints : ∀ xs : List Int, plainDs (xs.map D.int) = true
  | [] => rfl
  | x :: xs => by rw [List.map_cons]; unfold plainDs; rw [plain_ints xs]; rfl
theorem shaped_lstI (xs : List Int) : SeqAt.shaped (.list (toPys (xs.map D.int))) = true := by
  obtain ⟨h1, h2⟩ := lay_ints xs
  unfold SeqAt.shaped
  rw [PyData.canLay0, h1, PyData.depth, h2]; rfl
theorem ow_eqLI {xs ys : List Int} (hu : X.A.units + 64 < cLine) (h1 : LstD C d1 (xs.map D.int)) (h2 : LstD C d2 (ys.map D.int)) (q : Q (.bl (decide (xs = ys))) C) : OW T (compareOp .Eq) d1 d2 C Q :=
  ow_eq hu (pyR_l h1 (plain_ints xs)) (pyR_l h2 (plain_ints ys)) (shaped_lstI xs) (shaped_lstI ys) (by rw [PyData.eqv, eqv_ints]; exact q)
theorem ow_neLI {xs ys : List Int} (hu : X.A.units + 64 < cLine) (h1 : LstD C d1 (xs.map D.int)) (h2 : LstD C d2 (ys.map D.int)) (q : Q (.bl (!decide (xs = ys))) C) : OW T (compareOp .NotEq) d1 d2 C Q :=
  ow_ne hu (pyR_l h1 (plain_ints xs)) (pyR_l h2 (plain_ints ys)) (shaped_lstI xs) (shaped_lstI ys) (by rw [PyData.eqv, eqv_ints]; exact q)
theorem show_strs : ∀ {xs : List Str}, (∀ x ∈ xs, PyData.strOk x = true) →
    PyData.showableAll (toPys (xs.map D.str)) = true ∧ PyData.hasDictAll (toPys (xs.map D.str)) = false ∧ PyData.intsShortAll 8 (toPys (xs.map D.str)) = true ∧ PyData.weightAll (toPys (xs.map D.str)) = (xs.map (·.length)).sum + xs.length
  | [], _ => ⟨rfl, rfl, rfl, rfl⟩
  | x :: xs, h => by
    obtain ⟨h1, h2, h3, h4⟩ := show_strs (xs := xs) fun y hy => h y (List.mem_cons_of_mem _ hy)
    rw [List.map_cons]
    unfold toPys toPy
    refine ⟨?_, ?_, ?_, ?_⟩
    · rw [PyData.showableAll, h1]; rfl
    · rw [PyData.hasDictAll, h2]; rfl
    · rw [PyData.intsShortAll, h3]; rfl
    · rw [PyData.weightAll, h4, PyData.weight, List.map_cons, List.sum_cons, List.length_cons]
      show x.length + 1 + _ = _
      omega
/-- repr of a tuple, a list of texts -/
def reprT (xs : List Str) : Str := PyData.shown (.tuple (toPys (xs.map D.str)))
def reprL (xs : List Str) : Str := PyData.shown (.list (toPys (xs.map D.str)))
theorem reprT_len {xs : List Str} (hx : ∀ x ∈ xs, PyData.strOk x = true) : (reprT xs).length ≤ 10 * ((xs.map (·.length)).sum + xs.length) + 8 := by
  obtain ⟨h1, h2, h3, h4⟩ := show_strs hx
  have := PyData.shown_le 8 (by decide) (.tuple (toPys (xs.map D.str))) (PyData.leavesShort_of_canLay0 8 _ (by rw [PyData.canLay0]; exact (lay_strs hx).1) (by rw [PyData.intsShort]; exact h3))
  rw [PyData.weight, h4] at this
  exact this
theorem reprL_len {xs : List Str} (hx : ∀ x ∈ xs, PyData.strOk x = true) : (reprL xs).length ≤ 10 * ((xs.map (·.length)).sum + xs.length) + 8 := by
  obtain ⟨h1, h2, h3, h4⟩ := show_strs hx
  have := PyData.shown_le 8 (by decide) (.list (toPys (xs.map D.str))) (PyData.leavesShort_of_canLay0 8 _ (by rw [PyData.canLay0]; exact (lay_strs hx).1) (by rw [PyData.intsShort]; exact h3))
  rw [PyData.weight, h4] at this
  exact this
theorem cw_reprTS {xs : List Str} (hg : X.A.guards = some []) (hu : X.A.units + 64 < cLine) (hx : ∀ x ∈ xs, PyData.strOk x = true) (hz : (xs.map (·.length)).sum + xs.length ≤ 9000) (q : Q (.str (reprT xs)) C) : CW T (.builtin "repr") [.tup (xs.map D.str)] C Q := by
  obtain ⟨h1, h2, h3, h4⟩ := show_strs hx
  have hd : (PyData.tuple (toPys (xs.map D.str))).depth = 1 := by rw [PyData.depth, (lay_strs hx).2]
  refine cw_repr (p := .tuple (toPys (xs.map D.str))) hg (pyR_tup (plain_strs xs)) rfl (by rw [PyData.showable]; exact h1) (by rw [PyData.hasDict]; exact h2) (by rw [hd]; omega) ?_ q
  have := reprT_len hx
  show (reprT xs).length ≤ _
  omega
theorem cw_reprLS {xs : List Str} (hg : X.A.guards = some []) (hu : X.A.units + 64 < cLine) (hx : ∀ x ∈ xs, PyData.strOk x = true) (hz : (xs.map (·.length)).sum + xs.length ≤ 9000) (h : LstD C d (xs.map D.str)) (q : Q (.str (reprL xs)) C) : CW T (.builtin "repr") [d] C Q := by
  obtain ⟨h1, h2, h3, h4⟩ := show_strs hx
  have hd : (PyData.list (toPys (xs.map D.str))).depth = 1 := by rw [PyData.depth, (lay_strs hx).2]
  refine cw_repr (p := .list (toPys (xs.map D.str))) hg (pyR_l h (plain_strs xs)) rfl (by rw [PyData.showable]; exact h1) (by rw [PyData.hasDict]; exact h2) (by rw [hd]; omega) ?_ q
  have := reprL_len hx
  show (reprL xs).length ≤ _
  omega
def cutL {α : Type} (l : List α) (lo hi : Option Int) : List α := (l.drop (HT.sIx l.length 0 lo)).take (HT.sIx l.length l.length hi - HT.sIx l.length 0 lo)
theorem cutD_map {α : Type} (f : α → D) (l : List α) (lo hi : Option Int) : cutD (l.map f) lo hi = (cutL l lo hi).map f := by
  unfold cutD cutL
  rw [List.length_map, List.map_take, List.map_drop]
theorem cutL_mem {α : Type} {l : List α} {lo hi : Option Int} {x : α} (h : x ∈ cutL l lo hi) : x ∈ l := List.mem_of_mem_drop (List.mem_of_mem_take h)
theorem sub_sum {l m : List Str} (h : m.Sublist l) : (m.map (·.length)).sum ≤ (l.map (·.length)).sum := by
  induction h with
  | slnil => simp
  | cons a _ ih => simp only [List.map_cons, List.sum_cons]; omega
  | cons_cons a _ ih => simp only [List.map_cons, List.sum_cons]; omega
theorem cutL_sum {l : List Str} {lo hi : Option Int} : ((cutL l lo hi).map (·.length)).sum + (cutL l lo hi).length ≤ (l.map (·.length)).sum + l.length := by
  have sub : (cutL l lo hi).Sublist l := (List.take_sublist _ _).trans (List.drop_sublist _ _)
  have h1 := sub.length_le
  have h2 := sub_sum sub
  omega
/-! ### cells in another order, or some of them -/
theorem stp_part {K : W.Frag} {H0 H : Hp} {C C' r : Cells} (c : CellsR K H0 C H) (pm : C.Perm (C' ++ r)) : Stp H0 C H H0 C' H ∧ CellsR K H0 C' H :=
  ⟨⟨Same.refl _, fun a o h _ => h, fun a h e n => ⟨e, fun ⟨x, hx⟩ => n ⟨x, pm.mem_iff.mpr (List.mem_append_left _ hx)⟩⟩⟩, c.part pm⟩
theorem wss_part {C' r : Cells} (pm : C.Perm (C' ++ r)) (h : WSs T st ρ C' N) : WSs T st ρ C N :=
  PSs.imp h fun Dn σ H ⟨H0, at_, k⟩ => let ⟨p, c⟩ := stp_part at_.c pm; ⟨H0, at_.step p c, k.after p c⟩
theorem we_part {C' r : Cells} (pm : C.Perm (C' ++ r)) (h : WE T e ρ C' Q) : WE T e ρ C Q :=
  PE.imp h fun σ H R ⟨H0, at_, k⟩ => let ⟨p, c⟩ := stp_part at_.c pm; ⟨H0, at_.step p c, k.after p c fun _ _ z => z⟩
/-- xs[i] = d on a list that is a cell -/
theorem wg_subL {Q : QS} (j : Nat) (h : WE T o ρ C fun od C1 => WE T b ρ C1 fun id C2 => ∃ z ds k n, od = .raw (.ref z) ∧ id = .int k ∧ C2[j]? = some (z, .lst ds) ∧ ixN ds.length k = some n ∧ Q ρ (C2.set j (z, .lst (ds.set n d))))
    (ha : ∀ v, assign (.Subscript o b pos) X.env v = (do
      let ov ← holding [v] (eval o X.env)
      let iv ← holding [v, ov] (eval b X.env)
      standAt pos
      holding [v, ov, iv] (setItem ov iv v)
      release [v, ov, iv] []) := by intro _; rfl) : WG T (.Subscript o b pos) d ρ C Q :=
  PG.imp (pg_sub h (pe_some T ρ b) set_list ha) fun v σ H R ⟨H0, at_, r, k⟩ => ⟨H0, at_, fun v1 od C1 H1 H01 p1 c1 r1 q1 => ⟨C1, _, q1, H01, at_.step p1 c1, fun v2 id C2 H2 H02 p2 c2 r2 ⟨z, ds, kk, n, e1, e2, hi, hn, q⟩ => by
    subst e1; subst e2
    obtain rfl : v1 = .ref z := r1
    cases r2
    obtain ⟨vs, g1, g2⟩ := c2.ok z _ (List.mem_iff_getElem?.mpr ⟨j, hi⟩)
    obtain ⟨p3, c3⟩ := stp_write (o := .lst (vs.set n v)) c2 hi (c' := .lst (ds.set n d)) ⟨_, upd_same, Reps.set ((r.mono p1.base).mono p2.base) n g2⟩
    have at3 := ((at_.step p1 c1).step p2 c2).step p3 c3
    exact ⟨z, vs, kk, n, rfl, rfl, g1, by rw [← g2.length]; exact hn, k _ _ _ _ _ ((p1.trans c1 p2).trans c2 p3) c3 at3.s at3.l q⟩⟩⟩
end
end Tr

set_option maxHeartbeats 2000000
namespace Tr
open PySem L2 PySem.Spec PyProof.Rows
section
variable {X : Cx} {T : TX X} {ρ : Rho} {C : Cells} {Q : QE} {e a b c o : Expr} {pos p apos cpos tpos px py pz pt : Pos} {es elts : List Expr} {d d1 d2 : D} {ds ds2 : List D} {N N' : TEnds} {st : List Stmt} {x y z : Str} {kt k2 : Nat} {pt2 : Pos}
/-- x, y = a, b -/
theorem ws_par (i j : Nat) (hN : X.N.Nodup) (hi : X.N[i]? = some x) (hj : X.N[j]? = some y) (hij : i ≠ j) (hx : X.env.scope.names.lookup x = some .local) (hy : X.env.scope.names.lookup y = some .local)
    (hw : swappedStores [.Tuple [.Name x px, .Name y py] kt pt] (.Tuple [a, b] k2 pt2) X.env = pure (some [x, y]))
    (h : WA T [a, b] ρ C fun ds C1 => ∃ d1 d2, ds = [d1, d2] ∧ N.nx ((ρ.set i (some d1)).set j (some d2)) C1)
    (hs : swapsWithSole [.Tuple [.Name x px, .Name y py] kt pt] (.Tuple [a, b] k2 pt2) pos.line X.env = pure false := by rfl) (hc : X.calm = true := by rfl) :
    WS T (.Assign [.Tuple [.Name x px, .Name y py] kt pt] (.Tuple [a, b] k2 pt2) pos) ρ C N :=
  PS.imp (ps_par hc hN hi hj hij hx hy h hw hs) fun Dn σ H ⟨H0, at_, k⟩ => ⟨H0, at_, fun vs ds C1 H1 H01 p1 c1 r1 ⟨d1, d2, e1, q⟩ => by
    subst e1
    obtain ⟨v, w, e2, g1, g2⟩ := r1.two
    subst e2
    have at1 := at_.step p1 c1
    refine ⟨v, w, rfl, (k.after p1 c1).nx _ _ C1 H1 H01 (Stp.refl _ _ _) c1 (SlotsR.set j (SlotsR.set i at1.s g1 at1.l) g2 (by rw [List.length_set, List.length_set]; exact at1.l)) (by simp only [List.length_set]; exact at1.l) q⟩⟩
theorem Reps.mapF {K : W.Frag} {H : Hp} {α : Type} {f : α → D} {g : α → V} : ∀ {l : List α}, (∀ x ∈ l, Rep K H (f x) (g x)) → Reps K H (l.map f) (l.map g)
  | [], _ => rfl
  | x :: l, h => ⟨_, _, rfl, h x List.mem_cons_self, Reps.mapF fun y hy => h y (List.mem_cons_of_mem _ hy)⟩
/-- list(range(n)) -/
theorem we_listRg1 {p2 pos2 : Pos} (hgl : Gl X "list") (hml : X.mg "list" = none) (hg : Gl X "range") (hm : X.mg "range" = none) (h : WE T a ρ C fun d C1 => ∃ n : Int, d = .int n ∧ 0 ≤ n ∧ n ≤ 100000 ∧ Q (.lst (rangeD 0 n.toNat)) C1)
    (na : starEach [a] X.env = (false, eval a X.env) :: starEach [] X.env := by rfl) (na2 : starEach [.Call (.Name "range" p2) [a] [] pos2] X.env = (false, eval (.Call (.Name "range" p2) [a] [] pos2) X.env) :: starEach [] X.env := by rfl) (hc : X.calm = true := by rfl) :
    WE T (.Call (.Name "list" p) [.Call (.Name "range" p2) [a] [] pos2] [] pos) ρ C Q :=
  PE.imp (pe_listRg hc hgl hml (prg_1 hg hm h na) na2) fun σ H R ⟨H0, at_, k⟩ => ⟨H0, at_, fun v d C1 H1 H01 p1 c1 r1 ⟨n, e1, h0, h1, q⟩ => by
    subst e1
    refine ⟨n, r1, RgOk.of_le (by decide) (by omega) (by decide) h0, fun z hz => ?_⟩
    obtain ⟨p2, c2⟩ := stp_new (o := .lst (rgV 0 n)) c1 hz
    refine k _ (.lst (rangeD 0 n.toNat)) C1 _ _ (p1.trans c1 p2) c2 ⟨z, _, rfl, .inl (.inl upd_same), ?_⟩ q
    unfold rangeD rgV
    rw [Int.sub_zero]
    exact Reps.mapF fun x _ => rfl⟩
/-- a comprehension by its invariant -/
theorem lcw_inv {scope : Scope} {bd : Bind} {elt : Expr} {vs : List Nat} {P : Cells → Prop} (J : Nat → List D → Cells → Prop) (hp : ∀ i acc C, J i acc C → P C)
    (step : ∀ i d acc C, ds[i]? = some d → J i acc C → ∃ ρ', bd.to d (wipeR ρ vs) = some ρ' ∧ InBlk T scope fun T' => WE T' elt ρ' C fun y C2 => acc.length < 100000 ∧ J (i + 1) (acc ++ [y]) C2) (fin : ∀ acc C, J ds.length acc C → Q (.lst acc) C) (h0 : J 0 [] C) :
    LcW T scope bd elt vs ρ P Q ds [] C := by
  have all : ∀ (r : List D) (i : Nat), ds.drop i = r → i ≤ ds.length → ∀ acc C, J i acc C → LcW T scope bd elt vs ρ P Q r acc C := by
    intro r
    induction r with
    | nil =>
      intro i hd hi acc C h
      have e : i = ds.length := by
        have := congrArg List.length hd
        simp at this; omega
      subst e
      exact ⟨hp _ _ _ h, fin _ _ h⟩
    | cons d r ih =>
      intro i hd hi acc C h
      have hlt : i < ds.length := by
        have := congrArg List.length hd
        simp at this; omega
      rw [List.drop_eq_getElem_cons hlt] at hd
      injection hd with h1 h2
      obtain ⟨ρ', g1, g2⟩ := step i d acc C (by rw [← h1]; simp [hlt]) h
      exact ⟨hp _ _ _ h, ρ', g1, fun s H Ca cl fp => (g2 s H Ca cl fp).mono fun y C2 ⟨l, j⟩ => ⟨l, ih (i + 1) h2 hlt _ _ j⟩⟩
  exact all ds 0 (by simp) (Nat.zero_le _) [] C h0
theorem wss_perm {C' : Cells} (pm : C.Perm C') (h : WSs T st ρ C' N) : WSs T st ρ C N := wss_part (r := []) (by rw [List.append_nil]; exact pm) h
theorem ow_ne_bl {x y : Bool} (q : Q (.bl (x != y)) C) : OW T (compareOp .NotEq) (.bl x) (.bl y) C Q :=
  ow_look (d := .bl (x != y)) op_ne (fun u v H H0 c r1 r2 => by cases r1; cases r2; exact ⟨.bl (x != y), rfl, fun R k => ⟨rfl, by
    rw [show (!decide (V.bl x = V.bl y)) = (x != y) by cases x <;> cases y <;> decide]; exact k⟩⟩) q
theorem ow_eq_bl {x y : Bool} (q : Q (.bl (x == y)) C) : OW T (compareOp .Eq) (.bl x) (.bl y) C Q :=
  ow_look (d := .bl (x == y)) op_eq (fun u v H H0 c r1 r2 => by cases r1; cases r2; exact ⟨.bl (x == y), rfl, fun R k => ⟨rfl, by
    rw [show decide (V.bl x = V.bl y) = (x == y) by cases x <;> cases y <;> decide]; exact k⟩⟩) q
/-- a new instance that stands still from now on; the same with a list -/
theorem we_frzI (h : WE T e ρ C fun d C1 => ∃ (i : Nat) (z Cl : Addr) (ns : List Str) (ds : List D), d = .raw (.ref z) ∧ C1[i]? = some (z, .ins Cl ns ds) ∧ Q (.ins Cl ns ds) (C1.eraseIdx i)) : WE T e ρ C Q :=
  we_frz (h.mono fun d C1 ⟨i, z, Cl, ns, ds, h1, h2, h3⟩ => ⟨i, z, _, h1, h2, h3⟩)
theorem we_frzL (h : WE T e ρ C fun d C1 => ∃ (i : Nat) (z : Addr) (ds : List D), d = .raw (.ref z) ∧ C1[i]? = some (z, .lst ds) ∧ Q (.lst ds) (C1.eraseIdx i)) : WE T e ρ C Q :=
  we_frz (h.mono fun d C1 ⟨i, z, ds, h1, h2, h3⟩ => ⟨i, z, _, h1, h2, h3⟩)
end
end Tr

set_option maxHeartbeats 4000000
namespace Tr
open PySem L2 PySem.Spec PyProof.Rows

/-! ### an own exception whose __init__ calls super().__init__ and stores one field -/
section
variable {prog : Program} {w : World} {A : Around} {E : Value → Shared → Prop} {R : Result → Shared → Prop} {hp : Heap} {g : Array GenState} {d : Drawn} {t : Nat} {os : OsState}
variable {nm q : Str} {C N : Addr} {bs bm bmB : List Value} {hdct : Bool} {sn : List Str} {sub : List Value} {ab : Bool} {col : Option Bool} {dd : Option Addr} {k0 k1 k2 k3 k5 : Option Value} {B newId initId : String}
/-- a built-in __init__ that only lays the args -/
structure IniF (B initId : String) : Prop where
  pl : plainId initId = true
  en : entryFor table initId = some Builtin.«BaseException.__init__»
  ki : builtinKind initId = some .slot
  ro : Manifest.signature? initId = some ⟨.positional, "*", B, .self, [⟨"args", .varPos, false⟩]⟩
  ns : (B != "*") = true
theorem IniF.of {Z nI iI : String} (F : ExcCallFacts Z nI iI) : IniF Z iI := ⟨F.init.plain, F.initEntry, F.initKind, F.initRow, F.noStar⟩
theorem chk_ini (I : IniF B initId) {M : Model} {e : Addr} {oe : Obj} {us : List Value} {Z : Unit → Shared → Prop}
    (gC : hp.get? C = some (excClassObj nm q C N bs bm hdct sn sub ab col dd k0 k1 k2 k3 k5 newId)) (ge : hp.get? e = some oe) (ec : oe.cls = .ref C) (z : Z () ⟨hp, g, d, t, os⟩) : wpAny M A (checkBoundCall initId ⟨.ref e :: us, []⟩) Z E ⟨hp, g, d, t, os⟩ := by
  have ns := I.ns
  simp only [checkBoundCall, I.ki, I.ro]
  repeat (first | (with_reducible refine wpAny_loadPart_at ge ?_; rw [ec]) | with_reducible refine wpAny_loadPart_at gC ?_ | wp_step)
  refine wpAny_onRaise ?_
  rw [show ∀ (a b : String) (n : Nat), Bind.check ⟨.positional, "*", B, .self, [⟨"args", .varPos, false⟩]⟩ a b n (List.map (fun x => x.fst) ({ pos := Value.ref e :: us } : Args).kw) = pure () from fun a b n => check_star_args _ _ _ _ _ _]
  exact wpAny_pure z
/-- the bound base __init__: the args are laid anew -/
theorem call_mwI (FB : IniF B initId) {u e t0 : Addr} {rest : List Value} {Q : Value → Shared → Prop}
    (hC : hp.get? C = some (excClassObj nm q C N bs bm hdct sn sub ab col dd k0 k1 k2 k3 k5 newId)) (he : hp.get? e = some (HandSPX.excO C t0)) (hu : hp.get? u = some (W.kxs_mw initId e)) (hrest : rest.length ≤ sizeLine)
    (hq : ∀ h' t1, (∀ b o, b ≠ e → hp.get? b = some o → h'.get? b = some o) → h'.get? e = some (HandSPX.excO C t1) → Q .none ⟨h', g, d, t, os⟩) :
    wpAny (model prog w) A (call (.ref u) rest) Q E ⟨hp, g, d, t, os⟩ := by
  refine wpAny_call (codeAny_of_tree ?_)
  show wpAny _ A.in1 (callAny (.ref u) ⟨rest, []⟩) _ _ _
  simp only [callAny]
  refine wpAny_bind (wpAny_load hu ?_)
  simp only [W.kxs_mw, show (Value.type "method-wrapper" == Value.type "method" || Value.type "method-wrapper" == Value.type "builtin_function_or_method" || Value.type "method-wrapper" == Value.type "method-wrapper") = true by decide, if_true]
  refine W.KFB.if_so (by decide) ?_
  refine wpAny_bind (chk_ini FB hC he rfl ?_)
  refine wpAny_bind (wpAny_pure (wpAny_pure ?_))
  refine ⟨plainId_quiet FB.pl _, codeAny_builtin FB.en ?_⟩
  rw [Around.under_plainId FB.pl _]
  wp_walk
  refine hq _ hp.objs.size (fun b o hb ho => ?_) ?_
  · rw [Heap.get?_update_other _ _ (Ne.symm hb)]
    exact Heap.get?_push_of_some _ ho
  · rw [Heap.get?_update_self _ (Heap.get?_push_of_some _ he) rfl]
    rfl
/-! the making, by a built-in __new__ that need not be the nearest class's own -/
/-- what the class must show of it -/
structure NewT (Z : String) (bm : List Value) : Prop where
  b : bm.contains (.type Z) = true
  a : bm.contains (.type "AttributeError") = false
  n : bm.contains (.type "NameError") = false
theorem chk_new {nI iI : String} {bmZ : List Value} (F : ExcBaseFacts B nI iI bmZ) (H : NewT B bm) {us : List Value} {Z : Unit → Shared → Prop}
    (gC : hp.get? C = some (excClassObj nm q C N bs bm hdct sn sub ab col dd k0 k1 k2 k3 k5 nI)) (z : Z () ⟨hp, g, d, t, os⟩) : wpAny (model prog w) A (checkBuiltinCall nI ⟨.ref C :: us, []⟩) Z E ⟨hp, g, d, t, os⟩ := by
  have c1 : (Value.ref C :: bm).contains (.type B) = true := by rw [List.contains_cons, H.b, Bool.or_true]
  have c2 := F.noStar
  simp only [checkBuiltinCall, F.newKind, F.newSplit, F.newRow]
  repeat (first | refine wpAny_loadPart_at gC ?_ | (refine wpAny_isSubtype_exc gC ?_; rw [c1]) | refine wpAny_staticBase_exc gC ?_ | refine wpAny_madeBy_exc gC ?_ | simp only [bne_self_eq_false, Bool.false_eq_true, if_false] | wp_step)
  exact z
theorem new_run {nI iI : String} {bmZ : List Value} (F : ExcBaseFacts B nI iI bmZ) (H : NewT B bm) {us : List Value}
    (gC : hp.get? C = some (excClassObj nm q C N bs bm hdct sn sub ab col dd k0 k1 k2 k3 k5 nI)) (hl : us.length ≤ sizeLine)
    (z : R (.ok (.ret (.ref (hp.objs.size + 1)))) ⟨(hp.push (W.kdv_tup us)).push (HandSPX.excO C hp.objs.size), g, d, t, os⟩) : codeAny (model prog w) A (.builtin nI ⟨.ref C :: us, []⟩) R ⟨hp, g, d, t, os⟩ := by
  have e0 := F.ends
  have c1 : (Value.ref C :: bm).contains (.type B) = true := by rw [List.contains_cons, H.b, Bool.or_true]
  have c2 : (Value.ref C :: bm).contains (.type "AttributeError") = false := by rw [List.contains_cons, H.a]; rfl
  have c3 : (Value.ref C :: bm).contains (.type "NameError") = false := by rw [List.contains_cons, H.n]; rfl
  refine codeAny_builtinAt F.entry ?_
  unfold Builtin.«BaseException.__new__»
  refine _root_.PySem.wpAt_bind ?_
  show _root_.PySem.wpAt _ _ _ (stack >>= _) _ _ _
  refine _root_.PySem.wpAt_bind (_root_.PySem.wpAt_stack fun p0 b0 => _root_.PySem.wpAt_of_wpAny ?_)
  wp_walk
  refine _root_.PySem.wpAt_of_wpAny ?_
  rw [F.owner]
  repeat (first | with_reducible refine wpAny_madeHere_exc F.canon gC ?_ | with_reducible refine wpAny_loadPart_at gC ?_ | (with_reducible refine wpAny_isSubtype_exc gC ?_; first | rw [c1] | rw [c2] | rw [c3]) | wp_step)
  show R _ _
  rw [Heap.size_push]
  exact z
theorem tcall_run {nI iI : String} {bmZ : List Value} (F : ExcBaseFacts B nI iI bmZ) (H : NewT B bm) {us : List Value} {fI : Addr} {Z : Fin → Shared → Prop}
    (gC : hp.get? C = some (excClassObj nm q C N bs bm hdct sn sub ab col dd k0 k1 k2 k3 k5 nI)) (li : W.Looks (model prog w) hp (typeLookup (.ref C) "__init__") (some (.ref fI)))
    (lb : ∀ self, W.Looks (model prog w) hp (bindSpecial (.ref fI) self) (.ref fI, [self])) (hl : us.length ≤ sizeLine)
    (z : codeAny (model prog w) A (.call (.ref fI) ⟨.ref (hp.objs.size + 1) :: us, []⟩) (fun r s' => match r with | .ok (.ret v) => v = .none ∧ Z (.done (.ret (.ref (hp.objs.size + 1)))) s' | .ok _ => False | .error e => E e s')
      ⟨(hp.push (W.kdv_tup us)).push (HandSPX.excO C hp.objs.size), g, d, t, os⟩) : wpAny (model prog w) A (Builtin.«type.__call__» ⟨.ref C :: us, []⟩) Z E ⟨hp, g, d, t, os⟩ := by
  repeat (first | with_reducible refine wpAny_loadPart_at gC ?_ | with_reducible refine wpAny_madeBy_exc gC ?_ | wp_step)
  refine codeAny_call_builtin_code (Code.quiet_builtin _ F.quiet) (chk_new F H gC ?_)
  refine new_run F H gC hl ?_
  show wpAny _ _ _ _ _ _
  have kk : ∀ b o, hp.get? b = some o → ((hp.push (W.kdv_tup us)).push (HandSPX.excO C hp.objs.size)).get? b = some o := fun b o y => Heap.get?_push_of_some _ (Heap.get?_push_of_some _ y)
  have gC' := kk _ _ gC
  have ge : ((hp.push (W.kdv_tup us)).push (HandSPX.excO C hp.objs.size)).get? (hp.objs.size + 1) = some (HandSPX.excO C hp.objs.size) := by heap_get
  have cc : (Value.ref C :: bm).contains (.ref C) = true := by simp
  have i2 := li.keeps kk
  have b2 := (lb (.ref (hp.objs.size + 1))).keeps kk
  unfold isInstance
  repeat (first | with_reducible refine wpAny_loadPart_at ge ?_ | (with_reducible refine wpAny_isSubtype_exc gC' ?_; rw [cc]) | wp_step)
  show wpAny _ _ (typeLookup (.ref C) _) _ _ _
  refine i2.at ?_
  refine wpAny_holding (wpAny_bind (b2.at ?_))
  refine wpAny_bind (wpAny_call (codeAny_mono z fun r s' y => ?_))
  rcases r with er | (v | _ | _ | _) <;> first | exact y | exact y.elim | skip
  obtain ⟨rfl, y⟩ := y
  first
    | exact wpAny_pure (wpAny_pure y)
    | (wp_walk; exact y)
/-- C(us) -/
theorem make_run {nI iI : String} {bmZ : List Value} (F : ExcBaseFacts B nI iI bmZ) (H : NewT B bm) {us : List Value} {fI : Addr}
    (gC : hp.get? C = some (excClassObj nm q C N bs bm hdct sn sub ab col dd k0 k1 k2 k3 k5 nI)) (li : W.Looks (model prog w) hp (typeLookup (.ref C) "__init__") (some (.ref fI)))
    (lb : ∀ self, W.Looks (model prog w) hp (bindSpecial (.ref fI) self) (.ref fI, [self])) (hl : us.length ≤ sizeLine)
    (z : codeAny (model prog w) (A.under (.builtin "type.__call__" ⟨.ref C :: us, []⟩)) (.call (.ref fI) ⟨.ref (hp.objs.size + 1) :: us, []⟩) (W.InitBack (hp.objs.size + 1) R)
      ⟨(hp.push (W.kdv_tup us)).push (HandSPX.excO C hp.objs.size), g, d, t, os⟩) : codeAny (model prog w) A (.call (.ref C) ⟨us, []⟩) R ⟨hp, g, d, t, os⟩ := by
  have l1 := tc_lookup
  have l2 := tc_bind (.ref C)
  have ty : (⟨hp, g, d, t, os⟩ : Shared).TypeIs (.ref C) "type" := ⟨_, gC, rfl⟩
  refine codeAny_of_tree ?_
  show wpAny _ _ (callAny (.ref C) _) _ _ _
  repeat (any_goals (first | assumption | with_reducible refine wpAny_loadPart_at gC ?_ | wp_step))
  refine ⟨rfl, ?_⟩
  refine codeAny_call_builtin_at (Code.quiet_builtin _ (by decide +kernel)) _root_.PySem.entry_typeCall (_root_.PySem.wpAny_check_type_call_sub gC (tcall_run F H gC li lb hl ?_))
  refine codeAny_mono z fun r s' y => ?_
  rcases r with er | (v | _ | _ | _) <;> exact y
end
/-- what is known of a built-in exception class under own ones -/
structure XFacts (B newId initId : String) (bmB : List Value) : Prop where
  fb : ∃ Z iI bmZ, ExcBaseFacts Z newId iI bmZ ∧ NewT Z bmB
  ini : IniF B initId
  kf : W.KxsFacts B initId
  pass : ∀ self : Value, refuseLoop self "__setattr__" bmB = pure ()
  ob : bmB.contains (.type "object") = true
theorem NewT.tail {Z : String} {bmB bm : List Value} (h : NewT Z bmB) (x : W.excTail bmB bm = true) : NewT Z bm := ⟨by rw [W.excTail_contains Z bm x]; exact h.b, by rw [W.excTail_contains _ bm x]; exact h.a, by rw [W.excTail_contains _ bm x]; exact h.n⟩
structure OexT (K : W.Frag) (C : Addr) (newId : String) (bmB : List Value) : Prop where
  cls : ∃ nm q N bs bm sn sub ab col dd k0 k1 k2 k3 k5, K.lookup C = some (excClassObj nm q C N bs bm true sn sub ab col dd k0 k1 k2 k3 k5 newId) ∧ W.excTail bmB bm = true
  st : W.findIn K (.ref C) "__setattr__" = some (some (.builtin "object.__setattr__"))
  bx : W.subIn K (.ref C) (.type "BaseException") = some true
  ty : W.typeIn K (.ref C) = some (.type "type")
  kp : W.keepIn K (.ref C) = true
section
variable {prog : Program} {w : World} {A : Around} {R : Result → Shared → Prop} {hp : Heap} {g : Array GenState} {d : Drawn} {t : Nat} {os : OsState}
open HandSPX Builtin Builtin.ObjectAttr in
/-- e.f = v, of an exception without a dict so far -/
theorem osaT {K : W.Frag} {nmF : Str} {tkF : Tok} {val : Value} {ex Cx' : Addr} {fvs : Array Value} {cdt : ClassData} {bmB : List Value} (kIn : K.In hp) (gx : hp.get? ex = some { cls := .ref Cx', data := .fields fvs }) (ccd : W.clsIn K Cx' = some cdt)
    (tl : W.excTail bmB cdt.mro = true) (ps : ∀ self : Value, refuseLoop self "__setattr__" bmB = pure ()) (ob : bmB.contains (.type "object") = true) (dct : cdt.hasDict = true) (no : W.findIn K (.ref Cx') nmF = some none)
    (fin : ∀ h' tk' dx, (∀ b o, b ≠ ex → hp.get? b = some o → h'.get? b = some o) → hp.objs.size ≤ dx → dx ≠ ex → h'.get? ex = some { cls := .ref Cx', dict := some dx, data := .fields fvs } → h'.Ns1 dx (fun y => if y = nmF then some val else none) → R (.ok (.ret .none)) ⟨h', g, d, tk', os⟩) :
    codeAny (model prog w) A (.call (.builtin "object.__setattr__") ⟨[.ref ex, .str nmF tkF, val], []⟩) R ⟨hp, g, d, t, os⟩ := by
  have J : W.InstAt hp ex { cls := .ref Cx', data := .fields fvs } Cx' none := ⟨gx, rfl, rfl, trivial⟩
  have hob : cdt.mro.contains (.type "object") = true := by rw [W.excTail_contains "object" _ tl]; exact ob
  have ne : cdt.mro.isEmpty = false := by
    cases e : cdt.mro with
    | nil => rw [e] at hob; cases hob
    | cons _ _ => rfl
  have nx : ex ≠ hp.objs.size := fun z => absurd (Heap.lt_size gx) (by rw [← z]; exact Nat.lt_irrefl _)
  have ro : W.mroIn K Cx' (.type "object") = some true := by unfold W.mroIn; rw [ccd, Option.bind_some, if_neg (by rw [ne]; decide), hob]
  have SO := F.store_object
  refine codeAny_call_builtin SO.slot.plain SO.entry ?_
  refine (@W.check_slot (model prog w) _ _ ⟨hp, g, d, t, os⟩ "object.__setattr__" "object" "__setattr__" (.ref ex) [.str nmF tkF, val] [] _ SO.kind SO.split (J.type.andThen (W.looks_mroIn kIn ro)) (SO.args (.ref ex) (.str nmF tkF) val) ?_)
  have l1 : W.Looks (model prog w) hp (mroOf (.ref Cx')) cdt.mro := (W.looks_clsIn kIn ccd).andThen .now
  have l2 : W.Looks (model prog w) hp (storeTaker? none) none := .now
  have l3 : W.Looks (model prog w) hp (classData Cx') cdt := W.looks_clsIn kIn ccd
  rw [W.osa_eq, refuse_eq]
  refine wpAny_bind (wpAny_bind (J.type.at (wpAny_bind (l1.at ?_))))
  rw [W.excTail_pass _ (ps _) _ tl]
  refine wpAny_pure (wpAny_bind (J.type.at (wpAny_bind ((W.looks_findIn kIn no).at (wpAny_bind (l2.at ?_))))))
  show wpAny _ _ (storeInOwnDict (.ref ex) (.ref Cx') (.str nmF tkF) nmF val false) _ _ _
  obtain ⟨a1, a2, a3, a4, a5, a6, a7, a8, a9, a10, a11⟩ := cdt
  obtain rfl : a6 = true := dct
  unfold storeInOwnDict ownDictForStores
  repeat (first | with_reducible refine store_in_new ?_ ?_ | with_reducible refine wpAny_loadPart_at gx ?_ | with_reducible refine l3.at ?_ | wp_step)
  · exact ⟨_, #[], _, (Heap.get?_update_ne _ _ _ _ nx.symm).trans (Heap.get?_push_at rfl rfl), rfl, fun e he => absurd he (by simp), fun _ => rfl⟩
  intro h' tk' hn' hs
  have gx1 : (hp.push { cls := .type "dict", data := .dict #[] }).get? ex = some { cls := .ref Cx', data := .fields fvs } := Heap.get?_push_of_some _ gx
  refine fin h' tk' hp.objs.size (fun b o hb ho => ?_) (Nat.le_refl _) nx.symm ?_ hn'
  · exact (hs.2 b fun z => absurd (Heap.lt_size ho) (by rw [z]; exact Nat.lt_irrefl _)).trans ((Heap.get?_update_ne _ _ _ _ hb).trans (Heap.get?_push_of_some _ ho))
  · exact (hs.2 ex nx).trans (Heap.get?_update_self _ gx1 rfl)
end
section
variable {prog : Program} {w : World} {A : Around} {R : Result → Shared → Prop} {hp : Heap} {g : Array GenState} {d : Drawn} {t : Nat} {os : OsState} {K : W.Frag} {mg mb : Str → Option Value}
variable {nm q : Str} {C N fI cda cc a t0 : Addr} {bs bm bmB : List Value} {sn : List Str} {sub : List Value} {ab : Bool} {col : Option Bool} {dd od an cdd cld : Option Addr} {k0 k1 k2 k3 k5 : Option Value} {B newId initId : String}
variable {name qual selfN argN fld file : Str} {params : Arguments} {body : List Stmt} {scope : Scope} {oc kV doc pm ct ccl cl v : Value} {osl ccs csl : Array (Option Value)} {vs : Array Value} {tf : Tok} {ar : Arg} {p0 p1 p2 p3 p4 p5 p6 p7 p8 p9 : Pos}
theorem sup_init (XF : XFacts B newId initId bmB) (X : K.In hp) (hg : hp.Ns mainGlobals mg) (hb : hp.Ns builtinsNs mb) (hbb : ∀ x : Str, x ≠ "__name__" → mb x = bootBuiltins x) (hlim : hp.NoLimit)
    (hC : K.lookup C = some (excClassObj nm q C N bs bm true sn sub ab col dd k0 k1 k2 k3 k5 newId)) (hm : W.excTail bmB bm = true) (sa : W.findIn K (.ref C) "__setattr__" = some (some (.builtin "object.__setattr__"))) (hno : W.findIn K (.ref C) fld = some none)
    (lf : K.lookup fI = some ⟨oc, od, .func (W.ksFn name qual params body scope .none kV doc pm an (.ref cda) ct cc), osl⟩)
    (lcd : K.lookup cda = some ⟨ccl, cdd, .fields vs, ccs⟩) (hvs : vs[2]? = some (.str file tf)) (hfile : ((prog.main.file : Str) == file) = true) (hcdin : W.codeIn K (.ref cda) qual = true)
    (lcc : K.lookup cc = some ⟨cl, cld, .cell (some (.ref C)), csl⟩) (hsup : mg "super" = none) (hks : scope.names.lookup ("super" : Str) = some .globalImplicit) (hkc : scope.names.lookup ("__class__" : Str) = some .free) (hk : scope.kind = .function)
    (hself : scope.names.lookup selfN = some .local) (harg : scope.names.lookup argN = some .local) (hne : argN ≠ selfN) (hds : (selfN == ("__debug__" : Str)) = false) (hda : (argN == ("__debug__" : Str)) = false)
    (hpar : (params.posonlyargs ++ params.args).head? = some ar) (har : ar.arg = selfN) (hcell : ∀ x ∈ scope.names, x.2 ≠ .cell) (hco : scope.isCoroutine = false) (hgen : scope.isGenerator = false)
    (hbind : ∀ s, BindsTo s (W.ksFn name qual params body scope .none kV doc pm an (.ref cda) ct cc) ⟨[.ref a, v], []⟩ [(selfN, .ref a), (argN, v)])
    (htop : (prog.main.scope.names.lookup ("super" : Str)).isSome = false) (hop : W.nsIn K cStatics "thirdparty.any" = some none) (hal : W.ks_superIn K C C "__init__" = some (some (.builtin initId))) (hBs : W.subIn K (.ref C) (.type B) = some true)
    (hbody : body = [.Expr (.Call (.Attribute (.Call (.Name "super" p0) [] [] p1) "__init__" p2) [.Name argN p3] [] p4) p5, .Assign [.Attribute (.Name selfN p6) fld p7] (.Name argN p8) p9]) (hroom : A.depth < recursionLimit)
    (hi : ∀ L, interactive (W.ksEnv qual scope L fI (.ref cda) cc) = false) (hsw1 : ∀ L, swapsWith (.Call (.Attribute (.Call (.Name "super" p0) [] [] p1) "__init__" p2) [.Name argN p3] [] p4) none p5.line (W.ksEnv qual scope L fI (.ref cda) cc) = pure false)
    (hsw2 : ∀ L, swapsWith (.Name argN p8) (some (.Attribute (.Name selfN p6) fld p7)) p9.line (W.ksEnv qual scope L fI (.ref cda) cc) = pure false)
    (pl : Addr → Sem Bool) (hev : ∀ L, eval (.Call (.Attribute (.Call (.Name "super" p0) [] [] p1) "__init__" p2) [.Name argN p3] [] p4) (W.ksEnv qual scope L fI (.ref cda) cc) = (do
      let ov ← attributeBase (.Call (.Name "super" p0) [] [] p1) "__init__" (W.ksEnv qual scope L fI (.ref cda) cc) (eval (.Call (.Name "super" p0) [] [] p1) (W.ksEnv qual scope L fI (.ref cda) cc))
      standAt p2.atName
      let (f, first) ← holding [ov] (getMethod ov "__init__" (pl L))
      callWith p4 f first (backTo p4 (starEach [.Name argN p3] (W.ksEnv qual scope L fI (.ref cda) cc))) []))
    (ha : hp.get? a = some (HandSPX.excO C t0)) (hKa : K.lookup a = none)
    (hq : ∀ h' tk' dx t1, (∀ b o, b ≠ a → hp.get? b = some o → h'.get? b = some o) → hp.objs.size ≤ dx → dx ≠ a → h'.get? a = some { cls := .ref C, dict := some dx, data := .fields #[.ref t1, .none, .none, .none, .bool false, .none] } →
      h'.Ns1 dx (fun y => if y = fld then some v else none) → R (.ok (.ret .none)) ⟨h', g, d, tk', os⟩) :
    codeAny (model prog w) A (.call (.ref fI) ⟨[.ref a, v], []⟩) R ⟨hp, g, d, t, os⟩ := by
  subst hbody
  have FB := XF.ini
  have KF := XF.kf
  have ca : W.clsIn K C = some { name := nm, bases := bs, mro := .ref C :: bm, ns := N, qualname := q, hasDict := true, slotNames := sn, subclasses := sub, abstract := ab, collection := col, hasDel := false } := by unfold W.clsIn; rw [hC] <;> rfl
  refine PySem.ks_codeAny_call_defAt (fd := W.ksFn name qual params _ scope .none kV doc pm an (.ref cda) ct cc) (binds := [(selfN, .ref a), (argN, v)]) hroom (X _ _ lf) rfl hlim (W.codeRec_of X hcdin) rfl (hbind _) hcell ?_ (fun h₁ hns hk₁ => ?_) hco hgen hk
  · intro x hx
    rcases List.mem_cons.mp hx with rfl | hx
    · exact hself
    · rw [List.mem_singleton.mp hx]; exact harg
  have X₁ : K.In h₁ := X.keeps hk₁
  have hs1 : (([(selfN, Value.ref a), (argN, v)] : List (Str × Value)).reverse.lookup selfN) = some (.ref a) := by
    show List.lookup selfN [(argN, v), (selfN, Value.ref a)] = _
    rw [List.lookup_cons, show (selfN == argN) = false from by simpa using Ne.symm hne, List.lookup_cons, beq_self_eq_true]
  have hs2 : (([(selfN, Value.ref a), (argN, v)] : List (Str × Value)).reverse.lookup argN) = some v := by
    show List.lookup argN [(argN, v), (selfN, Value.ref a)] = _
    rw [List.lookup_cons, beq_self_eq_true]
  refine PySem.ks_wpAt_execs_cons ?_
  show _root_.PySem.wpAt _ _ _ (exec _ (W.ksEnv qual scope hp.objs.size fI (.ref cda) cc)) _ _ _
  refine PySem.ks_wpAt_Expr_any (PySem.ks_wpAt_MethodCall (pl := pl hp.objs.size) ?_ (hev _)) (hi _) (hsw1 _)
  have ha₁ : h₁.get? a = some (HandSPX.excO C t0) := hk₁ _ _ ha
  have I₁ : W.InstAt h₁ a (HandSPX.excO C t0) C none := ⟨ha₁, rfl, rfl, trivial⟩
  obtain ⟨hf1, hf2⟩ : (∃ oD, h₁.get? C = some oD ∧ oD.data = .cls { name := nm, bases := bs, mro := .ref C :: bm, ns := N, qualname := q, hasDict := true, slotNames := sn, subclasses := sub, abstract := ab, collection := col, hasDel := false }) ∧ True := ⟨⟨_, X₁ _ _ hC, rfl⟩, trivial⟩
  obtain ⟨oD, hD1, hD2⟩ := hf1
  have hsubC : W.mroIn K C (.ref C) = some true := by
    unfold W.mroIn
    rw [ca]
    simp
  refine PySem.ks_wpAt_super_base (env := W.ksEnv qual scope hp.objs.size fI (.ref cda) cc) hks hkc (by decide) rfl (X₁ _ _ lf) rfl hpar rfl (X₁ _ _ lcd) rfl hvs hfile htop ?_
  refine W.ks_loadName_global hk hks (Calls.loadGlobal_builtin (env := W.ksEnv qual scope hp.objs.size fI (.ref cda) cc) (hg.keeps hk₁) hsup (hb.keeps hk₁) ((hbb _ (by decide +kernel)).trans (by decide +kernel)) ⟨rfl, ?_⟩)
  refine wpAny_loadName_free hk hkc rfl ⟨_, X₁ _ _ lcc, rfl⟩ ?_
  rw [har]
  refine wpAny_loadName_local hk hself hns hs1 ?_
  refine ks_wpAny_isType_cls hD1 hD2 ⟨rfl, ?_⟩
  refine ks_wpAny_call_super hD1 hD2 ha₁ rfl (fun c e => by cases e) (W.looks_mroIn X₁ hsubC) (fun h₂ e₂ k₂ => ?_)
  have X₂ : K.In h₂ := X₁.keeps k₂
  have ha₂ := k₂ _ _ ha₁
  have I₂ : W.InstAt h₂ a (HandSPX.excO C t0) C none := ⟨ha₂, rfl, rfl, trivial⟩
  have hal' := hal
  unfold W.ks_superIn at hal'
  rw [ca] at hal'
  have mroL : ∀ {h : Heap}, K.In h → W.Looks (model prog w) h (mroOf (.ref C)) (.ref C :: bm) := fun Xh => (W.looks_clsIn Xh ca).andThen .now
  refine W.kxs_getMethod KF e₂ (W.looks_opaque X₂ hop) (mroL X₂) rfl X₂ hal' (I₂.type.andThen (W.looks_subIn X₂ hBs)) (W.ks_ne X₂ I₂ ca) rfl ?_
  have k₃ : ∀ y o, h₂.get? y = some o → (h₂.push (W.kxs_mw initId a)).get? y = some o := fun y o e => Heap.get?_push_of_some _ e
  have hu : (h₂.push (W.kxs_mw initId a)).get? h₂.objs.size = some (W.kxs_mw initId a) := Heap.get?_push_at rfl rfl
  have hns₃ := (hns.keeps k₂).keeps k₃
  refine W.kxs_callWith (i := initId) (x := a) (by rfl) (Calls.evalArgs_plain (Calls.spliced_cons (wpAny_Name (wpAny_loadName_local hk harg hns₃ hs2 (Calls.spliced_nil ⟨hu, ?_⟩)) hda)))
  refine call_mwI FB (X₂.keeps k₃ _ _ hC) (k₃ _ _ ha₂) hu (by show 1 ≤ sizeLine; decide) (fun h₄ t1 k₄ ha₄ => ?_)
  have nC : C ≠ a := fun z => by
    have e1 := X _ _ hC
    rw [z, ha] at e1
    cases e1
  have keepAll : ∀ b o, b ≠ a → hp.get? b = some o → h₄.get? b = some o := fun b o nb e => k₄ b o nb (k₃ _ _ (k₂ _ _ (hk₁ _ _ e)))
  have hL : hp.objs.size ≠ a := Ne.symm (Nat.ne_of_lt (Heap.lt_size ha))
  have X₄ : K.In h₄ := fun b o e => keepAll b o (fun z => by rw [z, hKa] at e; cases e) (X _ _ e)
  obtain ⟨oL, esL, epL, hoL, rL⟩ := hns₃
  have hns₄ : h₄.Ns hp.objs.size fun x => ([(selfN, Value.ref a), (argN, v)] : List (Str × Value)).reverse.lookup x := ⟨oL, esL, epL, k₄ _ _ hL hoL, rL⟩
  have sz₄ : hp.objs.size ≤ h₄.objs.size := Nat.le_of_lt (Heap.lt_size (k₄ _ _ hL hoL))
  show _root_.PySem.wpAt _ _ _ (execs _ (W.ksEnv qual scope hp.objs.size fI (.ref cda) cc)) _ _ _
  refine PySem.ks_wpAt_execs_cons (PySem.ks_wpAt_Assign_Attr (wpAt_of_wpAny (wpAny_Name (wpAny_loadName_local hk harg hns₄ hs2 (wpAny_Name (wpAny_loadName_local hk hself hns₄ hs1 ?_) hds)) hda)) (hsw2 _))
  refine W.set_plain X₄ (ox := HandSPX.excO C t1) (od := none) ⟨ha₄, rfl, rfl, trivial⟩ sa ?_
  refine osaT X₄ ha₄ ca (show W.excTail bmB (.ref C :: bm) = true from hm) XF.pass XF.ob rfl hno (fun h' tk' dx k₅ dn dne hx hn => ?_)
  show _root_.PySem.wpAt _ _ _ (execs [] (W.ksEnv qual scope hp.objs.size fI (.ref cda) cc)) _ _ _
  refine wpAt_of_wpAny ?_
  show wpAny _ _ (pure Flow.next) _ _ _
  refine wpAny_pure ?_
  exact hq h' tk' dx t1 (fun b o nb e => k₅ b o nb (keepAll b o nb e)) (Nat.le_trans sz₄ dn) dne hx hn
end
/-- what such an __init__ does, wherever there is room for it -/
def SupRun (prog : Program) (K : W.Frag) (mg : Str → Option Value) (C fI : Addr) (fld : Str) : Prop :=
  ∀ (w : World) (A : Around) (R : Result → Shared → Prop) (hp : Heap) (g : Array GenState) (d : Drawn) (t : Nat) (os : OsState) (mb : Str → Option Value) (a t0 : Addr) (v : Value),
    K.In hp → hp.Ns mainGlobals mg → hp.Ns builtinsNs mb → (∀ x : Str, x ≠ "__name__" → mb x = bootBuiltins x) → hp.NoLimit → A.depth < recursionLimit → hp.get? a = some (HandSPX.excO C t0) → K.lookup a = none →
    (∀ h' tk' dx t1, (∀ b o, b ≠ a → hp.get? b = some o → h'.get? b = some o) → hp.objs.size ≤ dx → dx ≠ a → h'.get? a = some { cls := .ref C, dict := some dx, data := .fields #[.ref t1, .none, .none, .none, .bool false, .none] } →
      h'.Ns1 dx (fun y => if y = fld then some v else none) → R (.ok (.ret .none)) ⟨h', g, d, tk', os⟩) →
    codeAny (model prog w) A (.call (.ref fI) ⟨[.ref a, v], []⟩) R ⟨hp, g, d, t, os⟩
section
variable {X : Cx} {C fI : Addr} {x fld : Str} {e : Expr} {te : TE} {p pos : Pos} {k : Nat}
theorem pmk_sup {B newId initId : String} {bmB : List Value} (XF : XFacts B newId initId bmB) (Tc : OexT X.K C newId bmB) (iC : W.findIn X.K (.ref C) "__init__" = some (some (.ref fI))) (tI : W.typeIn X.K (.ref fI) = some (.type "function")) (S : SupRun X.prog X.K X.mg C fI fld) (hr : Room (k + 1) X.A) (hg : Gl X x) (hm : X.mg x = some (.ref C)) (he : PE X e te)
    (hs : starEach [e] X.env = (false, eval e X.env) :: starEach [] X.env := by rfl) (hdb : (x == ("__debug__" : Str)) = false := by decide) :
    PMk X (.Call (.Name x p) [e] [] pos) (fun σ H Q => te σ H fun y H1 => ∀ dx, H1 dx = none → Q (.ref C) (some dx) (upd H1 dx (.xd [(fld, y)]))) := by
  intro pins s σ H Q I h
  obtain ⟨nm, q, N, bs, bm, sn, sub, ab, col, dd, k0, k1, k2, k3, k5, hC, hbm⟩ := Tc.cls
  obtain ⟨Z, iI, bmZ, FB, NT⟩ := XF.fb
  refine wpAny_Call_Name_kw (ld_glob I hg hm ?_ hdb)
  refine W.callWith_K (h₀ := X.base) I.ok.mod.kin Tc.kp ?_ hs (by rfl)
  rw [hs]
  show wpAny _ _ (spliced ((false, eval e X.env) :: backTo pos (starEach [] X.env))) _ _ s
  refine Calls.spliced_cons (thn (he.run pins s σ H _ I h) fun u s1 ⟨y, H1, I1, ry, q1⟩ => ?_)
  refine Calls.spliced_nil ⟨I1.kIn, ?_⟩
  show wpAny _ _ (call (.ref C) [u]) _ _ _
  obtain ⟨hp, g, dr, tk, os⟩ := s1
  have kk : ∀ b o, hp.get? b = some o → ((hp.push (W.kdv_tup [u])).push (HandSPX.excO C hp.objs.size)).get? b = some o := fun b o e => Heap.get?_push_of_some _ (Heap.get?_push_of_some _ e)
  have hget : ((hp.push (W.kdv_tup [u])).push (HandSPX.excO C hp.objs.size)).get? (hp.objs.size + 1) = some (HandSPX.excO C hp.objs.size) := by heap_get
  have gone : hp.get? (hp.objs.size + 1) = none := by
    cases e1 : hp.get? (hp.objs.size + 1) with
    | none => rfl
    | some o => exact absurd (Heap.lt_size e1) (Nat.not_lt.mpr (Nat.le_succ _))
  have hKa : X.K.lookup (hp.objs.size + 1) = none := by
    cases e1 : X.K.lookup (hp.objs.size + 1) with
    | none => rfl
    | some o =>
      have e2 := I1.kIn _ _ e1
      rw [gone] at e2; cases e2
  obtain ⟨mb, b1, b2⟩ := I1.mod.blt
  refine wpAny_call (make_run FB (NT.tail hbm) (I1.kIn _ _ hC) (W.looks_findIn I1.kIn iC) (fun self => W.bind_fn I1.kIn self tI) (by show 1 ≤ sizeLine; decide) ?_)
  refine S _ _ _ _ _ _ _ _ mb (hp.objs.size + 1) hp.objs.size u (I1.kIn.keeps kk) ((I1.mod.glob.keeps I1.bk).keeps kk) ((b1.keeps I1.bk).keeps kk) b2 ((I1.mod.nolimit.keeps I1.bk).keeps kk) ((hr.make C [u] []).depth) hget hKa (fun h' tk' dx t1 keep sz ne ha' hn => ?_)
  have szdx : hp.objs.size ≤ dx := Nat.le_trans (show hp.objs.size ≤ ((hp.push (W.kdv_tup [u])).push (HandSPX.excO C hp.objs.size)).objs.size by rw [Heap.size_push, Heap.size_push]; exact Nat.le_add_right _ 2) sz
  have ndx : H1 dx = none := I1.hok.fresh szdx
  obtain ⟨G, g1, g2⟩ := restrict h' fun b => decide (b ≠ hp.objs.size + 1)
  have gk : ∀ b, b ≠ hp.objs.size + 1 → G.get? b = h'.get? b := fun b hb => g1 b (decide_eq_true hb)
  have ge : G.get? (hp.objs.size + 1) = none := g2 _ (by simp)
  have gg : ∀ b o, G.get? b = some o → h'.get? b = some o := fun b o e => by
    by_cases hb : b = hp.objs.size + 1
    · rw [hb, ge] at e; cases e
    · rw [← gk b hb]; exact e
  have ka : ∀ b o, hp.get? b = some o → G.get? b = some o := fun b o e => by
    have nb : b ≠ hp.objs.size + 1 := fun z => by rw [z, gone] at e; cases e
    rw [gk b nb]
    exact keep b o nb (kk b o e)
  obtain ⟨oD, esD, epD, hD1, hD2, hD3⟩ := hn
  have I2 : Inv X pins σ (upd H1 dx (.xd [(fld, y)])) ⟨G, g, dr, tk', os⟩ := I1.laid (t' := tk') (a := dx) (o := .xd [(fld, y)]) (h' := G) ka szdx
    ⟨_, ⟨oD, esD, epD, by rw [gk dx ne]; exact hD1, hD2, hD3⟩, relO_put (fs := []) ry fun _ => True.intro⟩
  exact ⟨rfl, hp.objs.size + 1, _, _, ⟨G, g, dr, tk', os⟩, _, .ref C, some dx, rfl, I2, gg, ge, ha', ⟨rfl, rfl⟩, rfl, rfl, by rw [upd_ne (Ne.symm ne)]; exact I1.hok.fresh (Nat.le_succ _), rfl, I1.bare, raises_own Tc.bx Tc.ty, q1 dx ndx⟩
end
/-- an own exception class with such an __init__ -/
structure XCls (prog : Program) (K : W.Frag) (mg : Str → Option Value) (C : Addr) (fld : Str) : Prop where
  o : ∃ B newId initId bmB, XFacts B newId initId bmB ∧ OexT K C newId bmB
  ex : ∃ fI, W.findIn K (.ref C) "__init__" = some (some (.ref fI)) ∧ W.typeIn K (.ref fI) = some (.type "function") ∧ SupRun prog K mg C fI fld
section
variable {X : Cx} {T : TX X} {ρ : Rho} {C : Cells} {N : TEnds} {e : Expr} {p pos pos' : Pos} {x fld : Str} {Cl : Addr} {k : Nat}
/-- raise C(e) -/
theorem ws_raise (hx : XCls X.prog X.K X.mg Cl fld) (hr : RoomG (k + 1) X.A) (hg : Gl X x) (hm : X.mg x = some (.ref Cl)) (h : WE T e ρ C fun d C1 => T.XQ (.ref Cl) (some ([fld], [d])) ρ C1)
    (hs : starEach [e] X.env = (false, eval e X.env) :: starEach [] X.env := by rfl) (hdb : (x == ("__debug__" : Str)) = false := by decide) (hc : X.calm = true := by rfl) :
    WS T (.Raise (some (.Call (.Name x p) [e] [] pos)) none pos') ρ C N := by
  obtain ⟨fI, i1, i2, S⟩ := hx.ex
  obtain ⟨B, newId, initId, bmB, XF, Ox⟩ := hx.o
  refine PS.imp (ps_raise hc T.tk (pmk_sup XF Ox i1 i2 S hr.rm hg hm h hs hdb)) fun Dn σ H ⟨H0, at_, _⟩ => ⟨H0, at_, fun v d C1 H1 H01 p1 c1 r1 q dx hdx => ?_⟩
  obtain ⟨p2, c2⟩ := stp_new (o := .xd [(fld, v)]) c1 hdx
  have a2 := (at_.step p1 c1).step p2 c2
  exact ⟨some ([fld], [d]), ρ, C1, _, a2.a, a2.c, a2.s, a2.l, ⟨[v], upd_same, rfl, Reps.cons (r1.mono p2.base) Reps.nil⟩, q⟩
end
theorem xf_ValueError : XFacts "ValueError" "ValueError.__new__" "ValueError.__init__" [.type "ValueError", .type "Exception", .type "BaseException", .type "object"] := ⟨⟨_, _, _, PySem.F.excBase_ValueError, by decide +kernel, by decide +kernel, by decide +kernel⟩, .of PySem.F.excBase_ValueError.toExcCallFacts, W.kxs_ValueError, fun self => F.store_ValueError.passes self, by decide +kernel⟩
theorem xf_IndexError : XFacts "IndexError" "IndexError.__new__" "IndexError.__init__" [.type "IndexError", .type "LookupError", .type "Exception", .type "BaseException", .type "object"] := ⟨⟨_, _, _, PySem.F.excBase_IndexError, by decide +kernel, by decide +kernel, by decide +kernel⟩, .of PySem.F.excBase_IndexError.toExcCallFacts, W.kxs_IndexError, fun self => PySem.F.store_IndexError.passes self, by decide +kernel⟩
theorem ini_KeyError : IniF "KeyError" "KeyError.__init__" := ⟨by decide +kernel, entryFor_alias (id' := "BaseException.__init__") (by rw [fastTable_eq_tree]; kernel_rfl) (by first | rfl | decide +kernel) (by decide +kernel) (by rw [fastTable_eq_tree]; kernel_rfl), by decide +kernel, by kernel_rfl, by decide +kernel⟩
theorem kxs_KeyError : W.KxsFacts "KeyError" "KeyError.__init__" := ⟨by show builtinType _ = _; rw [builtinType_eq_fast]; kernel_rfl, by first | rfl | kernel_rfl⟩
theorem xf_KeyError : XFacts "KeyError" "LookupError.__new__" "KeyError.__init__" [.type "KeyError", .type "LookupError", .type "Exception", .type "BaseException", .type "object"] := ⟨⟨_, _, _, PySem.F.excBase_LookupError, by decide +kernel, by decide +kernel, by decide +kernel⟩, ini_KeyError, kxs_KeyError, fun self => by kernel_rfl, by decide +kernel⟩
end Tr

set_option maxHeartbeats 4000000
namespace Tr
open PySem L2 PySem.Spec PyProof.Rows

/-! ### try: .. except x as n: .. -/
theorem ExcR.step {K : W.Frag} {H0 H H0' H' : Hp} {C C' : Cells} {d : Option Addr} {fs : XF} (h : ExcR K H0 H d fs) (c : CellsR K H0 C H) (p : Stp H0 C H H0' C' H') : ExcR K H0' H' d fs := by
  cases d with
  | none => cases fs with
    | none => exact True.intro
    | some f => exact h
  | some dd => cases fs with
    | none => exact h
    | some f =>
      obtain ⟨ns, ds⟩ := f
      obtain ⟨vs, h1, h2, h3⟩ := h
      refine ⟨vs, p.fr dd _ h1 fun ⟨x, hx⟩ => ?_, h2, h3.mono p.base⟩
      have ok := c.ok dd x hx
      cases x with
      | lst ds => obtain ⟨_, e, _⟩ := ok; rw [h1] at e; cases e
      | dK ks ds => obtain ⟨_, e, _⟩ := ok; rw [h1] at e; cases e
      | ins Cl ns ds => obtain ⟨_, _, e, _⟩ := ok; rw [h1] at e; cases e
section
variable {X : Cx} {T : TX X} {ρ : Rho} {C : Cells} {N : TEnds} {Q : QE} {e : Expr} {pos pos' np : Pos} {x n : Str} {c : Value} {i : Nat} {body suite : List Stmt} {b₀ : Stmt} {XQ' : Value → XF → Rho → Cells → Prop}
/-- the body of a try, wherever it stands -/
def tbT (T : TX X) (XQ' : Value → XF → Rho → Cells → Prop) (ρ : Rho) (C : Cells) (N : TEnds) (W : WX) : TS := fun D σ H => ∃ H0, At T H0 ρ C σ H ∧ Tail X H0 C H N D ∧
  ∀ cls d σ' H' fs ρ' C' H0', Stp H0 C H H0' C' H' → CellsR X.K H0' C' H' → SlotsR X.K H0' ρ' σ' → ρ'.length = σ'.length → ExcR X.K H0' H' d fs → XQ' cls fs ρ' C' → W cls d σ' H'
/-- the suite, whatever the exception's object -/
def tsT (X : Cx) (st : List Stmt) (a : Addr) (cls : Value) (d : Option Addr) : TS := fun D σ H => ∃ (fs : XF) (ρ' : Rho) (C' : Cells) (H0' : Hp) (N' : TEnds), CellsR X.K H0' C' H ∧ SlotsR X.K H0' ρ' σ ∧ ρ'.length = σ.length ∧ ExcR X.K H0' H d fs ∧ Tail X H0' C' H N' D ∧
  ∀ (oe : Obj) (pn : List (Addr × Obj)) (T' : TX (X.suite a ((a, oe) :: pn))), Zc cls d oe → (∃ vs, oe.data = .fields vs) → (∀ H0 C H, T'.A H0 C H → ExcR X.K H0 H d fs) → WSs T' st ρ' C' N'
theorem ws_try (hs : X.stack = X.env :: X.outer) (hf : X.env.frame = some X.env.locals) (hN : X.N.Nodup) (hi : X.N[i]? = some n) (hln : X.env.kindOf n = some .local) (hc : Names X x c) (XQ' : Value → XF → Rho → Cells → Prop)
    (hb : ∀ (pn : List (Addr × Obj)) (xe : Value → Shared → Prop) (T' : TX (X.tr pn xe)), T'.XQ = XQ' → WSs T' body ρ C N)
    (hh : ∀ cls fs ρ' C', XQ' cls fs ρ' C' → ∃ b, W.exmOne X.K cls c = some b ∧ (b = false → T.XQ cls fs ρ' C') ∧
      (b = true → ∀ (a : Addr) (oe : Obj) (d : Option Addr) (pn : List (Addr × Obj)) (T' : TX (X.suite a ((a, oe) :: pn))), Zc cls d oe → (∃ vs, oe.data = .fields vs) → (∀ H0 C H, T'.A H0 C H → ExcR X.K H0 H d fs) →
        WSs T' (b₀ :: suite) (ρ'.set i (some (.raw (.ref a)))) C' { nx := fun ρ C => N.nx (ρ.set i none) C, rt := N.rt, bk := fun ρ C => N.bk (ρ.set i none) C, ct := fun ρ C => N.ct (ρ.set i none) C })) :
    WS T (.Try body [.ExceptHandler (some (.Name x np)) (some n) (b₀ :: suite) pos'] [] [] pos) ρ C N := by
  refine PS.imp (ps_try_as (ts := tsT X (b₀ :: suite)) (tb := tbT T XQ' ρ C N) hs hf hN hi hln hc T.tk (fun W pn xe tkW pass => ⟨fun pins s σ H D I ⟨H0, at_, k, imp⟩ => ?_⟩) (fun a oe cls d pn hz hfl => ⟨fun pins s σ H D I ⟨fs, ρ', C', H0', N', cc, sl, l, ex, k, w⟩ => ?_⟩)) fun D σ H ⟨H0, at_, k⟩ => ⟨H0, at_, k, fun cls d σ' H' fs ρ' C' H0' p cc s l ex xq => ?_⟩
  · have T' : TX (X.tr pn xe) := { A := fun H0' C' H' => Stp H0 C H H0' C' H', up := fun a c p _ => a.trans c p, XQ := XQ', tk := tkW.imp fun cls d σ' H' ⟨fs, ρ', C', H0', a, c, s, l, ex, q⟩ => imp cls d σ' H' fs ρ' C' H0' a c s l ex q, pass := pass }
    exact (hb pn xe { A := fun H0' C' H' => Stp H0 C H H0' C' H', up := fun a c p _ => a.trans c p, XQ := XQ', tk := tkW.imp fun cls d σ' H' ⟨fs, ρ', C', H0', a, c, s, l, ex, q⟩ => imp cls d σ' H' fs ρ' C' H0' a c s l ex q, pass := pass } rfl).run pins s σ H D I ⟨H0, ⟨Stp.refl _ _ _, at_.c, at_.s, at_.l⟩, ⟨k.nx, k.rt, k.bk, k.ct⟩⟩
  · exact (w oe pn { A := fun H0 _ H => ExcR X.K H0 H d fs, up := fun h c p _ => h.step c p, XQ := fun _ _ _ _ => False, tk := fun u s' ⟨_, _, _, _, _, _, _, _, _, _, _, _, _, _, _, _, w⟩ => (let ⟨_, _, _, _, _, _, _, _, _, q⟩ := w; q), pass := PassesOwn.never } hz hfl fun _ _ _ h => h).run pins s σ H D I ⟨H0', ⟨ex, cc, sl, l⟩, ⟨k.nx, k.rt, k.bk, k.ct⟩⟩
  · obtain ⟨b, h1, h2, h3⟩ := hh cls fs ρ' C' xq
    refine ⟨b, h1, fun hb1 a ha => ?_, fun hb0 => ⟨fs, ρ', C', H0', T.up at_.a at_.c p cc, cc, s, l, ex, h2 hb0⟩⟩
    have k' := k.after p cc
    have un : ∀ {Q : QS} {R : L2.St → Hp → Prop}, ContS X H0' C' H' Q R → ContS X H0' C' H' (fun ρ C => Q (ρ.set i none) C) (fun σ H => R (σ.set i none) H) := fun kk ρ1 σ1 C1 H1 H01 p1 c1 s1 l1 q1 =>
      kk _ _ C1 H1 H01 p1 c1 (SlotsR.unset i s1) (by rw [List.length_set, List.length_set]; exact l1) q1
    exact ⟨fs, ρ'.set i (some (.raw (.ref a))), C', H0', { nx := fun ρ C => N.nx (ρ.set i none) C, rt := N.rt, bk := fun ρ C => N.bk (ρ.set i none) C, ct := fun ρ C => N.ct (ρ.set i none) C }, cc, SlotsR.set i s rfl l, by rw [List.length_set, List.length_set]; exact l, ex, ⟨un k'.nx, k'.rt, un k'.bk, un k'.ct⟩, fun oe pn T' hz hfl hA => h3 hb1 a oe d pn T' hz hfl hA⟩
end
section
variable {X : Cx} {a Cl : Addr} {oe : Obj} {d : Option Addr} {pn : List (Addr × Obj)} {T' : TX (X.suite a ((a, oe) :: pn))} {ρ : Rho} {C : Cells} {Q : QE} {e : Expr} {pos : Pos} {n : Str} {ns : List Str} {ds : List D}
/-- e.f of the exception that is held -/
theorem we_xf (Tx : XfC X.K Cl) (hno : W.findIn X.K (.ref Cl) n = some none) (hz : Zc (.ref Cl) d oe) (hfl : ∃ vs, oe.data = .fields vs) (hA : ∀ H0 C H, T'.A H0 C H → ExcR X.K H0 H d (some (ns, ds)))
    (h : WE T' e ρ C fun d1 C1 => d1 = .raw (.ref a) ∧ ∃ y, (ns.zip ds).lookup n = some y ∧ Q y C1) (hb : attributeBase e n X.env (eval e X.env) = eval e X.env := by rfl) : WE T' (.Attribute e n pos) ρ C Q :=
  PE.imp (pe_xf Tx hno hz hfl h hb) fun σ H R ⟨H0, at_, k⟩ => ⟨H0, at_, fun v d1 C1 H1 H01 p1 c1 r1 ⟨e1, y, hl, q⟩ => by
    subst e1
    have at1 := at_.step p1 c1
    have ex := hA _ _ _ at1.a
    cases d with
    | none => exact ex.elim
    | some dd =>
      obtain ⟨vs, h1, h2, h3⟩ := ex
      obtain ⟨v', g1, g2⟩ := lookup_zip h3 h2 hl
      exact ⟨r1, rfl, dd, _, v', rfl, h1, g1, k v' y C1 H1 H01 p1 c1 g2 q⟩⟩
end
section
variable {X : Cx} {a Cl : Addr} {oe : Obj} {d : Option Addr} {pn : List (Addr × Obj)} {T' : TX (X.suite a ((a, oe) :: pn))} {ρ : Rho} {C : Cells} {Q : QE} {e c : Expr} {p pos : Pos} {fs : XF}
/-- isinstance of the exception that is held, with fields or without -/
theorem call_isX (G : ExcC X.K Cl) (hz : Zc (.ref Cl) d oe) (hf : ∃ vs, oe.data = .fields vs) : CallR (X.suite a ((a, oe) :: pn)) (.builtin "isinstance")
    (fun xs H Q => ∃ (c : V) (cv : Value) (b : Bool), xs = [.ref a, c] ∧ ClsV c cv ∧ W.kitOne X.K (.ref Cl) cv = some b ∧ (∀ dd, d = some dd → ∃ gs, H dd = some (.xd gs)) ∧ Q (.bl b) H) := by
  intro pins s σ H xs us Q I r h
  obtain ⟨c, cv, b, rfl, hcv, e, hd, q⟩ := h
  obtain ⟨u1, u2, rfl, r1, r2⟩ := vals2 r
  cases (show u1 = Value.ref a from r1)
  have ec := hcv.eq r2
  subst ec
  obtain ⟨hget, _⟩ := I.pin (a, oe) (List.mem_append.mpr (.inl List.mem_cons_self))
  obtain ⟨vs, hv⟩ := hf
  obtain ⟨oc, od, oda, osl⟩ := oe
  obtain ⟨h1, h2⟩ := hz
  dsimp only at h1 h2 hv
  subst h1 h2 hv
  obtain ⟨ob, J⟩ : ∃ ob, W.InstAt s.heap a ⟨.ref Cl, od, .fields vs, osl⟩ Cl ob := by
    cases od with
    | none => exact ⟨none, hget, rfl, rfl, trivial⟩
    | some dd =>
      obtain ⟨gs, hg⟩ := hd dd rfl
      have hx : ObjOk X.prog X.w H s.heap dd (.xd gs) := I.hok dd _ hg
      obtain ⟨mA, hns, _⟩ := hx
      obtain ⟨ob, ho, _⟩ := lookIn_ns hns
      exact ⟨some ob, hget, rfl, rfl, ho⟩
  exact W.kia_one (W.kitx_exc (by obtain ⟨cd, hc, _⟩ := PySem.W.any_some G.hd; rw [hc]; rfl) G.hg G.hk G.hs G.ha G.hn G.ht G.hm) I.kIn J e (fun z => nomatch z) fun tk => ⟨.bl b, H, I.tok tk, rfl, q⟩
theorem we_isX {u : Value} {b : Bool} (G : ExcC X.K Cl) (hz : Zc (.ref Cl) d oe) (hfl : ∃ vs, oe.data = .fields vs) (hA : ∀ H0 C H, T'.A H0 C H → ExcR X.K H0 H d fs) (hk : W.kitOne X.K (.ref Cl) u = some b) (hg : Gl X "isinstance") (hm : X.mg "isinstance" = none)
    (h : WA T' [e, c] ρ C fun ds C1 => ∃ d2, ds = [.raw (.ref a), d2] ∧ ClsD d2 u ∧ Q (.bl b) C1)
    (he : starEach [e, c] X.env = (false, eval e X.env) :: starEach [c] X.env := by rfl) (hpl : (backTo pos (starEach [c] X.env)).any (·.1) = false := by rfl) :
    WE T' (.Call (.Name "isinstance" p) [e, c] [] pos) ρ C Q :=
  PE.imp (pe_callB (call_isX G hz hfl) hg hm (by rfl) h (by decide) (by decide) he hpl) fun σ H R ⟨H0, at_, k⟩ => ⟨H0, at_, fun vs ds C1 H1 H01 p1 c1 r1 q1 => by
    obtain ⟨d2, e1, hc, q⟩ := q1
    subst e1
    have at1 := at_.step p1 c1
    have ex := hA _ _ _ at1.a
    obtain ⟨v, w, e1, r2, r3⟩ := r1.two
    subst e1
    cases r2
    refine ⟨w, u, b, rfl, cls_at r3 hc, hk, fun dd hd => ?_, k (.bl b) (.bl b) C1 H1 H01 p1 c1 rfl q⟩
    subst hd
    cases fs with
    | none => exact ex.elim
    | some f => obtain ⟨vs, h1, _⟩ := ex; exact ⟨_, h1⟩⟩
end
end Tr

set_option maxHeartbeats 4000000
namespace Tr
open PySem L2 PySem.Spec PyProof.Rows
theorem iteP {c : Prop} [Decidable c] {A B : Prop} (h : c) (a : A) : if c then A else B := by rw [if_pos h]; exact a
theorem iteN {c : Prop} [Decidable c] {A B : Prop} (h : ¬ c) (b : B) : if c then A else B := by rw [if_neg h]; exact b
section
variable {X : Cx} {T : TX X} {ρ : Rho} {C : Cells} {N : TEnds} {st : Stmt}
theorem ws_part {C' r : Cells} (pm : C.Perm (C' ++ r)) (h : WS T st ρ C' N) : WS T st ρ C N :=
  PS.imp h fun Dn σ H ⟨H0, at_, k⟩ => let ⟨p, c⟩ := stp_part at_.c pm; ⟨H0, at_.step p c, k.after p c⟩
theorem ws_perm {C' : Cells} (pm : C.Perm C') (h : WS T st ρ C' N) : WS T st ρ C N := ws_part (r := []) (by rw [List.append_nil]; exact pm) h
/-- two ways that come together -/
theorem ite_join {k : Bool} {a b : Expr} {Q : QE} (J : QE) (h1 : k = true → WE T a ρ C J) (h2 : k = false → WE T b ρ C J) (h : ∀ d C', J d C' → Q d C') : if k = true then WE T a ρ C Q else WE T b ρ C Q := by
  cases k with
  | true => exact (h1 rfl).mono h
  | false => exact (h2 rfl).mono h
theorem kit_tyF {K : W.Frag} {C : Addr} {U : String} {b : Bool} (ss : W.subIn K (.ref C) (.type U) = some b) (m : W.kitMeta U = true) : W.kitOne K (.ref C) (.type U) = some b := by
  unfold W.kitOne
  rw [if_neg (by intro h; cases h)]
  unfold W.kitCls
  simp only [m, ss]
  rfl
theorem cutL_to {α : Type} {l : List α} {k : Int} (h0 : 0 ≤ k) : cutL l none (some k) = l.take k.toNat := by
  obtain ⟨n, rfl⟩ := Int.eq_ofNat_of_zero_le h0
  unfold cutL
  rw [HT.sIx_nat, HT.sIx_none, Int.toNat_natCast]
  simp
theorem cutL_from {α : Type} {l : List α} {k : Int} (h0 : 0 ≤ k) : cutL l (some k) none = l.drop k.toNat := by
  obtain ⟨n, rfl⟩ := Int.eq_ofNat_of_zero_le h0
  unfold cutL
  rw [HT.sIx_nat, HT.sIx_none, Int.toNat_natCast]
  by_cases h : n ≤ l.length
  · rw [Nat.min_eq_left h, List.take_of_length_le (by simp)]
  · rw [Nat.min_eq_right (by omega)]
    simp [List.drop_eq_nil_of_le (show l.length ≤ n by omega)]
theorem cutD_to {l : List D} {k : Int} (h0 : 0 ≤ k) : cutD l none (some k) = l.take k.toNat := cutL_to h0
theorem cutD_from {l : List D} {k : Int} (h0 : 0 ≤ k) : cutD l (some k) none = l.drop k.toNat := cutL_from h0
end
end Tr

set_option maxHeartbeats 4000000
namespace Tr
open PySem L2 PySem.Spec PyProof.Rows
section
variable {X : Cx} {T : TX X} {ρ : Rho} {C : Cells} {Q : QE} {e a o : Expr} {es rest : List Expr} {pos apos p : Pos} {v1 v2 : Expr}

/-! ### a list or a tuple, walked -/
theorem pi_seq {tg l : Expr} {tl : TE} (hl : PE X l tl) : PI X tg l (fun σ H R => tl σ H fun x H1 => ∃ a xs, x = .ref a ∧ ((SqL X.K H1 a xs ∧ R (Itl X.K a) H1) ∨ (SqT X.K H1 a xs ∧ R (Itt X.K a) H1))) := by
  refine ⟨fun pins s σ H R I h => ?_⟩
  refine thn (hl.run pins s σ H _ I h) fun v s1 ⟨x, H1, I1, r1, a, xs, e, q1⟩ => ?_
  subst e
  cases r1
  have fpk : ∀ b ∈ [s1.heap.objs.size], FpOk X pins H1 b := fun b hb => by
    have e : b = s1.heap.objs.size := by simpa using hb
    subst e
    exact I1.fpOk (Nat.le_refl _) (I1.hok.fresh (Nat.le_refl _))
  rcases q1 with ⟨hq, q⟩ | ⟨hq, q⟩
  · obtain ⟨its, rv, p, hz⟩ := I1.list hq
    refine wpAny_pyIter_list p.isList ?_
    exact ⟨s1.heap.objs.size, [s1.heap.objs.size], _, _, H1, rfl, I1.kept (t' := s1.toks) fun b o e => Heap.get?_push_of_some _ e, turn_list a _, ⟨_, Heap.get?_push_size _ rfl, rfl, rfl⟩, fpk, q⟩
  · obtain ⟨its, rv, p, hz⟩ := I1.tuple hq
    refine wpAny_pyIter_tuple (show s1.heap.IsTuple a its.toArray from p) ?_
    exact ⟨s1.heap.objs.size, [s1.heap.objs.size], _, _, H1, rfl, I1.kept (t' := s1.toks) fun b o e => Heap.get?_push_of_some _ e, turn_tuple a _, ⟨_, Heap.get?_push_size _ rfl, rfl, rfl⟩, fpk, q⟩
theorem wi_seq {tg : Expr} {Q : QI} (h : Tr.WE T e ρ C fun d C1 => ∃ ds, SeqD C1 d ds ∧ Q ds (fun C' => SeqD C' d ds) C1) : WI T tg e ρ C Q := by
  refine PI.imp (pi_seq h) fun σ H R ⟨H0, at_, k⟩ => ⟨H0, at_, fun v d C1 H1 H01 p1 c1 r1 ⟨ds, hq, q⟩ => ?_⟩
  rcases hq with (e1 | ⟨z, e1, hz⟩) | e1
  · subst e1
    obtain ⟨a, vs, e2, g1, g2⟩ := r1
    subst e2
    exact ⟨a, vs, rfl, .inl ⟨Same.sqL c1.same g1, k _ _ _ C1 H1 H01 p1 c1 ((yields_list g1 g2).weak fun _ _ => trivial) q⟩⟩
  · subst e1
    obtain rfl : v = .ref z := r1
    obtain ⟨vs, g1, g2⟩ := c1.ok z _ hz
    refine ⟨z, vs, rfl, .inl ⟨.inl (.inl g1), k _ _ _ C1 H1 H01 p1 c1 (yields_cell.weak fun C' h => ?_) q⟩⟩
    rcases h with (h | ⟨z', h, hm⟩) | h
    · cases h
    · cases h; exact hm
    · cases h
  · subst e1
    obtain ⟨a, vs, e2, g1, g2⟩ := r1
    subst e2
    exact ⟨a, vs, rfl, .inr ⟨Same.sqT c1.same g1, k _ _ _ C1 H1 H01 p1 c1 ((yields_tup g1 g2).weak fun _ _ => trivial) q⟩⟩
theorem cw_allM {xs : List D} {f : D → Bool} (hc : X.calm = true) (q : Q (.bl (xs.all f)) C) : CW T (.builtin "all") [.lst (xs.map fun d => .bl (f d))] C Q := by
  rw [show xs.map (fun d => D.bl (f d)) = (xs.map f).map D.bl by rw [List.map_map]; rfl]
  refine cw_all hc ?_
  rw [List.all_map]
  exact q
/-! ### f-strings -/
def WJ (T : TX X) (es : List Expr) (acc : Str) (ρ : Rho) (C : Cells) (Q : Str → Cells → Prop) : Prop :=
  ∀ pins (s : Shared) σ H H0 (R : Str → Shared → Prop), acc.length ≤ sizeLine → L2.Inv X pins σ H s → At T H0 ρ C σ H →
    (∀ out s1 C1 H1 H01, Stp H0 C H H01 C1 H1 → CellsR X.K H01 C1 H1 → out.length ≤ sizeLine → L2.Inv X pins σ H1 s1 → Q out C1 → R out s1) → Joins (model X.prog X.w) X.A X.xe (evalEach es X.env) acc R s
theorem wj_nil {acc : Str} {Q : Str → Cells → Prop} (q : Q acc C) : WJ T [] acc ρ C Q := by
  intro pins s σ H H0 R hz I at_ k
  have e0 : evalEach [] X.env = [] := by first | rfl | simp [evalEach]
  rw [e0]
  exact k acc s C H H0 (Stp.refl _ _ _) at_.c hz I q
theorem wj_cons {acc : Str} {Q : Str → Cells → Prop} (h : Tr.WE T e ρ C fun d C1 => ∃ y : Str, d = .str y ∧ (acc ++ y).length ≤ 100000 ∧ WJ T es (acc ++ y) ρ C1 Q) : WJ T (e :: es) acc ρ C Q := by
  intro pins s σ H H0 R hz I at_ k
  have e0 : evalEach (e :: es) X.env = eval e X.env :: evalEach es X.env := by first | rfl | simp [evalEach]
  rw [e0]
  refine thn (h.run pins s σ H (fun v H1 => ∃ y C1 H01, v = .str y ∧ (acc ++ y).length ≤ 100000 ∧ WJ T es (acc ++ y) ρ C1 Q ∧ Stp H0 C H H01 C1 H1 ∧ At T H01 ρ C1 σ H1) I ⟨H0, at_, fun v d C1 H1 H01 p1 c1 r1 ⟨y, e1, hl, w⟩ => by
    subst e1; cases r1; exact ⟨y, C1, H01, rfl, hl, w, p1, at_.step p1 c1⟩⟩) fun v s1 hv => ?_
  obtain ⟨x, H1, I1, r1, y, C1, H01, rfl, hy, w, p1, at1⟩ := hv
  obtain ⟨tk, rfl⟩ := r1
  exact ⟨y, tk, rfl, Nat.le_trans hy (show 100000 ≤ sizeLine by decide), w pins s1 σ H1 H01 R (Nat.le_trans hy (show 100000 ≤ sizeLine by decide)) I1 at1 fun out s2 C2 H2 H02 p2 c2 hz2 I2 q2 => k out s2 C2 H2 H02 (p1.trans at1.c p2) c2 hz2 I2 q2⟩
theorem we_joined (h : WJ T (v1 :: v2 :: rest) Str.empty ρ C fun out C1 => Q (.str out) C1) : Tr.WE T (.JoinedStr (v1 :: v2 :: rest) pos) ρ C Q := by
  refine ⟨fun pins s σ H R I ⟨H0, at_, k⟩ => ?_⟩
  exact wpAny_JoinedStr (h pins s σ H H0 _ (Nat.zero_le _) I at_ fun out s1 C1 H1 H01 p1 c1 hz I1 q1 => ⟨hz, .str out, H1, I1.tok _, ⟨_, rfl⟩, k _ (.str out) C1 H1 H01 p1 c1 rfl q1⟩)
theorem we_joined1 (h : Tr.WE T e ρ C Q) : Tr.WE T (.JoinedStr [e] pos) ρ C Q := pe_joined1 h
/-- {x}: a text, an int -/
theorem we_fmt (h : Tr.WE T e ρ C fun d C1 => (∃ y : Str, d = .str y ∧ y.length ≤ 100000 ∧ Q (.str y) C1) ∨ ∃ i : Int, d = .int i ∧ i.natAbs.log2 < 1920 ∧ Q (.str (toString i)) C1) : Tr.WE T (.FormattedValue e (-1) none pos) ρ C Q :=
  PE.imp (pe_fmt h) fun σ H R ⟨H0, at_, k⟩ => ⟨H0, at_, fun v d C1 H1 H01 p1 c1 r1 q1 => by
    rcases q1 with ⟨y, e1, hl, q⟩ | ⟨i, e1, hl, q⟩
    · subst e1; cases r1
      exact .inl ⟨y, rfl, Nat.le_trans hl (show 100000 ≤ sizeLine by decide), k _ (.str y) C1 H1 H01 p1 c1 rfl q⟩
    · subst e1; cases r1
      exact .inr ⟨i, rfl, hl, k _ (.str _) C1 H1 H01 p1 c1 rfl q⟩⟩

/-! ### classmethods -/
theorem run_TC {k : Nat} {f : Addr} {fd : FuncData} {ps : List Str} {F : FS} {dvs : List V} {dds : List D} {dus : List Value} {pins : List (Addr × Obj)} {σ : L2.St} {H H0 : Hp} {s : Shared} {R : VK} {us : List Value} {vs : List V} {ds : List D} (Fk : FnG X.prog X.w X.K X.mg X.base k f fd ps F) (hr : RoomG k X.A) (hb : Binds X.K fd ps dus) (hd : Vals dvs dus) (hdd : ∀ H, Reps X.K H dds dvs)
    (I : L2.Inv X pins σ H s) (rv : Vals vs us) (at_ : At T H0 ρ C σ H) (r : Reps X.K H0 ds vs) (h : Asks T F ρ (ds ++ dds) C Q) (k : Cont X H0 C H Q R) :
    codeAny (model X.prog X.w) X.A (.call (.ref f) ⟨us, []⟩) (fun r s' => match r with | .ok (.ret v) => EP X pins σ R v s' | .ok _ => False | .error e => X.xe e s') s := by
  have all := asks_sp h at_ (r.append (hdd H0)) k
  have nlen : (us ++ dus).length = ps.length := by
    obtain ⟨_, ds', _, _, _, _, r', h', _⟩ := id all
    rw [← (rv.append hd).length, ← r'.length]
    exact Fk.len _ _ _ _ h'
  have went := Fk.run X.A X.stack s H ⟨us, []⟩ (us ++ dus) (vs ++ dvs) R _ hr I.env0 (hb s us I.kIn nlen) (rv.append hd) all
  refine codeAny_mono went ?_
  rintro (e | (_ | _ | _ | u)) s' hq
  · exact passAt T.tk σ pins H s e s' I hq
  · exact False.elim hq
  · exact False.elim hq
  · exact False.elim hq
  · exact I.after hq
/-- C.m is a classmethod whose def stands at g -/
def CMetT (K : W.Frag) (C : Addr) (m : Str) (g : Addr) : Prop := ∃ mc p, ClX.CRead K C mc ∧ ClX.CMet K C mc m p g
theorem we_cmeth {pl : Sem Bool} {k : Nat} {g Cl : Addr} {m : Str} {fd : FuncData} {ps : List Str} {F : FS} {dvs : List V} {dds : List D} {dus : List Value} (hc : CMetT X.K Cl m g) (Fk : FnG X.prog X.w X.K X.mg X.base k g fd ps F) (hr : RoomG k X.A) (hb : Binds X.K fd ps dus) (hd : Vals dvs dus) (hdd : ∀ H, Reps X.K H dds dvs)
    (h : Tr.WE T o ρ C fun d C1 => d = .raw (.ref Cl) ∧ WA T (a :: es) ρ C1 fun ds C2 => Asks T F ρ (.raw (.ref Cl) :: (ds ++ dds)) C2 Q)
    (hst : starEach (a :: es) X.env = (false, eval a X.env) :: starEach es X.env := by rfl) (hpl : (backTo pos (starEach es X.env)).any (·.1) = false := by rfl)
    (ht : eval (.Call (.Attribute o m apos) (a :: es) [] pos) X.env = (do
      let ov ← eval o X.env
      standAt apos.atName
      let (f, first) ← holding [ov] (getMethod ov m pl)
      callWith pos f first (backTo pos (starEach (a :: es) X.env)) (backToKw pos (keywordEach [] X.env))) := by rfl) :
    Tr.WE T (.Call (.Attribute o m apos) (a :: es) [] pos) ρ C Q := by
  obtain ⟨mc, pp, r, c⟩ := hc
  refine ⟨fun pins s σ H R I ⟨H0, at_, k⟩ => W.methodCall_KW (pl := pl) ?_ ht⟩
  refine thn (h.run pins s σ H (fun v H1 => ∃ C1 H01, v = .ref Cl ∧ At T H01 ρ C1 σ H1 ∧ Cont X H01 C1 H1 Q R ∧ WA T (a :: es) ρ C1 fun ds C2 => Asks T F ρ (.raw (.ref Cl) :: (ds ++ dds)) C2 Q) I
    ⟨H0, at_, fun v d C1 H1 H01 p1 c1 r1 ⟨e1, q⟩ => by subst e1; cases r1; exact ⟨C1, H01, rfl, at_.step p1 c1, k.after p1 c1 (fun _ _ z => z), q⟩⟩) ?_
  rintro u s1 ⟨v, H1, I1, rv, C1, H01, ev, at1, k1, hw⟩
  subst ev
  obtain rfl : u = Value.ref Cl := rv
  refine ClX.getmethcm_ok I1 r c fun s2 I2 => ?_
  refine ClX.callwith_cm I2 (ClX.base_none I1 (Nat.le_refl _)) c.fi (thn (hw.run pos _ s2 σ H1 (fun vs H2 => ∃ ds C2 H02, At T H02 ρ C2 σ H2 ∧ Cont X H02 C2 H2 Q R ∧ Reps X.K H02 ds vs ∧ Asks T F ρ (.raw (.ref Cl) :: (ds ++ dds)) C2 Q) I2
    ⟨H01, at1, fun vs ds C2 H2 H02 p2 c2 r2 q2 => ⟨ds, C2, H02, at1.step p2 c2, k1.after p2 c2 fun _ _ z => z, r2, q2⟩⟩) ?_) hst hpl
  rintro us s3 ⟨vs, H2, I3, rvs, ds, C2, H02, at2, k2, rds, q2⟩
  refine ⟨⟨ClX.pin_at I3, I3.kIn⟩, ?_⟩
  have z := wpAny_call (PySem.W.method_call (ClX.pin_at I3) (run_TC (us := .ref Cl :: us) (vs := .ref Cl :: vs) (ds := .raw (.ref Cl) :: ds) Fk hr hb hd hdd I3 (.cons rfl rvs) at2 (Reps.cons (d := .raw (.ref Cl)) rfl rds) q2 k2))
  exact thn z fun _ _ y => ClX.unpinE y
end
end Tr

set_option maxHeartbeats 4000000
namespace Tr
open PySem L2 PySem.Spec PyProof.Rows TL

/-! ### texts of words -/
abbrev Wd := List Nat
/-- a word: not a blank in it -/
def NoBl (w : Wd) : Prop := (32 : Nat) ∉ w
abbrev jn (ws : List Wd) : List Nat := joinL [32] ws
theorem jn_cons (p q : Wd) (r : List Wd) : jn (p :: q :: r) = p ++ (32 :: jn (q :: r)) := rfl
/-- the first w that is neither the first nor the last one -/
def cutW (w : Wd) : List Wd → Option (List Wd × List Wd)
  | [] => none
  | [_] => none
  | q :: q2 :: r => if q = w then some ([], q2 :: r) else (cutW w (q2 :: r)).map fun x => (q :: x.1, x.2)
def sepW (w : Wd) : List Nat := 32 :: (w ++ [32])
/-- a word and a blank stand at the beginning just if the first word is that one and another follows -/
theorem word_eq : ∀ {w q : Wd} {a b : List Nat}, NoBl w → NoBl q → w ++ 32 :: a = q ++ 32 :: b → w = q
  | [], [], _, _, _, _, _ => rfl
  | [], c :: q, _, _, _, hq, e => by
    have e1 : (32 : Nat) = c := (List.cons.inj e).1
    exact absurd (by rw [e1]; exact List.mem_cons_self) hq
  | c :: w, [], _, _, hw, _, e => by
    have e1 : c = (32 : Nat) := (List.cons.inj e).1
    exact absurd (by rw [e1]; exact List.mem_cons_self) hw
  | c :: w, d :: q, _, _, hw, hq, e => by
    obtain ⟨e1, e2⟩ := List.cons.inj e
    rw [e1, word_eq (fun h => hw (List.mem_cons_of_mem _ h)) (fun h => hq (List.mem_cons_of_mem _ h)) e2]
theorem pre_iff {S L : List Nat} : pre S L = true ↔ ∃ t, L = S ++ t := by
  unfold pre
  constructor
  · intro h
    have e := eq_of_beq h
    exact ⟨L.drop S.length, by conv => lhs; rw [← List.take_append_drop S.length L, e]⟩
  · rintro ⟨t, rfl⟩
    simp
theorem pre_word {w q : Wd} (hw : NoBl w) (hq : NoBl q) : ∀ r : List Wd, pre (sepW w) (32 :: jn (q :: r)) = (decide (q = w) && !r.isEmpty)
  | [] => by
    rw [Bool.eq_iff_iff, pre_iff]
    constructor
    · rintro ⟨t, e⟩
      have e2 : q = w ++ 32 :: t := by
        have := (List.cons.inj e).2
        have e3 : jn [q] = w ++ 32 :: t := by simpa using this
        exact e3
      exact absurd (by rw [e2]; simp) hq
    · intro h; simp at h
  | q2 :: r => by
    rw [Bool.eq_iff_iff, pre_iff]
    constructor
    · rintro ⟨t, e⟩
      have e2 : w ++ 32 :: t = q ++ 32 :: jn (q2 :: r) := by
        have := (List.cons.inj e).2
        rw [jn_cons] at this
        rw [this]; simp
      rw [word_eq hw hq e2]
      simp
    · intro h
      have e : q = w := by simpa using h
      subst e
      exact ⟨jn (q2 :: r), by rw [jn_cons]; simp [sepW]⟩
theorem free_blank {p : Wd} {w : Wd} {rest : List Nat} (h : NoBl p) : ∀ i, i < p.length → pre (sepW w) ((p ++ rest).drop i) = false := free_of (s := 32) h
theorem par_words {w : Wd} (hw : NoBl w) : ∀ (ws : List Wd) (p : Wd) (acc : List Nat), NoBl p → (∀ q ∈ ws, NoBl q) →
    par (sepW w) acc (jn (p :: ws)) = (cutW w ws).map fun x => (acc ++ jn (p :: x.1), jn x.2)
  | [], p, acc, hp, _ => by
    show par (sepW w) acc p = none
    exact par_none1 hp
  | q :: r, p, acc, hp, hr => by
    have hq := hr q List.mem_cons_self
    have run := par_run (sepW w) (jn (p :: q :: r)) p.length 0 acc (by rw [jn_cons, List.length_append]; omega) (fun k _ k2 => by rw [jn_cons]; exact free_blank hp k (by omega))
    rw [List.drop_zero, Nat.zero_add, jn_cons, List.drop_left, List.take_left] at run
    rw [jn_cons, run]
    have hpre := pre_word hw hq r
    cases r with
    | nil =>
      rw [List.isEmpty_nil, Bool.not_true, Bool.and_false] at hpre
      have ih := par_words hw [] q (acc ++ p ++ [32]) hq (by simp)
      rw [par_miss hpre]
      exact ih
    | cons q2 r =>
      by_cases e : q = w
      · subst e
        have hpre' : pre (sepW q) (32 :: jn (q :: q2 :: r)) = true := by rw [hpre]; simp
        have := par_at (S := sepW q) (L := 32 :: jn (q :: q2 :: r)) (by simp [sepW]) (c := 0) (acc := acc ++ p) (by rw [List.drop_zero]; exact hpre')
        rw [List.drop_zero] at this
        rw [this]
        simp only [cutW, if_pos rfl, Option.map_some]
        congr 2
        rw [Nat.zero_add, jn_cons]
        simp [sepW]
      · have hpre' : pre (sepW w) (32 :: jn (q :: q2 :: r)) = false := by rw [hpre]; simp [e]
        have ih := par_words hw (q2 :: r) q (acc ++ p ++ [32]) hq (fun z hz => hr z (List.mem_cons_of_mem _ hz))
        rw [par_miss hpre', ih]
        show _ = Option.map _ (if q = w then _ else _)
        rw [if_neg e, Option.map_map]
        congr 1
        funext x
        simp [jn_cons]
theorem spl_words {w : Wd} (hw : NoBl w) : ∀ (ws : List Wd) (p : Wd) (acc : List Nat), NoBl p → (∀ q ∈ ws, NoBl q) →
    spl (sepW w) 0 acc (jn (p :: ws)) = match cutW w ws with
      | some x => (acc ++ jn (p :: x.1)) :: spl (sepW w) 0 [] (jn x.2)
      | none => [acc ++ jn (p :: ws)]
  | [], p, acc, hp, _ => by
    show spl (sepW w) 0 acc p = [acc ++ p]
    exact spl_last1 hp
  | q :: r, p, acc, hp, hr => by
    have hq := hr q List.mem_cons_self
    have run := spl_run (sepW w) (jn (p :: q :: r)) p.length 0 acc (by rw [jn_cons, List.length_append]; omega) (fun k _ k2 => by rw [jn_cons]; exact free_blank hp k (by omega))
    rw [List.drop_zero, Nat.zero_add, jn_cons, List.drop_left, List.take_left] at run
    rw [jn_cons, run]
    have hpre := pre_word hw hq r
    cases r with
    | nil =>
      rw [List.isEmpty_nil, Bool.not_true, Bool.and_false] at hpre
      have ih := spl_words hw [] q (acc ++ p ++ [32]) hq (by simp)
      rw [spl_miss hpre]
      rw [ih]
      show [_] = [_]
      simp [cutW, joinL]
    | cons q2 r =>
      by_cases e : q = w
      · subst e
        have hpre' : pre (sepW q) (32 :: jn (q :: q2 :: r)) = true := by rw [hpre]; simp
        have := spl_at (S := sepW q) (L := 32 :: jn (q :: q2 :: r)) (by simp [sepW]) (c := 0) (acc := acc ++ p) (by rw [List.drop_zero]; exact hpre')
        rw [List.drop_zero] at this
        rw [this]
        simp only [cutW, if_pos rfl]
        rw [Nat.zero_add, jn_cons]
        simp [sepW, joinL]
      · have hpre' : pre (sepW w) (32 :: jn (q :: q2 :: r)) = false := by rw [hpre]; simp [e]
        have ih := spl_words hw (q2 :: r) q (acc ++ p ++ [32]) hq (fun z hz => hr z (List.mem_cons_of_mem _ hz))
        rw [spl_miss hpre', ih]
        have ec : cutW w (q :: q2 :: r) = (cutW w (q2 :: r)).map fun x => (q :: x.1, x.2) := by
          show (if q = w then _ else _) = _
          rw [if_neg e]
        rw [ec]
        cases cutW w (q2 :: r) with
        | none => simp [jn_cons]
        | some x => simp [jn_cons]

theorem cutW_app {w : Wd} {b : List Wd} (hb : b ≠ []) : ∀ {a : List Wd}, w ∉ a → cutW w (a ++ w :: b) = some (a, b)
  | [], _ => by
    cases b with
    | nil => exact absurd rfl hb
    | cons q r => simp [cutW]
  | [c], h => by
    have e : ¬ c = w := fun z => h (by rw [z]; exact List.mem_cons_self)
    have ih := cutW_app hb (a := []) (w := w) (by simp)
    show cutW w (c :: w :: b) = _
    unfold cutW
    rw [if_neg e]
    rw [show cutW w (w :: b) = some ([], b) from ih]
    rfl
  | c :: d :: a, h => by
    have e : ¬ c = w := fun z => h (by rw [z]; exact List.mem_cons_self)
    have ih := cutW_app hb (a := d :: a) (w := w) (fun z => h (List.mem_cons_of_mem _ z))
    show cutW w (c :: (d :: a ++ w :: b)) = _
    rw [List.cons_append] at ih ⊢
    unfold cutW
    rw [if_neg e, ih]
    rfl
theorem cutW_none {w : Wd} : ∀ {a : List Wd}, w ∉ a → cutW w a = none
  | [], _ => rfl
  | [_], _ => rfl
  | c :: d :: a, h => by
    have e : ¬ c = w := fun z => h (by rw [z]; exact List.mem_cons_self)
    have ih := cutW_none (a := d :: a) (fun z => h (List.mem_cons_of_mem _ z))
    unfold cutW
    rw [if_neg e, ih]
    rfl
theorem jn_app : ∀ {a b : List Wd}, a ≠ [] → b ≠ [] → jn (a ++ b) = jn a ++ 32 :: jn b
  | [], _, h, _ => absurd rfl h
  | [p], b, _, hb => by
    cases b with
    | nil => exact absurd rfl hb
    | cons q r => rfl
  | p :: q :: r, b, _, hb => by
    have ih := jn_app (a := q :: r) (b := b) (by simp) hb
    show jn (p :: q :: (r ++ b)) = _
    rw [jn_cons, jn_cons]
    rw [show jn (q :: (r ++ b)) = jn (q :: r) ++ 32 :: jn b from ih]
    simp
/-- groups of words, a word between them -/
def inter (w : Wd) : List (List Wd) → List Wd
  | [] => []
  | [p] => p
  | p :: q :: r => p ++ w :: inter w (q :: r)
theorem inter_ne {w : Wd} : ∀ {ps : List (List Wd)}, ps ≠ [] → (∀ p ∈ ps, p ≠ []) → inter w ps ≠ []
  | [], h, _ => absurd rfl h
  | [p], _, hp => hp p List.mem_cons_self
  | p :: q :: r, _, hp => by simp [inter]
theorem jn_inter {w : Wd} : ∀ {ps : List (List Wd)}, (∀ p ∈ ps, p ≠ []) → jn (inter w ps) = joinL (sepW w) (ps.map jn)
  | [], _ => rfl
  | [p], _ => rfl
  | p :: q :: r, hp => by
    have ih := jn_inter (w := w) (ps := q :: r) (fun z hz => hp z (List.mem_cons_of_mem _ hz))
    have hn : inter w (q :: r) ≠ [] := inter_ne (by simp) (fun z hz => hp z (List.mem_cons_of_mem _ hz))
    show jn (p ++ w :: inter w (q :: r)) = jn p ++ (sepW w ++ joinL (sepW w) ((q :: r).map jn))
    rw [jn_app (hp p List.mem_cons_self) (by simp), ← ih]
    cases e : inter w (q :: r) with
    | nil => exact absurd e hn
    | cons a b => rw [jn_cons]; simp [sepW]
theorem mem_inter {w z : Wd} : ∀ {ps : List (List Wd)}, z ∈ inter w ps → z = w ∨ ∃ p ∈ ps, z ∈ p
  | [], h => by cases h
  | [p], h => .inr ⟨p, List.mem_cons_self, h⟩
  | p :: q :: r, h => by
    rcases List.mem_append.mp h with h | h
    · exact .inr ⟨p, List.mem_cons_self, h⟩
    · rcases List.mem_cons.mp h with h | h
      · exact .inl h
      · rcases mem_inter h with h | ⟨p', h1, h2⟩
        · exact .inl h
        · exact .inr ⟨p', List.mem_cons_of_mem _ h1, h2⟩
theorem spl_inter {w : Wd} (hw : NoBl w) : ∀ {ps : List (List Wd)}, ps ≠ [] → (∀ p ∈ ps, p ≠ [] ∧ w ∉ p ∧ ∀ q ∈ p, NoBl q) → spl (sepW w) 0 [] (jn (inter w ps)) = ps.map jn
  | [], h, _ => absurd rfl h
  | [p], _, hp => by
    obtain ⟨h1, h2, h3⟩ := hp p List.mem_cons_self
    cases p with
    | nil => exact absurd rfl h1
    | cons c a =>
      show spl (sepW w) 0 [] (jn (c :: a)) = [jn (c :: a)]
      rw [spl_words hw a c [] (h3 c List.mem_cons_self) (fun q hq => h3 q (List.mem_cons_of_mem _ hq)), cutW_none fun z => h2 (List.mem_cons_of_mem _ z)]
      rfl
  | p :: p2 :: r, _, hp => by
    obtain ⟨h1, h2, h3⟩ := hp p List.mem_cons_self
    have ih := spl_inter hw (ps := p2 :: r) (by simp) (fun z hz => hp z (List.mem_cons_of_mem _ hz))
    have hn : inter w (p2 :: r) ≠ [] := inter_ne (by simp) (fun z hz => (hp z (List.mem_cons_of_mem _ hz)).1)
    have hb : ∀ q ∈ inter w (p2 :: r), NoBl q := fun q hq => by
      rcases mem_inter hq with h | ⟨p', h4, h5⟩
      · rw [h]; exact hw
      · exact (hp p' (List.mem_cons_of_mem _ h4)).2.2 q h5
    cases p with
    | nil => exact absurd rfl h1
    | cons c a =>
      show spl (sepW w) 0 [] (jn (c :: (a ++ w :: inter w (p2 :: r)))) = jn (c :: a) :: (p2 :: r).map jn
      rw [spl_words hw _ c [] (h3 c List.mem_cons_self) (fun q hq => by
        rcases List.mem_append.mp hq with h | h
        · exact h3 q (List.mem_cons_of_mem _ h)
        · rcases List.mem_cons.mp h with h | h
          · rw [h]; exact hw
          · exact hb q h), cutW_app hn fun z => h2 (List.mem_cons_of_mem _ z)]
      show ([] ++ jn (c :: a)) :: spl (sepW w) 0 [] (jn (inter w (p2 :: r))) = _
      rw [ih]; rfl
/-! the same of texts -/
def ofL (l : List Nat) : Str := ⟨l.toArray⟩
theorem tl_ofL (l : List Nat) : tl (ofL l) = l := by simp [ofL, tl]
theorem ofL_tl (x : Str) : ofL (tl x) = x := by simp [ofL, tl]
theorem part_found {x y : Str} {w p : Wd} {a b : List Wd} (hy : tl y = sepW w) (hw : NoBl w) (hx : tl x = jn (p :: (a ++ w :: b))) (hp : NoBl p) (ha : ∀ q ∈ a, NoBl q) (hb : ∀ q ∈ b, NoBl q) (hwa : w ∉ a) (hbn : b ≠ []) :
    Txt.partition x y = (ofL (jn (p :: a)), y, ofL (jn b)) := by
  rw [partition_par x y (by rw [hy]; simp [sepW]), hx, hy, par_words hw _ p [] hp (fun q hq => by
    rcases List.mem_append.mp hq with h | h
    · exact ha q h
    · rcases List.mem_cons.mp h with h | h
      · rw [h]; exact hw
      · exact hb q h), cutW_app hbn hwa]
  rfl
theorem part_not {x y : Str} {w p : Wd} {a : List Wd} (hy : tl y = sepW w) (hw : NoBl w) (hx : tl x = jn (p :: a)) (hp : NoBl p) (ha : ∀ q ∈ a, NoBl q) (hwa : w ∉ a) : Txt.partition x y = (x, Str.empty, Str.empty) := by
  rw [partition_par x y (by rw [hy]; simp [sepW]), hx, hy, par_words hw _ p [] hp ha, cutW_none hwa]
  rfl
theorem split_words {x y : Str} {w : Wd} {ps : List (List Wd)} (hy : tl y = sepW w) (hw : NoBl w) (hk : y.cps.all (· < 256) = true) (hx : tl x = jn (inter w ps)) (hn : ps ≠ []) (hp : ∀ p ∈ ps, p ≠ [] ∧ w ∉ p ∧ ∀ q ∈ p, NoBl q) :
    Txt.split x y = ps.map fun p => ofL (jn p) := by
  refine map_tl_inj ?_
  rw [split_spl x y (by rw [hy]; simp [sepW]) (kind_ok hk), hx, hy, spl_inter hw hn hp, List.map_map]
  exact List.map_congr_left fun p _ => (tl_ofL _).symm

section
variable {X : Cx} {T : TX X} {ρ : Rho} {C : Cells} {N : TEnds}
/-- two blocks that come together -/
theorem wss_join {k : Bool} {tb fb : List Stmt} (J : QS) (h1 : k = true → WSs T tb ρ C { N with nx := J }) (h2 : k = false → WSs T fb ρ C { N with nx := J }) (h : ∀ ρ C, J ρ C → N.nx ρ C) : if k = true then WSs T tb ρ C N else WSs T fb ρ C N := by
  cases k with
  | true => exact (h1 rfl).mono h (fun _ _ z => z) (fun _ _ z => z) (fun _ _ z => z)
  | false => exact (h2 rfl).mono h (fun _ _ z => z) (fun _ _ z => z) (fun _ _ z => z)
end
end Tr

set_option maxHeartbeats 4000000
namespace Tr
open PySem L2 PySem.Spec PyProof.Rows

/-! ### mirrors: a def's text as a plain predicate -/
abbrev ME := Cells → QE → Prop
abbrev MA := Cells → QA → Prop
abbrev MT := Cells → QT → Prop
abbrev MI := Cells → QI → Prop
abbrev MB := Cells → Prop
def up (F : FS) : FS := fun ds C Q Qx => ∃ Q' Qx', F ds C Q' Qx' ∧ (∀ d C', Q' d C' → Q d C') ∧ ∀ cls fs C', Qx' cls fs C' → Qx cls fs C'
theorem FnG.up {P : Program} {w : World} {K : W.Frag} {mg : Str → Option Value} {base : Heap} {k : Nat} {f : Addr} {fd : FuncData} {ps : List Str} {F : FS} (h : FnG P w K mg base k f fd ps F) : FnG P w K mg base k f fd ps (up F) :=
  ⟨fun ds C Q Qx ⟨Q', Qx', z, _, _⟩ => h.len _ _ _ _ z, fun A outer s H args us vs R E hr e0 hb rv ⟨H0, ds, C, Q, Qx, c, r, ⟨Q', Qx', z, i1, i2⟩, k1, k2⟩ => h.run A outer s H args us vs R E hr e0 hb rv
    ⟨H0, ds, C, Q', Qx', c, r, z, fun v d C' H' H0' p c' r' q => k1 v d C' H' H0' p c' r' (i1 _ _ q), fun cls dd fs C' H' H0' p c' x q => k2 cls dd fs C' H' H0' p c' x (i2 _ _ _ q)⟩⟩

section
variable {X : Cx}
def SE (T : TX X) (e : Expr) (ρ : Rho) (A : ME) : Prop := ∀ C Q, A C Q → Tr.WE T e ρ C Q
def SA (T : TX X) (es : List Expr) (ρ : Rho) (A : MA) : Prop := ∀ C Q, A C Q → WA T es ρ C Q
def ST (T : TX X) (e : Expr) (ρ : Rho) (A : MT) : Prop := ∀ C Q, A C Q → WT T e ρ C Q
def SP (T : TX X) (e : Expr) (ρ : Rho) (A : MT) : Prop := ∀ C Q, A C Q → WP T e ρ C Q
def SI (T : TX X) (tg e : Expr) (ρ : Rho) (A : MI) : Prop := ∀ C Q, A C Q → WI T tg e ρ C Q
def SB (T : TX X) (st : List Stmt) (ρ : Rho) (m : MB) (N : TEnds) : Prop := ∀ C, m C → WSs T st ρ C N
/-- a target, then what stands behind it -/
def SG (T : TX X) (tg : Expr) (d : D) (ρ : Rho) (st : List Stmt) (m : MB) (N : TEnds) : Prop := ∀ C, m C → WG T tg d ρ C fun ρ1 C1 => WSs T st ρ1 C1 N
variable {T : TX X} {ρ ρ' : Rho} {C : Cells} {N : TEnds} {e a b c o : Expr} {pos pos' p p2 apos : Pos} {es tgs : List Expr} {st : Stmt} {rest body : List Stmt} {x m : Str} {A B A' : ME} {AS : MA} {mt mf : MB}
theorem WA.mono {Q Q' : QA} (h : WA T es ρ C Q) (i : ∀ d C', Q d C' → Q' d C') : WA T es ρ C Q' :=
  PA.imp h fun σ H R ⟨H0, a, k⟩ => ⟨H0, a, fun vs ds C' H' H0' p c r q => k vs ds C' H' H0' p c r (i ds C' q)⟩
theorem WP.mono {Q Q' : QT} (h : WP T e ρ C Q) (i : ∀ d C', Q d C' → Q' d C') : WP T e ρ C Q' :=
  PW.imp h fun σ H R ⟨H0, a, k⟩ => ⟨H0, a, fun v C' H' H0' p c q => k v C' H' H0' p c (i v C' q)⟩
theorem WI.mono {tg : Expr} {Q Q' : QI} (h : WI T tg e ρ C Q) (i : ∀ ds P C', Q ds P C' → Q' ds P C') : WI T tg e ρ C Q' :=
  PI.imp h fun σ H R ⟨H0, a, k⟩ => ⟨H0, a, fun J ds P C' H' H0' p c y q => k J ds P C' H' H0' p c y (i ds P C' q)⟩
theorem OW.mono {f : Value → Value → Sem Value} {d1 d2 : D} {Q Q' : QE} (h : OW T f d1 d2 C Q) (i : ∀ d C', Q d C' → Q' d C') : OW T f d1 d2 C Q' :=
  OpR.imp h fun x y H R ⟨H0, c, r1, r2, k⟩ => ⟨H0, c, r1, r2, fun v d C' H' H0' p c r q => k v d C' H' H0' p c r (i d C' q)⟩
theorem CW.mono {f : Value} {ds : List D} {Q Q' : QE} (h : CW T f ds C Q) (i : ∀ d C', Q d C' → Q' d C') : CW T f ds C Q' :=
  CallR.imp h fun xs H R ⟨H0, c, r1, k⟩ => ⟨H0, c, r1, fun v d C' H' H0' p c r q => k v d C' H' H0' p c r (i d C' q)⟩

/-! ### slots forgotten -/
structure LeR (ρ ρ' : Rho) : Prop where
  l : ρ.length = ρ'.length
  s : ∀ (i : Nat) (d : D), ρ[i]? = some (some d) → ρ'[i]? = some (some d)
theorem LeR.refl (ρ : Rho) : LeR ρ ρ := ⟨rfl, fun _ _ h => h⟩
theorem LeR.nil : LeR [] [] := .refl _
theorem LeR.keep {x : Option D} (h : LeR ρ ρ') : LeR (x :: ρ) (x :: ρ') := ⟨by simp [h.l], fun i d q => by
  cases i with
  | zero => exact q
  | succ i => exact h.s i d q⟩
theorem LeR.drop {x : Option D} (h : LeR ρ ρ') : LeR (none :: ρ) (x :: ρ') := ⟨by simp [h.l], fun i d q => by
  cases i with
  | zero => cases q
  | succ i => exact h.s i d q⟩
theorem LeR.trans {ρ1 ρ2 ρ3 : Rho} (h : LeR ρ1 ρ2) (g : LeR ρ2 ρ3) : LeR ρ1 ρ3 := ⟨h.l.trans g.l, fun i d q => g.s i d (h.s i d q)⟩
theorem At.forget {H0 : Hp} {σ : L2.St} {H : Hp} (l : LeR ρ ρ') (h : At T H0 ρ' C σ H) : At T H0 ρ C σ H := ⟨h.a, h.c, fun i d q => h.s i d (l.s i d q), l.l.trans h.l⟩
theorem wss_forget (l : LeR ρ ρ') (h : WSs T rest ρ C N) : WSs T rest ρ' C N := PSs.imp h fun Dn σ H ⟨H0, at_, k⟩ => ⟨H0, at_.forget l, k⟩
theorem wg_forget {d : D} {tg : Expr} {Q : QS} (l : LeR ρ ρ') (h : WG T tg d ρ C Q) : WG T tg d ρ' C Q := PG.imp h fun v σ H R ⟨H0, at_, r, k⟩ => ⟨H0, at_.forget l, r, k⟩

/-! ### expressions -/
abbrev eVal (d : D) : ME := fun C Q => Q d C
abbrev eBin (A B : ME) (O : D → D → ME) : ME := fun C Q => A C fun x C1 => B C1 fun y C2 => O x y C2 Q
abbrev eApp (A : ME) (O : D → ME) : ME := fun C Q => A C fun x C1 => O x C1 Q
abbrev aNil : MA := fun C Q => Q [] C
abbrev aCons (A : ME) (B : MA) : MA := fun C Q => A C fun d C1 => B C1 fun ds C2 => Q (d :: ds) C2
abbrev eArgs (A : MA) (O : List D → ME) : ME := fun C Q => A C fun ds C1 => O ds C1 Q
def pTup (ds : List D) : ME := fun C Q => ds.length ≤ 100000 ∧ Q (.tup ds) C
def pLst (ds : List D) : ME := fun C Q => ds.length ≤ 100000 ∧ Q (.lst ds) C
def pLstC (ds : List D) : ME := fun C Q => ds.length ≤ 100000 ∧ ∀ p, Q (.raw (.ref p)) ((p, .lst ds) :: C)
def pTru : D → MT
  | .bl k => fun C Q => Q k C
  | _ => fun _ _ => False
abbrev tVal (A : ME) : MT := fun C Q => A C fun d C1 => pTru d C1 Q
abbrev tNot (A : MT) : MT := fun C Q => A C fun k C1 => Q (!k) C1
abbrev tAnd (A B : MT) : MT := fun C Q => A C fun k C1 => if k = true then B C1 Q else Q false C1
abbrev tOr (A B : MT) : MT := fun C Q => A C fun k C1 => if k = true then Q true C1 else B C1 Q
abbrev tBin (A B : ME) (O : D → D → ME) : MT := fun C Q => A C fun x C1 => B C1 fun y C2 => O x y C2 fun d C3 => pTru d C3 Q
abbrev eIf (c : MT) (A B : ME) : ME := fun C Q => c C fun k C1 => if k = true then A C1 Q else B C1 Q
abbrev eNot (A : ME) : ME := fun C Q => A C fun d C1 => pTru d C1 fun k C2 => Q (.bl (!k)) C2
abbrev eAnd (A B : ME) : ME := fun C Q => A C fun d C1 => pTru d C1 fun k C2 => if k = true then B C2 Q else Q (.bl false) C2
abbrev eOr (A B : ME) : ME := fun C Q => A C fun d C1 => pTru d C1 fun k C2 => if k = true then Q (.bl true) C2 else B C2 Q
def pNeg : D → ME
  | .int i => fun C Q => Q (.int (-i)) C
  | _ => fun _ _ => False
theorem pTru_ex {d : D} {Q : QT} (h : pTru d C Q) : ∃ k, d = .bl k ∧ Q k C := by
  cases d with
  | bl k => exact ⟨k, rfl, h⟩
  | _ => exact False.elim h

theorem se_var {d : D} (i : Nat) (hd : ρ[i]? = some (some d)) (h : PE X (.Name x pos) (tVar i)) : SE T (.Name x pos) ρ (eVal d) := fun C Q q => we_var i hd q h
theorem se_glob {v : V} {d : D} (h : PE X (.Name x pos) (tC v)) (r : ∀ H0 : Hp, Rep X.K H0 d v) : SE T (.Name x pos) ρ (eVal d) := fun C Q q => we_glob h r q
theorem se_ty {n : String} (hg : Gl X x) (hm : X.mg x = none) (hv : bootBuiltins x = some (.type n)) (hn : x ≠ "__name__" := by decide) (hd : (x == ("__debug__" : Str)) = false := by decide) : SE T (.Name x pos) ρ (eVal (.raw (.ty n))) :=
  fun C Q q => we_ty hg hm hv q hn hd
theorem se_int {i j} : SE T (.Constant (.int i) j pos) ρ (eVal (.int i)) := fun C Q q => we_int q
theorem se_str {i j} : SE T (.Constant (.str i) j pos) ρ (eVal (.str i)) := fun C Q q => we_str q
theorem se_bl {i j} : SE T (.Constant (.bool i) j pos) ρ (eVal (.bl i)) := fun C Q q => we_bl q
theorem se_non {j} : SE T (.Constant .none j pos) ρ (eVal .non) := fun C Q q => we_non q
theorem se_bin {op : Operator} {O : D → D → ME} (ha : SE T a ρ A) (hb : SE T b ρ B) (ho : ∀ x y C Q, O x y C Q → OW T (binaryOp op) x y C Q) : SE T (.BinOp a op b pos) ρ (eBin A B O) :=
  fun C Q h => we_bin ((ha C _ h).mono fun x C1 h1 => (hb C1 _ h1).mono fun y C2 h2 => ho x y C2 Q h2)
theorem se_cmp {op : CmpOp} {O : D → D → ME} (ha : SE T a ρ A) (hb : SE T b ρ B) (ho : ∀ x y C Q, O x y C Q → OW T (compareOp op) x y C Q) (hm : behindInMarks op b = false := by rfl) : SE T (.Compare a [op] [b] pos) ρ (eBin A B O) :=
  fun C Q h => we_cmp ((ha C _ h).mono fun x C1 h1 => (hb C1 _ h1).mono fun y C2 h2 => ho x y C2 Q h2) hm
theorem st_cmp {op : CmpOp} {O : D → D → ME} (ha : SE T a ρ A) (hb : SE T b ρ B) (ho : ∀ x y C Q, O x y C Q → OW T (compareOp op) x y C Q) (hm : behindInMarks op b = false := by rfl) : ST T (.Compare a [op] [b] pos) ρ (tBin A B O) :=
  fun C Q h => wt_cmp ((ha C _ h).mono fun x C1 h1 => (hb C1 _ h1).mono fun y C2 h2 => (ho x y C2 _ h2).mono fun d C3 h3 => pTru_ex h3) hm
abbrev tChain (A B A' : ME) (O O' : D → D → ME) : MT := fun C Q => A C fun x C1 => B C1 fun y C2 => O x y C2 fun d C3 => pTru d C3 fun k C3 => if k = true then A' C3 fun z C4 => O' y z C4 fun d C5 => pTru d C5 Q else Q false C3
theorem st_chain {op op' : CmpOp} {O O' : D → D → ME} (ha : SE T a ρ A) (hb : SE T b ρ B) (hc : SE T c ρ A') (ho : ∀ x y C Q, O x y C Q → OW T (compareOp op) x y C Q) (ho' : ∀ x y C Q, O' x y C Q → OW T (compareOp op') x y C Q)
    (hm : lastMarks [op, op'] [b, c] = false := by with_unfolding_all rfl) : ST T (.Compare a [op, op'] [b, c] pos) ρ (tChain A B A' O O') :=
  fun C Q h => wt_chain2 ((ha C _ h).mono fun x C1 h1 => (hb C1 _ h1).mono fun y C2 h2 => (ho x y C2 _ h2).mono fun d C3 h3 => by
    obtain ⟨k, e, h4⟩ := pTru_ex h3
    refine ⟨k, e, ?_⟩
    cases k with
    | false => exact h4
    | true => exact (hc C3 _ h4).mono fun z C4 h5 => (ho' y z C4 _ h5).mono fun d C5 h6 => pTru_ex h6) hm
theorem st_val (h : SE T e ρ A) (he : ∀ whole, isTrue e X.env whole = (do let v ← whole; standAt e.pos; holding [v] (truthy v)) := by intro _; rfl) : ST T e ρ (tVal A) :=
  fun C Q q => wt_val ((h C _ q).mono fun d C1 h1 => pTru_ex h1) he
theorem st_not {t : MT} (h : ST T a ρ t) : ST T (.UnaryOp .Not a pos) ρ (tNot t) := fun C Q q => wt_not (h C _ q)
theorem st_p {t : MT} (h : SP T a ρ t) : ST T a ρ t := fun C Q q => wt_p (h C Q q)
theorem sp_and1 {t : MT} (h : ST T a ρ t) : SP T (.BoolOp .And [a] pos) ρ t := fun C Q q => wp_and1 (h C Q q)
theorem sp_or1 {t : MT} (h : ST T a ρ t) : SP T (.BoolOp .Or [a] pos) ρ t := fun C Q q => wp_or1 (h C Q q)
theorem sp_and {t u : MT} (h : ST T a ρ t) (g : SP T (.BoolOp .And (b :: es) pos) ρ u) : SP T (.BoolOp .And (a :: b :: es) pos) ρ (tAnd t u) :=
  fun C Q q => wp_and ((h C _ q).mono fun k C1 h1 => by
    cases k with
    | true => exact g C1 Q h1
    | false => exact h1)
theorem sp_or {t u : MT} (h : ST T a ρ t) (g : SP T (.BoolOp .Or (b :: es) pos) ρ u) : SP T (.BoolOp .Or (a :: b :: es) pos) ρ (tOr t u) :=
  fun C Q q => wp_or ((h C _ q).mono fun k C1 h1 => by
    cases k with
    | true => exact h1
    | false => exact g C1 Q h1)
theorem se_one {op} (h : SE T a ρ A) : SE T (.BoolOp op [a] pos) ρ A := fun C Q q => we_one (h C Q q)
theorem se_and (h : SE T a ρ A) (g : SE T (.BoolOp .And (b :: es) pos) ρ B) : SE T (.BoolOp .And (a :: b :: es) pos) ρ (eAnd A B) :=
  fun C Q q => we_and ((h C _ q).mono fun d C1 h1 => by
    obtain ⟨k, e, h4⟩ := pTru_ex h1
    refine ⟨k, e, ?_⟩
    cases k with
    | false => exact h4
    | true => exact g C1 Q h4)
theorem se_or (h : SE T a ρ A) (g : SE T (.BoolOp .Or (b :: es) pos) ρ B) : SE T (.BoolOp .Or (a :: b :: es) pos) ρ (eOr A B) :=
  fun C Q q => we_or ((h C _ q).mono fun d C1 h1 => by
    obtain ⟨k, e, h4⟩ := pTru_ex h1
    refine ⟨k, e, ?_⟩
    cases k with
    | true => exact h4
    | false => exact g C1 Q h4)
theorem se_not (h : SE T a ρ A) : SE T (.UnaryOp .Not a pos) ρ (eNot A) := fun C Q q => we_not ((h C _ q).mono fun d C1 h1 => pTru_ex h1)
theorem se_neg (h : SE T a ρ A) : SE T (.UnaryOp .USub a pos) ρ (eApp A pNeg) := fun C Q q => we_neg (i := 0) ((h C _ q).mono fun d C1 h1 => by
  cases d with
  | int i => exact ⟨i, rfl, h1⟩
  | _ => exact False.elim h1)
theorem se_if {t : MT} (h : ST T c ρ t) (ha : SE T a ρ A) (hb : SE T b ρ B) : SE T (.IfExp c a b pos) ρ (eIf t A B) :=
  fun C Q q => we_ifExp ((h C _ q).mono fun k C1 h1 => by
    cases k with
    | true => exact ha C1 Q h1
    | false => exact hb C1 Q h1)
theorem sa_nil : SA T [] ρ aNil := fun C Q q => wa_nil q
theorem sa_cons (h : SE T e ρ A) (g : SA T es ρ AS) (hs : starEach (e :: es) X.env = (false, eval e X.env) :: starEach es X.env := by rfl) : SA T (e :: es) ρ (aCons A AS) :=
  fun C Q q => wa_cons ((h C _ q).mono fun d C1 h1 => (g C1 _ h1)) hs
theorem se_tup {k} (h : SA T es ρ AS) : SE T (.Tuple es k pos) ρ (eArgs AS pTup) := fun C Q q => we_tup (h C _ q)
theorem se_lst (h : SA T es ρ AS) : SE T (.List es pos) ρ (eArgs AS pLst) := fun C Q q => we_lst (h C _ q)
theorem se_lstC (h : SA T es ρ AS) : SE T (.List es pos) ρ (eArgs AS pLstC) := fun C Q q => we_lstC (h C _ q)
theorem se_callB {q : Pos} {id : String} {O : List D → ME} (hg : Gl X x) (hm : X.mg x = none) (hv : bootBuiltins x = some (.builtin id)) (h : SA T (a :: es) ρ AS) (ho : ∀ ds C Q, O ds C Q → CW T (.builtin id) ds C Q)
    (hn : x ≠ "__name__" := by decide) (hdb : (x == ("__debug__" : Str)) = false := by decide) (he : starEach (a :: es) X.env = (false, eval a X.env) :: starEach es X.env := by rfl) (hpl : (backTo pos (starEach es X.env)).any (·.1) = false := by rfl) :
    SE T (.Call (.Name x q) (a :: es) [] pos) ρ (eArgs AS O) := fun C Q z => we_callB hg hm hv ((h C _ z).mono fun ds C1 h1 => ho ds C1 Q h1) hn hdb he hpl
theorem se_callTy {q : Pos} {id : String} {O : List D → ME} (hg : Gl X x) (hm : X.mg x = none) (hv : bootBuiltins x = some (.type id)) (h : SA T (a :: es) ρ AS) (ho : ∀ ds C Q, O ds C Q → CW T (.type id) ds C Q)
    (hn : x ≠ "__name__" := by decide) (hdb : (x == ("__debug__" : Str)) = false := by decide) (he : starEach (a :: es) X.env = (false, eval a X.env) :: starEach es X.env := by rfl) (hpl : (backTo pos (starEach es X.env)).any (·.1) = false := by rfl) :
    SE T (.Call (.Name x q) (a :: es) [] pos) ρ (eArgs AS O) := fun C Q z => we_callTy hg hm hv ((h C _ z).mono fun ds C1 h1 => ho ds C1 Q h1) hn hdb he hpl

/-! ### calls -/
def callW (F : FS) (Xq : QX) (ds : List D) : ME := fun C Q => ∃ μ r, C.Perm (μ ++ r) ∧ F ds μ (fun d μ' => Q d (μ' ++ r)) fun cls fs μ' => Xq cls fs (μ' ++ r)
theorem call_all {F : FS} {Xq : QX} {ds : List D} {Q : QE} (h : F ds C Q Xq) : callW F Xq ds C Q := ⟨C, [], by simp, by simpa using h⟩
theorem call_none {F : FS} {Xq : QX} {ds : List D} {Q : QE} (h : F ds [] (fun d μ' => Q d (μ' ++ C)) fun cls fs μ' => Xq cls fs (μ' ++ C)) : callW F Xq ds C Q := ⟨[], C, by simp, h⟩
theorem callW.asks {F : FS} {Xq : QX} {ds : List D} {Q : QE} (h : callW F Xq ds C Q) (hX : ∀ cls fs C, Xq cls fs C → T.XQ cls fs ρ C) : Asks T (up F) ρ ds C Q :=
  let ⟨μ, r, pm, z⟩ := h
  ⟨μ, r, pm, _, _, z, fun _ _ q => q, fun cls fs C' q => hX cls fs _ q⟩
variable {k : Nat} {f Cl : Addr} {fd : FuncData} {ps : List Str} {F : FS} {dvs : List V} {dds : List D} {dus : List Value} {Xq : QX}
theorem se_call {q : Pos} (Fk : FnG X.prog X.w X.K X.mg X.base k f fd ps F) (hr : RoomG k X.A) (hg : Gl X x) (hm : X.mg x = some (.ref f)) (hk : W.keepIn X.K (.ref f) = true) (hb : Binds X.K fd ps dus) (hd : Vals dvs dus) (hdd : ∀ H, Reps X.K H dds dvs)
    (hX : ∀ cls fs C, Xq cls fs C → T.XQ cls fs ρ C) (h : SA T (a :: es) ρ AS) (hdb : (x == ("__debug__" : Str)) = false := by decide) (he : starEach (a :: es) X.env = (false, eval a X.env) :: starEach es X.env := by rfl) (hpl : (backTo pos (starEach es X.env)).any (·.1) = false := by rfl) :
    SE T (.Call (.Name x q) (a :: es) [] pos) ρ (eArgs AS fun ds => callW F Xq (ds ++ dds)) :=
  fun C Q z => we_call Fk.up hr hg hm hk hb hd hdd ((h C _ z).mono fun ds C1 h1 => h1.asks hX) hdb he hpl
theorem se_call0 {q : Pos} (Fk : FnG X.prog X.w X.K X.mg X.base k f fd ps F) (hr : RoomG k X.A) (hg : Gl X x) (hm : X.mg x = some (.ref f)) (hk : W.keepIn X.K (.ref f) = true) (hb : Binds X.K fd ps dus) (hd : Vals dvs dus) (hdd : ∀ H, Reps X.K H dds dvs)
    (hX : ∀ cls fs C, Xq cls fs C → T.XQ cls fs ρ C) (hdb : (x == ("__debug__" : Str)) = false := by decide) :
    SE T (.Call (.Name x q) [] [] pos) ρ (callW F Xq dds) := fun C Q z => we_call0 Fk.up hr hg hm hk hb hd hdd (z.asks hX) hdb
/-- the making of an instance -/
def makeW (F : FS) (Xq : QX) (Cl : Addr) (ds : List D) : ME := fun C Q => ∃ μ r, C.Perm (μ ++ r) ∧ ∀ z, F (.raw (.ref z) :: ds) ((z, .ins Cl [] []) :: μ) (fun d μ' => d = .non ∧ Q (.raw (.ref z)) (μ' ++ r)) fun cls fs μ' => Xq cls fs (μ' ++ r)
/-- .. that stands still from then on -/
abbrev pFrz (A : ME) : ME := fun C Q => A C fun d C1 => ∃ (i : Nat) (z Cl : Addr) (ns : List Str) (ds : List D), d = .raw (.ref z) ∧ C1[i]? = some (z, .ins Cl ns ds) ∧ Q (.ins Cl ns ds) (C1.eraseIdx i)
abbrev pFrzL (A : ME) : ME := fun C Q => A C fun d C1 => ∃ (i : Nat) (z : Addr) (ds : List D), d = .raw (.ref z) ∧ C1[i]? = some (z, .lst ds) ∧ Q (.lst ds) (C1.eraseIdx i)
theorem se_frz (h : SE T e ρ A) : SE T e ρ (pFrz A) := fun C Q q => we_frzI (h C _ q)
theorem se_frzL (h : SE T e ρ A) : SE T e ρ (pFrzL A) := fun C Q q => we_frzL (h C _ q)
theorem makeW.asks {ds : List D} {Q : QE} (h : makeW F Xq Cl ds C Q) (hX : ∀ cls fs C, Xq cls fs C → T.XQ cls fs ρ C) : AsksM T (up F) Cl ρ ds C Q :=
  let ⟨μ, r, pm, w⟩ := h
  ⟨μ, r, pm, fun z => ⟨_, _, w z, fun _ _ q => q, fun cls fs C' q => hX cls fs _ q⟩⟩
theorem se_make {q : Pos} (M : Mk X.K Cl f) (Fk : FnG X.prog X.w X.K X.mg X.base k f fd ps F) (hr : RoomG (k + 1) X.A) (hg : Gl X x) (hm : X.mg x = some (.ref Cl)) (hb : Binds X.K fd ps dus) (hd : Vals dvs dus) (hdd : ∀ H, Reps X.K H dds dvs)
    (hX : ∀ cls fs C, Xq cls fs C → T.XQ cls fs ρ C) (h : SA T (a :: es) ρ AS) (hdb : (x == ("__debug__" : Str)) = false := by decide) (he : starEach (a :: es) X.env = (false, eval a X.env) :: starEach es X.env := by rfl) (hpl : (backTo pos (starEach es X.env)).any (·.1) = false := by rfl) :
    SE T (.Call (.Name x q) (a :: es) [] pos) ρ (eArgs AS fun ds => makeW F Xq Cl (ds ++ dds)) :=
  fun C Q z => we_make M Fk.up hr hg hm hb hd hdd ((h C _ z).mono fun ds C1 h1 => h1.asks hX) hdb he hpl
theorem se_make0 {q : Pos} (M : Mk X.K Cl f) (Fk : FnG X.prog X.w X.K X.mg X.base k f fd ps F) (hr : RoomG (k + 1) X.A) (hg : Gl X x) (hm : X.mg x = some (.ref Cl)) (hb : Binds X.K fd ps dus) (hd : Vals dvs dus) (hdd : ∀ H, Reps X.K H dds dvs)
    (hX : ∀ cls fs C, Xq cls fs C → T.XQ cls fs ρ C) (hdb : (x == ("__debug__" : Str)) = false := by decide) :
    SE T (.Call (.Name x q) [] [] pos) ρ (makeW F Xq Cl dds) := fun C Q z => we_make0 M Fk.up hr hg hm hb hd hdd (z.asks hX) hdb
end
end Tr

set_option maxHeartbeats 4000000
namespace Tr
open PySem L2 PySem.Spec PyProof.Rows
section
variable {X : Cx} {T : TX X} {ρ ρ' : Rho} {C : Cells} {N : TEnds} {e a b c o i elt : Expr} {pos pos' p p2 apos spos : Pos} {es tgs : List Expr} {st : Stmt} {rest body tb fb : List Stmt} {x m : Str} {A B A' : ME} {AS : MA} {mt mf mm : MB} {scope : Scope} {tg : Expr}

/-! ### fields, methods -/
def pFld (K : W.Frag) (m : Str) (d : D) : ME := fun C Q => ∃ Cl ns ds d', InsD C d Cl ns ds ∧ Cls K Cl ∧ NoAttr K Cl m ∧ (ns.zip ds).lookup m = some d' ∧ Q d' C
theorem se_fld (h : SE T e ρ A) (hb : attributeBase e m X.env (eval e X.env) = eval e X.env := by rfl) : SE T (.Attribute e m pos) ρ (eApp A (pFld X.K m)) :=
  fun C Q q => we_fld hb ((h C _ q).mono fun d C1 ⟨Cl, ns, ds, d', h1, h2, h3, h4, h5⟩ => ⟨Cl, ns, ds, d', h1, h2, h3, h4, h5⟩)
/-- o.m(..) where m is a method of the class Cl -/
abbrev eMeth (A : ME) (AS : MA) (Cl : Addr) (m : Str) (F : FS) (Xq : QX) (dds : List D) : ME := fun C Q => A C fun d C1 => (∃ ns fds, InsD C1 d Cl ns fds ∧ ns.contains m = false) ∧ AS C1 fun ds C2 => callW F Xq (d :: (ds ++ dds)) C2 Q
abbrev eMeth0 (A : ME) (Cl : Addr) (m : Str) (F : FS) (Xq : QX) (dds : List D) : ME := fun C Q => A C fun d C1 => (∃ ns fds, InsD C1 d Cl ns fds ∧ ns.contains m = false) ∧ callW F Xq (d :: dds) C1 Q
variable {k : Nat} {f Cl g : Addr} {fd : FuncData} {ps : List Str} {F : FS} {dvs : List V} {dds : List D} {dus : List Value} {Xq : QX}
theorem se_meth {pl : Sem Bool} (cl : Cls X.K Cl) (hm : Meth X.K Cl m g) (Fk : FnG X.prog X.w X.K X.mg X.base k g fd ps F) (hr : RoomG k X.A) (hb : Binds X.K fd ps dus) (hd : Vals dvs dus) (hdd : ∀ H, Reps X.K H dds dvs)
    (hX : ∀ cls fs C, Xq cls fs C → T.XQ cls fs ρ C) (h : SE T o ρ A) (hs : SA T (a :: es) ρ AS)
    (hst : starEach (a :: es) X.env = (false, eval a X.env) :: starEach es X.env := by rfl) (hpl : (backTo pos (starEach es X.env)).any (·.1) = false := by rfl)
    (ht : eval (.Call (.Attribute o m apos) (a :: es) [] pos) X.env = (do
      let ov ← eval o X.env
      standAt apos.atName
      let (f, first) ← holding [ov] (getMethod ov m pl)
      callWith pos f first (backTo pos (starEach (a :: es) X.env)) (backToKw pos (keywordEach [] X.env))) := by rfl) :
    SE T (.Call (.Attribute o m apos) (a :: es) [] pos) ρ (eMeth A AS Cl m F Xq dds) :=
  fun C Q z => we_meth (pl := pl) cl hm Fk.up hr hb hd hdd ((h C _ z).mono fun d C1 ⟨⟨ns, fds, h1, h2⟩, h3⟩ => ⟨ns, fds, h1, h2, (hs C1 _ h3).mono fun ds C2 h4 => h4.asks hX⟩) hst hpl ht
theorem se_meth0 {pl : Sem Bool} (cl : Cls X.K Cl) (hm : Meth X.K Cl m g) (Fk : FnG X.prog X.w X.K X.mg X.base k g fd ps F) (hr : RoomG k X.A) (hb : Binds X.K fd ps dus) (hd : Vals dvs dus) (hdd : ∀ H, Reps X.K H dds dvs)
    (hX : ∀ cls fs C, Xq cls fs C → T.XQ cls fs ρ C) (h : SE T o ρ A)
    (ht : eval (.Call (.Attribute o m apos) [] [] pos) X.env = (do
      let ov ← eval o X.env
      standAt apos.atName
      let (f, first) ← holding [ov] (getMethod ov m pl)
      callWith pos f first (backTo pos (starEach [] X.env)) (backToKw pos (keywordEach [] X.env))) := by rfl) :
    SE T (.Call (.Attribute o m apos) [] [] pos) ρ (eMeth0 A Cl m F Xq dds) :=
  fun C Q z => we_meth0 (pl := pl) cl hm Fk.up hr hb hd hdd ((h C _ z).mono fun d C1 ⟨⟨ns, fds, h1, h2⟩, h3⟩ => ⟨ns, fds, h1, h2, h3.asks hX⟩) ht
/-- C.m(..), a classmethod -/
theorem se_cmeth {pl : Sem Bool} (hc : CMetT X.K Cl m g) (Fk : FnG X.prog X.w X.K X.mg X.base k g fd ps F) (hr : RoomG k X.A) (hb : Binds X.K fd ps dus) (hd : Vals dvs dus) (hdd : ∀ H, Reps X.K H dds dvs)
    (hX : ∀ cls fs C, Xq cls fs C → T.XQ cls fs ρ C) (h : SE T o ρ (eVal (.raw (.ref Cl)))) (hs : SA T (a :: es) ρ AS)
    (hst : starEach (a :: es) X.env = (false, eval a X.env) :: starEach es X.env := by rfl) (hpl : (backTo pos (starEach es X.env)).any (·.1) = false := by rfl)
    (ht : eval (.Call (.Attribute o m apos) (a :: es) [] pos) X.env = (do
      let ov ← eval o X.env
      standAt apos.atName
      let (f, first) ← holding [ov] (getMethod ov m pl)
      callWith pos f first (backTo pos (starEach (a :: es) X.env)) (backToKw pos (keywordEach [] X.env))) := by rfl) :
    SE T (.Call (.Attribute o m apos) (a :: es) [] pos) ρ (eArgs AS fun ds => callW F Xq (.raw (.ref Cl) :: (ds ++ dds))) :=
  fun C Q z => we_cmeth (pl := pl) hc Fk.up hr hb hd hdd (h C _ ⟨rfl, (hs C _ z).mono fun ds C2 h4 => h4.asks hX⟩) hst hpl ht

/-! ### subscripts -/
def pIx : D → D → ME
  | .tup ds, .int i => fun C Q => ∃ d, atI ds i = some d ∧ Q d C
  | .lst ds, .int i => fun C Q => ∃ d, atI ds i = some d ∧ Q d C
  | .str s, .int i => fun C Q => s.length ≤ 100000 ∧ ∃ c, atI s.cps.toList i = some c ∧ Q (.str ⟨#[c]⟩) C
  | d, .int i => fun C Q => ∃ ds d', LstD C d ds ∧ atI ds i = some d' ∧ Q d' C
  | _, _ => fun _ _ => False
theorem pIx_iw {x y : D} {Q : QE} (h : pIx x y C Q) : IW T x y C Q := by
  cases y with
  | int i =>
    cases x with
    | tup ds => obtain ⟨d, h1, h2⟩ := h; exact iw_tup h1 h2
    | lst ds => obtain ⟨d, h1, h2⟩ := h; exact iw_lst .l h1 h2
    | str s => obtain ⟨h0, c, h1, h2⟩ := h; exact iw_str h0 h1 h2
    | _ => obtain ⟨ds, d', h1, h2, h3⟩ := h; exact iw_lst h1 h2 h3
  | _ => cases x <;> exact False.elim h
theorem se_ix (ha : SE T a ρ A) (hb : SE T b ρ B) (hs : PlainIx b := by intro _ _; rfl) : SE T (.Subscript a b pos) ρ (eBin A B pIx) :=
  fun C Q h => we_ix ((ha C _ h).mono fun x C1 h1 => (hb C1 _ h1).mono fun y C2 h2 => pIx_iw h2) hs
abbrev MO := Cells → (Option Int → Cells → Prop) → Prop
def SO (T : TX X) (e : Option Expr) (ρ : Rho) (A : MO) : Prop := ∀ C Q, A C Q → WO T e ρ C Q
abbrev oNone : MO := fun C Q => Q none C
def pOI : D → MO
  | .int i => fun C Q => Q (some i) C
  | _ => fun _ _ => False
abbrev oSome (A : ME) : MO := fun C Q => A C fun d C1 => pOI d C1 Q
theorem so_none : SO T none ρ oNone := fun C Q q => wo_none q
theorem so_some (h : SE T e ρ A) : SO T (some e) ρ (oSome A) := fun C Q q => wo_some ((h C _ q).mono fun d C1 h1 => by
  cases d with
  | int i => exact ⟨i, rfl, h1⟩
  | _ => exact False.elim h1)
def pSl (d : D) (l u : Option Int) : ME := match d with
  | .tup ds => fun C Q => Q (.tup (cutD ds l u)) C
  | .lst ds => fun C Q => Q (.lst (cutD ds l u)) C
  | .str s => fun C Q => s.length ≤ 100000 ∧ Q (.str (cutS s l u)) C
  | d => fun C Q => ∃ ds, LstD C d ds ∧ Q (.lst (cutD ds l u)) C
abbrev eSl (A : ME) (L U : MO) : ME := fun C Q => A C fun d C1 => L C1 fun l C2 => U C2 fun u C3 => pSl d l u C3 Q
theorem WO.mono {e : Option Expr} {Q Q' : Option Int → Cells → Prop} (h : WO T e ρ C Q) (i : ∀ d C', Q d C' → Q' d C') : WO T e ρ C Q' :=
  PO.imp h fun σ H R ⟨H0, a, k⟩ => ⟨H0, a, fun j C' H' H0' p c q => k j C' H' H0' p c (i j C' q)⟩
theorem se_slice {lo hi : Option Expr} {L U : MO} (h : SE T e ρ A) (hl : SO T lo ρ L) (hu : SO T hi ρ U) : SE T (.Subscript e (.Slice lo hi none p2) pos) ρ (eSl A L U) :=
  fun C Q q => we_slice ((h C _ q).mono fun d C1 h1 => (hl C1 _ h1).mono fun l C2 h2 => (hu C2 _ h2).mono fun u C3 h3 => by
    cases d with
    | tup ds => exact sw_tup h3
    | lst ds => exact sw_lst .l h3
    | str s => exact sw_str h3.1 h3.2
    | _ => obtain ⟨ds, h4, h5⟩ := h3; exact sw_lst h4 h5)
def pRev (d : D) : ME := fun C Q => ∃ ds, LstD C d ds ∧ Q (.lst ds.reverse) C
def pRevC (d : D) : ME := fun C Q => ∃ ds, LstD C d ds ∧ ∀ p, Q (.raw (.ref p)) ((p, .lst ds.reverse) :: C)
theorem se_rev {k : Nat} {p1 p2 p3 : Pos} (h : SE T e ρ A) : SE T (.Subscript e (.Slice none none (some (.UnaryOp .USub (.Constant (.int 1) k p1) p2)) p3) pos) ρ (eApp A pRev) := fun C Q q => we_rev (h C _ q)
theorem se_revC {k : Nat} {p1 p2 p3 : Pos} (h : SE T e ρ A) : SE T (.Subscript e (.Slice none none (some (.UnaryOp .USub (.Constant (.int 1) k p1) p2)) p3) pos) ρ (eApp A pRevC) := fun C Q q => we_revC (h C _ q)

/-! ### what is walked -/
/-- a list or a tuple -/
def pIter (d : D) : MI := match d with
  | .lst ds => fun C Q => Q ds (fun _ => True) C
  | .tup ds => fun C Q => Q ds (fun _ => True) C
  | d => fun C Q => ∃ ds, SeqD C d ds ∧ Q ds (fun C' => SeqD C' d ds) C
abbrev iApp (A : ME) (O : D → MI) : MI := fun C Q => A C fun d C1 => O d C1 Q
theorem wi_iter {Q : QI} (h : Tr.WE T e ρ C fun d C1 => pIter d C1 Q) : WI T tg e ρ C Q := by
  refine PI.imp (pi_seq h) fun σ H R ⟨H0, at_, k⟩ => ⟨H0, at_, fun v d C1 H1 H01 p1 c1 r1 q => ?_⟩
  have gen : ∀ {d : D}, Rep X.K H01 d v → (∃ ds, SeqD C1 d ds ∧ Q ds (fun C' => SeqD C' d ds) C1) → ∃ a xs, v = .ref a ∧ ((SqL X.K H1 a xs ∧ R (Itl X.K a) H1) ∨ (SqT X.K H1 a xs ∧ R (Itt X.K a) H1)) := by
    rintro d r1 ⟨ds, hq, q⟩
    rcases hq with (e1 | ⟨z, e1, hz⟩) | e1
    · subst e1
      obtain ⟨a, vs, e2, g1, g2⟩ := r1
      subst e2
      exact ⟨a, vs, rfl, .inl ⟨Same.sqL c1.same g1, k _ _ _ C1 H1 H01 p1 c1 ((yields_list g1 g2).weak fun _ _ => trivial) q⟩⟩
    · subst e1
      obtain rfl : v = .ref z := r1
      obtain ⟨vs, g1, g2⟩ := c1.ok z _ hz
      refine ⟨z, vs, rfl, .inl ⟨.inl (.inl g1), k _ _ _ C1 H1 H01 p1 c1 (yields_cell.weak fun C' h => ?_) q⟩⟩
      rcases h with (h | ⟨z', h, hm⟩) | h
      · cases h
      · cases h; exact hm
      · cases h
    · subst e1
      obtain ⟨a, vs, e2, g1, g2⟩ := r1
      subst e2
      exact ⟨a, vs, rfl, .inr ⟨Same.sqT c1.same g1, k _ _ _ C1 H1 H01 p1 c1 ((yields_tup g1 g2).weak fun _ _ => trivial) q⟩⟩
  cases d with
  | lst ds =>
    obtain ⟨a, vs, e2, g1, g2⟩ := r1
    subst e2
    exact ⟨a, vs, rfl, .inl ⟨Same.sqL c1.same g1, k _ _ _ C1 H1 H01 p1 c1 (yields_list g1 g2) q⟩⟩
  | tup ds =>
    obtain ⟨a, vs, e2, g1, g2⟩ := r1
    subst e2
    exact ⟨a, vs, rfl, .inr ⟨Same.sqT c1.same g1, k _ _ _ C1 H1 H01 p1 c1 (yields_tup g1 g2) q⟩⟩
  | _ => exact gen r1 q
theorem si_iter (h : SE T e ρ A) : SI T tg e ρ (iApp A pIter) := fun C Q q => wi_iter (h C _ q)
def pIterS (d : D) : MI := match d with
  | .str s => fun C Q => Q (signsD s) (fun _ => True) C
  | _ => fun _ _ => False
theorem si_iterS (h : SE T e ρ A) : SI T tg e ρ (iApp A pIterS) := fun C Q q => wi_str ((h C _ q).mono fun d C1 h1 => by
  cases d with
  | str s => exact ⟨s, rfl, h1⟩
  | _ => exact False.elim h1)
def pRange1 : D → MI
  | .int j => fun C Q => (-(2 ^ 62) ≤ j ∧ j < 2 ^ 62) ∧ Q (rangeD 0 j.toNat) (fun _ => True) C
  | _ => fun _ _ => False
def pRange2 : D → D → MI
  | .int i, .int j => fun C Q => (-(2 ^ 62) ≤ i ∧ i < 2 ^ 62 ∧ -(2 ^ 62) ≤ j ∧ j < 2 ^ 62) ∧ Q (rangeD i (j - i).toNat) (fun _ => True) C
  | _, _ => fun _ _ => False
abbrev iBin (A B : ME) (O : D → D → MI) : MI := fun C Q => A C fun x C1 => B C1 fun y C2 => O x y C2 Q
theorem si_range1 (hg : Gl X "range") (hm : X.mg "range" = none) (h : SE T a ρ A) (hs : starEach [a] X.env = [(false, eval a X.env)] := by rfl) (hs2 : starEach [a] X.env = (false, eval a X.env) :: starEach [] X.env := by rfl) : SI T tg (.Call (.Name "range" p) [a] [] pos) ρ (iApp A pRange1) :=
  fun C Q q => wi_range1 hg hm ((h C _ q).mono fun d C1 h1 => by
    cases d with
    | int j => exact ⟨j, rfl, h1.1.1, h1.1.2, h1.2⟩
    | _ => exact False.elim h1) hs hs2
theorem si_range2 (hg : Gl X "range") (hm : X.mg "range" = none) (h : SE T a ρ A) (h2 : SE T b ρ B) (hs : starEach [a, b] X.env = [(false, eval a X.env), (false, eval b X.env)] := by rfl) (hs2 : starEach [b] X.env = [(false, eval b X.env)] := by rfl)
    (hs3 : starEach [a, b] X.env = (false, eval a X.env) :: starEach [b] X.env := by rfl) (hs4 : starEach [b] X.env = (false, eval b X.env) :: starEach [] X.env := by rfl) : SI T tg (.Call (.Name "range" p) [a, b] [] pos) ρ (iBin A B pRange2) :=
  fun C Q q => wi_range2 hg hm ((h C _ q).mono fun d C1 h1 => (h2 C1 _ h1).mono fun d2 C2 h3 => by
    cases d with
    | int i =>
      cases d2 with
      | int j => exact ⟨i, j, rfl, rfl, h3.1, h3.2⟩
      | _ => exact False.elim h3
    | _ => cases d2 <;> exact False.elim h3) hs hs2 hs3 hs4
def pEnum (d : D) : MI := match d with
  | .lst ds => fun C Q => Q (enumD 0 ds) (fun _ => True) C
  | .tup ds => fun C Q => Q (enumD 0 ds) (fun _ => True) C
  | d => fun C Q => ∃ ds, SeqD C d ds ∧ Q (enumD 0 ds) (fun C' => SeqD C' d ds) C
theorem wi_enumI {Q : QI} {elts : List Expr} {kk : Nat} {tpos : Pos} (hg : Gl X "enumerate") (hm : X.mg "enumerate" = none) (h : Tr.WE T e ρ C fun d C1 => pEnum d C1 Q)
    (hs : starEach [e] X.env = [(false, eval e X.env)] := by rfl) (hs2 : starEach [e] X.env = (false, eval e X.env) :: starEach [] X.env := by rfl) : WI T (.Tuple elts kk tpos) (.Call (.Name "enumerate" p) [e] [] pos) ρ C Q :=
  wi_enum hg hm (h.mono fun d C1 h1 => by
    have gen : ∀ {d : D}, (∃ ds, SeqD C1 d ds ∧ Q (enumD 0 ds) (fun C' => SeqD C' d ds) C1) → (∀ ds, d ≠ .lst ds) → (∀ ds, d ≠ .tup ds) → ∃ ds, ((d = .lst ds ∨ d = .tup ds) ∧ Q (enumD 0 ds) (fun _ => True) C1) ∨ (∃ z, d = .raw (.ref z) ∧ (z, Cell.lst ds) ∈ C1 ∧ Q (enumD 0 ds) (fun C => (z, Cell.lst ds) ∈ C) C1) := by
      rintro d ⟨ds, hq, q⟩ n1 n2
      rcases hq with (e1 | ⟨z, e1, hz⟩) | e1
      · exact absurd e1 (n1 _)
      · refine ⟨ds, .inr ⟨z, e1, hz, ?_⟩⟩
        have : (fun C' => SeqD C' d ds) = fun C => (z, Cell.lst ds) ∈ C := by
          subst e1
          funext C'
          refine propext ⟨fun h => ?_, fun h => .inl (.inr ⟨z, rfl, h⟩)⟩
          rcases h with (h | ⟨z', h, hm⟩) | h
          · cases h
          · cases h; exact hm
          · cases h
        rw [← this]; exact q
      · exact absurd e1 (n2 _)
    cases d with
    | lst ds => exact ⟨ds, .inl ⟨.inl rfl, h1⟩⟩
    | tup ds => exact ⟨ds, .inl ⟨.inr rfl, h1⟩⟩
    | _ => exact gen h1 (fun _ h => by cases h) (fun _ h => by cases h)) hs hs2
theorem si_enum {elts : List Expr} {kk : Nat} {tpos : Pos} (hg : Gl X "enumerate") (hm : X.mg "enumerate" = none) (h : SE T e ρ A)
    (hs : starEach [e] X.env = [(false, eval e X.env)] := by rfl) (hs2 : starEach [e] X.env = (false, eval e X.env) :: starEach [] X.env := by rfl) : SI T (.Tuple elts kk tpos) (.Call (.Name "enumerate" p) [e] [] pos) ρ (iApp A pEnum) :=
  fun C Q q => wi_enumI hg hm (h C _ q) hs hs2

/-! ### comprehensions -/
def lcB (P : Cells → Prop) (f : D → ME) (Q : QE) : List D → List D → Cells → Prop
  | [], acc, C => P C ∧ Q (.lst acc) C
  | d :: r, acc, C => P C ∧ f d C fun y C2 => acc.length < 100000 ∧ lcB P f Q r (acc ++ [y]) C2
def lcB1 (P : Cells → Prop) (t : D → MT) (f : D → ME) (Q : QE) : List D → List D → Cells → Prop
  | [], acc, C => P C ∧ Q (.lst acc) C
  | d :: r, acc, C => P C ∧ t d C fun k C1 => if k = true then f d C1 fun y C2 => acc.length < 100000 ∧ lcB1 P t f Q r (acc ++ [y]) C2 else lcB1 P t f Q r acc C1
abbrev eLc (I : MI) (f : D → ME) : ME := fun C Q => I C fun ds P C1 => lcB P f Q ds [] C1
abbrev eLc1 (I : MI) (t : D → MT) (f : D → ME) : ME := fun C Q => I C fun ds P C1 => lcB1 P t f Q ds [] C1
abbrev SEb (T : TX X) (scope : Scope) (e : Expr) (ρ : Rho) (A : ME) : Prop := ∀ (s : Shared) (H : Hp) (Ca : Addr) (cl : List (Str × Addr)) (fp : List Addr), SE (T.blk s H scope (compEnvC scope cl Ca X.env) fp) e ρ A
abbrev STb (T : TX X) (scope : Scope) (e : Expr) (ρ : Rho) (A : MT) : Prop := ∀ (s : Shared) (H : Hp) (Ca : Addr) (cl : List (Str × Addr)) (fp : List Addr), ST (T.blk s H scope (compEnvC scope cl Ca X.env) fp) e ρ A
/-- an item laid into the slots; what is read from it -/
structure BdOk (bd : Bind) (ρ : Rho) (T : TX X) (scope : Scope) (e : Expr) (f : D → ME) : Prop where
  run : ∀ d C Q, f d C Q → ∃ ρ', bd.to d ρ = some ρ' ∧ ∀ (s : Shared) (H : Hp) (Ca : Addr) (cl : List (Str × Addr)) (fp : List Addr), Tr.WE (T.blk s H scope (compEnvC scope cl Ca X.env) fp) e ρ' C Q
structure BdOkT (bd : Bind) (ρ : Rho) (T : TX X) (scope : Scope) (e : Expr) (f : D → MT) : Prop where
  run : ∀ d C Q, f d C Q → ∃ ρ', bd.to d ρ = some ρ' ∧ ∀ (s : Shared) (H : Hp) (Ca : Addr) (cl : List (Str × Addr)) (fp : List Addr), WT (T.blk s H scope (compEnvC scope cl Ca X.env) fp) e ρ' C Q
theorem bd_one {j : Nat} {f : D → ME} {r : D → Rho} (hr : ∀ d, ρ.set j (some d) = r d) (h : ∀ d, SEb T scope e (r d) (f d)) : BdOk (.one j) ρ T scope e f :=
  ⟨fun d C Q q => ⟨_, rfl, fun s H Ca cl fp => by rw [hr d]; exact h d s H Ca cl fp C Q q⟩⟩
theorem bdT_one {j : Nat} {f : D → MT} {r : D → Rho} (hr : ∀ d, ρ.set j (some d) = r d) (h : ∀ d, STb T scope e (r d) (f d)) : BdOkT (.one j) ρ T scope e f :=
  ⟨fun d C Q q => ⟨_, rfl, fun s H Ca cl fp => by rw [hr d]; exact h d s H Ca cl fp C Q q⟩⟩
def un2 {β : Sort _} (d : D) (f : D → D → Cells → β → Prop) : Cells → β → Prop := match d with
  | .tup [x, y] => f x y
  | _ => fun _ _ => False
def un3 {β : Sort _} (d : D) (f : D → D → D → Cells → β → Prop) : Cells → β → Prop := match d with
  | .tup [x, y, z] => f x y z
  | _ => fun _ _ => False
theorem un2_ex {β : Sort _} {d : D} {f : D → D → Cells → β → Prop} {q : β} (h : un2 d f C q) : ∃ x y, d = .tup [x, y] ∧ f x y C q := by
  unfold un2 at h
  split at h
  · exact ⟨_, _, rfl, h⟩
  · exact False.elim h
theorem un3_ex {β : Sort _} {d : D} {f : D → D → D → Cells → β → Prop} {q : β} (h : un3 d f C q) : ∃ x y z, d = .tup [x, y, z] ∧ f x y z C q := by
  unfold un3 at h
  split at h
  · exact ⟨_, _, _, rfl, h⟩
  · exact False.elim h
theorem bd_two {j k : Nat} {f : D → D → ME} {r : D → D → Rho} (hr : ∀ x y, (ρ.set j (some x)).set k (some y) = r x y) (h : ∀ x y, SEb T scope e (r x y) (f x y)) : BdOk (.tup [j, k]) ρ T scope e (fun d => un2 d f) :=
  ⟨fun d C Q q => by
    obtain ⟨x, y, e1, q⟩ := un2_ex q
    subst e1
    exact ⟨_, rfl, fun s H Ca cl fp => by show Tr.WE _ _ ((ρ.set j (some x)).set k (some y)) _ _; rw [hr]; exact h x y s H Ca cl fp C Q q⟩⟩
theorem bdT_two {j k : Nat} {f : D → D → MT} {r : D → D → Rho} (hr : ∀ x y, (ρ.set j (some x)).set k (some y) = r x y) (h : ∀ x y, STb T scope e (r x y) (f x y)) : BdOkT (.tup [j, k]) ρ T scope e (fun d => un2 d f) :=
  ⟨fun d C Q q => by
    obtain ⟨x, y, e1, q⟩ := un2_ex q
    subst e1
    exact ⟨_, rfl, fun s H Ca cl fp => by show WT _ _ ((ρ.set j (some x)).set k (some y)) _ _; rw [hr]; exact h x y s H Ca cl fp C Q q⟩⟩
theorem bd_three {j k l : Nat} {f : D → D → D → ME} {r : D → D → D → Rho} (hr : ∀ x y z, ((ρ.set j (some x)).set k (some y)).set l (some z) = r x y z) (h : ∀ x y z, SEb T scope e (r x y z) (f x y z)) : BdOk (.tup [j, k, l]) ρ T scope e (fun d => un3 d f) :=
  ⟨fun d C Q q => by
    obtain ⟨x, y, z, e1, q⟩ := un3_ex q
    subst e1
    exact ⟨_, rfl, fun s H Ca cl fp => by show Tr.WE _ _ (((ρ.set j (some x)).set k (some y)).set l (some z)) _ _; rw [hr]; exact h x y z s H Ca cl fp C Q q⟩⟩
theorem lc_mirror {bd : Bind} {vs : List Nat} {P : Cells → Prop} {Q Q' : QE} {f : D → ME} (hb : BdOk bd (wipeR ρ vs) T scope elt f) (i : ∀ d C, Q d C → Q' d C) : ∀ {ds acc : List D} {C : Cells}, lcB P f Q ds acc C → LcW T scope bd elt vs ρ P Q' ds acc C
  | [], acc, C, h => ⟨h.1, i _ _ h.2⟩
  | d :: r, acc, C, ⟨hp, h⟩ => by
    obtain ⟨ρ', e1, h1⟩ := hb.run d C _ h
    exact ⟨hp, ρ', e1, fun s H Ca cl fp => (h1 s H Ca cl fp).mono fun y C2 ⟨hl, q⟩ => ⟨hl, lc_mirror hb i q⟩⟩
theorem lc1_mirror {bd : Bind} {vs : List Nat} {P : Cells → Prop} {Q Q' : QE} {t : D → MT} {f : D → ME} (ht : BdOkT bd (wipeR ρ vs) T scope i t) (hb : BdOk bd (wipeR ρ vs) T scope elt f) (im : ∀ d C, Q d C → Q' d C) : ∀ {ds acc : List D} {C : Cells}, lcB1 P t f Q ds acc C → LcW1 T scope bd i elt vs ρ P Q' ds acc C
  | [], acc, C, h => ⟨h.1, im _ _ h.2⟩
  | d :: r, acc, C, ⟨hp, h⟩ => by
    obtain ⟨ρ', e1, h1⟩ := ht.run d C _ h
    refine ⟨hp, ρ', e1, fun s H Ca cl fp => (h1 s H Ca cl fp).mono fun k C1 q => ?_⟩
    cases k with
    | false => exact lc1_mirror ht hb im q
    | true =>
      obtain ⟨ρ2, e2, h2⟩ := hb.run d C1 _ q
      rw [e1] at e2; cases e2
      exact fun s H Ca cl fp => (h2 s H Ca cl fp).mono fun y C2 ⟨hl, q⟩ => ⟨hl, lc1_mirror ht hb im q⟩
theorem se_lc {iter : Expr} {I : MI} {f : D → ME} (own : List (Str × Nat)) (bd : Bind) (hc : X.calm = true) (hN : X.N.Nodup) (ok : BlkOk X.N X.env.scope scope own)
    (hg : ∀ (s : Shared) (H : Hp) (Ca : Addr) (cl : List (Str × Addr)) (fp : List Addr), PG (X.blk s H scope (compEnvC scope cl Ca X.env) fp) tg (bd.g X.K)) (hv : ∀ i ∈ bd.slots, i ∈ own.map (·.2))
    (hI : SI T tg iter ρ I) (hb : BdOk bd (wipeR ρ (own.map (·.2))) T scope elt f) (hs : ∀ x, foldedSetIterable iter X.env x = pure x := by intro _; rfl) : SE T (.ListComp elt [⟨tg, iter, [], 0⟩] scope pos) ρ (eLc I f) :=
  fun C Q q => we_lc own bd hc hN ok hg hv ((hI C _ q).mono fun ds P C1 h => lc_mirror hb (fun _ _ q => q) h) hs
theorem se_lc1 {iter : Expr} {I : MI} {t : D → MT} {f : D → ME} (own : List (Str × Nat)) (bd : Bind) (hc : X.calm = true) (hN : X.N.Nodup) (ok : BlkOk X.N X.env.scope scope own)
    (hg : ∀ (s : Shared) (H : Hp) (Ca : Addr) (cl : List (Str × Addr)) (fp : List Addr), PG (X.blk s H scope (compEnvC scope cl Ca X.env) fp) tg (bd.g X.K)) (hv : ∀ i ∈ bd.slots, i ∈ own.map (·.2))
    (hI : SI T tg iter ρ I) (ht : BdOkT bd (wipeR ρ (own.map (·.2))) T scope i t) (hb : BdOk bd (wipeR ρ (own.map (·.2))) T scope elt f) (hs : ∀ x, foldedSetIterable iter X.env x = pure x := by intro _; rfl) : SE T (.ListComp elt [⟨tg, iter, [i], 0⟩] scope pos) ρ (eLc1 I t f) :=
  fun C Q q => we_lc1 own bd hc hN ok hg hv ((hI C _ q).mono fun ds P C1 h => lc1_mirror ht hb (fun _ _ q => q) h) hs

/-! ### statements -/
abbrev mSet (A : ME) (k : D → MB) : MB := fun C => A C fun d C1 => k d C1
abbrev mExp (A : ME) (m : MB) : MB := fun C => A C fun _ C1 => m C1
abbrev mRet (A : ME) (Q : QE) : MB := fun C => A C Q
abbrev mIf (t : MT) (m1 m2 : MB) : MB := fun C => t C fun k C1 => if k = true then m1 C1 else m2 C1
theorem sb_nil (h : ∀ C, mm C → N.nx ρ C) : SB T [] ρ mm N := fun C q => wss_nil (h C q)
theorem sb_more {mm : MB} (h : SB T rest ρ mm N) : SB T [] ρ mm { N with nx := fun ρ1 C1 => WSs T rest ρ1 C1 N } := fun C q => wss_nil (h C q)
theorem sb_le {α : Type} {enc : α → Rho} {J : α → MB} {W : QS} {V B' : QS} {R : QE} {s : α} (hJ : ∀ a ρ' C, LeR (enc a) ρ' → J a C → W ρ' C) (l : LeR (enc s) ρ) : SB T [] ρ (J s) { nx := W, rt := R, bk := V, ct := B' } := fun C q => wss_nil (hJ s _ C l q)
theorem sb_set {kk : D → MB} {r : D → Rho} (j : Nat) (hN : X.N.Nodup) (hi : X.N[j]? = some x) (hx : Loc X.env.scope x) (hr : ∀ d, ρ.set j (some d) = r d) (h : SE T e ρ A) (hk : ∀ d, SB T rest (r d) (kk d) N)
    (hs : swapsWith e (some (.Name x pos')) pos.line X.env = pure false := by rfl) (hf : X.fn x = true ∨ X.env.scope.names.lookup x = some .local := by first | exact .inl rfl | exact .inr rfl | assumption) :
    SB T (.Assign [.Name x pos'] e pos :: rest) ρ (mSet A kk) N :=
  fun C q => wss_cons (ws_set j hN hi hx ((h C _ q).mono fun d C1 h1 => by show WSs T rest (ρ.set j (some d)) C1 N; rw [hr]; exact hk d C1 h1) hs hf)
theorem sb_setLc {iter : Expr} {I : MI} {f : D → ME} {kk : D → MB} {r : D → Rho} {py : Pos} (own : List (Str × Nat)) (bd : Bind) (j : Nat) (hc : X.calm = true) (hN : X.N.Nodup) (hy : X.N[j]? = some x) (hyl : X.env.scope.names.lookup x = some .local)
    (hsw : swapsWith (.ListComp elt [⟨tg, iter, [], 0⟩] scope pos) (some (.Name x py)) spos.line X.env = pure true) (ok : BlkOk X.N X.env.scope scope own)
    (hg : ∀ (s : Shared) (H : Hp) (Ca : Addr) (cl : List (Str × Addr)) (fp : List Addr), PG (X.blk s H scope (compEnvC scope cl Ca X.env) fp) tg (bd.g X.K)) (hv : ∀ i ∈ bd.slots, i ∈ own.map (·.2))
    (hI : SI T tg iter ρ I) (hb : BdOk bd (wipeR ρ (own.map (·.2))) T scope elt f) (hr : ∀ d, ρ.set j (some d) = r d) (hk : ∀ d, SB T rest (r d) (kk d) N) (hs : ∀ x, foldedSetIterable iter X.env x = pure x := by intro _; rfl) :
    SB T (.Assign [.Name x py] (.ListComp elt [⟨tg, iter, [], 0⟩] scope pos) spos :: rest) ρ (mSet (eLc I f) kk) N :=
  fun C q => wss_cons (ws_setLc own bd j hc hN hy hyl hsw ok hg hv ((hI C _ q).mono fun ds P C1 h => lc_mirror hb (fun d C2 h => by show WSs T rest (ρ.set j (some d)) C2 N; rw [hr]; exact hk d C2 h) h) hs)
theorem sb_setLc1 {iter : Expr} {I : MI} {t : D → MT} {f : D → ME} {kk : D → MB} {r : D → Rho} {py : Pos} (own : List (Str × Nat)) (bd : Bind) (j : Nat) (hc : X.calm = true) (hN : X.N.Nodup) (hy : X.N[j]? = some x) (hyl : X.env.scope.names.lookup x = some .local)
    (hsw : swapsWith (.ListComp elt [⟨tg, iter, [i], 0⟩] scope pos) (some (.Name x py)) spos.line X.env = pure true) (ok : BlkOk X.N X.env.scope scope own)
    (hg : ∀ (s : Shared) (H : Hp) (Ca : Addr) (cl : List (Str × Addr)) (fp : List Addr), PG (X.blk s H scope (compEnvC scope cl Ca X.env) fp) tg (bd.g X.K)) (hv : ∀ i ∈ bd.slots, i ∈ own.map (·.2))
    (hI : SI T tg iter ρ I) (ht : BdOkT bd (wipeR ρ (own.map (·.2))) T scope i t) (hb : BdOk bd (wipeR ρ (own.map (·.2))) T scope elt f) (hr : ∀ d, ρ.set j (some d) = r d) (hk : ∀ d, SB T rest (r d) (kk d) N) (hs : ∀ x, foldedSetIterable iter X.env x = pure x := by intro _; rfl) :
    SB T (.Assign [.Name x py] (.ListComp elt [⟨tg, iter, [i], 0⟩] scope pos) spos :: rest) ρ (mSet (eLc1 I t f) kk) N :=
  fun C q => wss_cons (ws_setLc1 own bd j hc hN hy hyl hsw ok hg hv ((hI C _ q).mono fun ds P C1 h => lc1_mirror ht hb (fun d C2 h => by show WSs T rest (ρ.set j (some d)) C2 N; rw [hr]; exact hk d C2 h) h) hs)
theorem sb_ret {Q : QE} (h : SE T e ρ A) (hQ : ∀ d C, Q d C → N.rt d C) : SB T (.Return (some e) pos :: rest) ρ (mRet A Q) N := fun C q => wss_cons (ws_ret ((h C _ q).mono hQ))
theorem sb_retN {Q : QE} (hQ : ∀ d C, Q d C → N.rt d C) : SB T (.Return none pos :: rest) ρ (mRet (eVal .non) Q) N := fun C q => wss_cons (ws_retN (hQ _ _ q))
theorem sb_exp {m1 : MB} (h : SE T e ρ A) (hk : SB T rest ρ m1 N) (hs : swapsWith e none pos.line X.env = pure false := by rfl) : SB T (.Expr e pos :: rest) ρ (mExp A m1) N :=
  fun C q => wss_cons (ws_expr ((h C _ q).mono fun d C1 h1 => hk C1 h1) hs)
theorem sb_pass {m1 : MB} (hk : SB T rest ρ m1 N) : SB T (.Pass pos :: rest) ρ m1 N := fun C q => wss_cons (ws_pass (hk C q))
/-- a branch: what stands behind it follows in the mirror of each way that falls through -/
theorem sb_if {t : MT} (h : ST T c ρ t) (ht : SB T tb ρ mt { N with nx := fun ρ1 C1 => WSs T rest ρ1 C1 N }) (hf : SB T fb ρ mf { N with nx := fun ρ1 C1 => WSs T rest ρ1 C1 N }) : SB T (.If c tb fb pos :: rest) ρ (mIf t mt mf) N :=
  fun C q => wss_cons (ws_if ((h C _ q).mono fun k C1 h1 => by
    cases k with
    | true => exact ht C1 h1
    | false => exact hf C1 h1))
/-- both ways come together in J -/
theorem sb_ifJ {α : Type} {t : MT} (enc : α → Rho) (J : α → MB) (h : ST T c ρ t) (hJ : ∀ a, SB T rest (enc a) (J a) N)
    (ht : ∀ W : QS, (∀ a ρ' C, LeR (enc a) ρ' → J a C → W ρ' C) → SB T tb ρ mt { N with nx := W }) (hf : ∀ W : QS, (∀ a ρ' C, LeR (enc a) ρ' → J a C → W ρ' C) → SB T fb ρ mf { N with nx := W }) : SB T (.If c tb fb pos :: rest) ρ (mIf t mt mf) N :=
  have hw : ∀ a ρ' C, LeR (enc a) ρ' → J a C → WSs T rest ρ' C N := fun a ρ' C l q => wss_forget l (hJ a C q)
  fun C q => wss_cons (ws_if ((h C _ q).mono fun k C1 h1 => by
    cases k with
    | true => exact ht _ hw C1 h1
    | false => exact hf _ hw C1 h1))
/-- a loop -/
def mLoop {α : Type} (f : D → α → (α → MB) → (α → MB) → MB) (after : α → MB) (P : Cells → Prop) : List D → α → MB
  | [], s => fun C => P C ∧ after s C
  | d :: r, s => fun C => P C ∧ f d s (fun s' => mLoop f after P r s') after C
abbrev mFor {α : Type} (I : MI) (f : D → α → (α → MB) → (α → MB) → MB) (s0 : α) (after : α → MB) : MB := fun C => I C fun ds P C1 => mLoop f after P ds s0 C1
theorem loop_mirror {α : Type} {f : D → α → (α → MB) → (α → MB) → MB} {after : α → MB} {P : Cells → Prop} {enc : α → Rho}
    (hb : ∀ d s (nx bk : α → MB) (W V : QS), (∀ a ρ' C, LeR (enc a) ρ' → nx a C → W ρ' C) → (∀ a ρ' C, LeR (enc a) ρ' → bk a C → V ρ' C) → SG T tg d (enc s) body (f d s nx bk) { nx := W, rt := N.rt, bk := V, ct := W })
    (ha : ∀ a ρ' C, LeR (enc a) ρ' → after a C → N.nx ρ' C) : ∀ {ds : List D} {s : α} {ρ : Rho} {C : Cells}, LeR (enc s) ρ → mLoop f after P ds s C → ForW T tg body P N ds ρ C
  | [], s, ρ, C, l, ⟨hp, h⟩ => ⟨hp, ha s ρ C l h⟩
  | d :: r, s, ρ, C, l, ⟨hp, h⟩ => ⟨hp, wg_forget l (hb d s (fun s' => mLoop f after P r s') after (ForW T tg body P N r) N.nx (fun a ρ' C l h => loop_mirror hb ha l h) ha C h)⟩
theorem sb_for {α : Type} {f : D → α → (α → MB) → (α → MB) → MB} {iter : Expr} {I : MI} {s0 : α} {after : α → MB} (enc : α → Rho) (hc : X.calm = true) (hI : SI T tg iter ρ I) (h0 : LeR (enc s0) ρ)
    (hb : ∀ d s (nx bk : α → MB) (W V : QS), (∀ a ρ' C, LeR (enc a) ρ' → nx a C → W ρ' C) → (∀ a ρ' C, LeR (enc a) ρ' → bk a C → V ρ' C) → SG T tg d (enc s) body (f d s nx bk) { nx := W, rt := N.rt, bk := V, ct := W })
    (ha : ∀ s, SB T rest (enc s) (after s) N) (hs : ∀ x, foldedSetIterable iter X.env x = pure x := by intro _; rfl) : SB T (.For tg iter body [] pos :: rest) ρ (mFor I f s0 after) N :=
  fun C q => wss_cons (ws_for hc ((hI C _ q).mono fun ds P C1 h => loop_mirror (N := { N with nx := fun ρ1 C1 => WSs T rest ρ1 C1 N }) hb (fun a ρ' C l h => wss_forget l (ha a C h)) h0 h) hs)
theorem sb_break {α : Type} {enc : α → Rho} {J : α → MB} {W V B' : QS} {R : QE} {s : α} (hJ : ∀ a ρ' C, LeR (enc a) ρ' → J a C → V ρ' C) (l : LeR (enc s) ρ) : SB T (.Break pos :: rest) ρ (J s) { nx := W, rt := R, bk := V, ct := B' } := fun C q => wss_cons (ws_break (hJ s _ C l q))
theorem sb_continue {α : Type} {enc : α → Rho} {J : α → MB} {W V B' : QS} {R : QE} {s : α} (hJ : ∀ a ρ' C, LeR (enc a) ρ' → J a C → B' ρ' C) (l : LeR (enc s) ρ) : SB T (.Continue pos :: rest) ρ (J s) { nx := W, rt := R, bk := V, ct := B' } := fun C q => wss_cons (ws_continue (hJ s _ C l q))
/-- targets -/
theorem sg_name {d : D} {r : Rho} (j : Nat) (hr : ρ.set j (some d) = r) (h : SB T body r mm N) (hg : PG X (.Name x pos) (gName j)) : SG T (.Name x pos) d ρ body mm N :=
  fun C q => wg_name j (by rw [hr]; exact h C q) hg
def mUn2 (d : D) (f : D → D → MB) : MB := match d with
  | .tup [x, y] => f x y
  | _ => fun _ => False
def mUn3 (d : D) (f : D → D → D → MB) : MB := match d with
  | .tup [x, y, z] => f x y z
  | _ => fun _ => False
def mUn4 (d : D) (f : D → D → D → D → MB) : MB := match d with
  | .tup [x, y, z, u] => f x y z u
  | _ => fun _ => False
def mUn5 (d : D) (f : D → D → D → D → D → MB) : MB := match d with
  | .tup [x, y, z, u, v] => f x y z u v
  | _ => fun _ => False
theorem mUn2_ex {d : D} {f : D → D → MB} (h : mUn2 d f C) : ∃ x y, d = .tup [x, y] ∧ f x y C := by
  unfold mUn2 at h
  split at h
  · exact ⟨_, _, rfl, h⟩
  · exact False.elim h
theorem mUn3_ex {d : D} {f : D → D → D → MB} (h : mUn3 d f C) : ∃ x y z, d = .tup [x, y, z] ∧ f x y z C := by
  unfold mUn3 at h
  split at h
  · exact ⟨_, _, _, rfl, h⟩
  · exact False.elim h
theorem mUn4_ex {d : D} {f : D → D → D → D → MB} (h : mUn4 d f C) : ∃ x y z u, d = .tup [x, y, z, u] ∧ f x y z u C := by
  unfold mUn4 at h
  split at h
  · exact ⟨_, _, _, _, rfl, h⟩
  · exact False.elim h
theorem mUn5_ex {d : D} {f : D → D → D → D → D → MB} (h : mUn5 d f C) : ∃ x y z u v, d = .tup [x, y, z, u, v] ∧ f x y z u v C := by
  unfold mUn5 at h
  split at h
  · exact ⟨_, _, _, _, _, rfl, h⟩
  · exact False.elim h
/-- the parts of a tuple, each to its target -/
def GsOk (T : TX X) (tgs : List Expr) (ds : List D) (ρ r : Rho) : Prop := ∀ (C : Cells) (Q : QS), Q r C → WGs T tgs ds ρ C Q
theorem gs_nil : GsOk T [] [] ρ ρ := fun C Q q => wgs_nil q
theorem gs_cons {d : D} {ds : List D} {r : Rho} (j : Nat) (hg : PG X (.Name x pos) (gName j)) (h : GsOk T tgs ds (ρ.set j (some d)) r)
    (hs : (assignEach (.Name x pos :: tgs) X.env).map (·.2) = assign (.Name x pos) X.env :: (assignEach tgs X.env).map (·.2) := by rfl) : GsOk T (.Name x pos :: tgs) (d :: ds) ρ r :=
  fun C Q q => wgs_cons (wg_name j (h C Q q) hg) hs
theorem wg_tupG {tgs : List Expr} {kk : Nat} {ds : List D} {Q : QS} {r : Rho} (hc : X.calm = true) (h : GsOk T tgs ds ρ r) (q : Q r C) (hn : (assignEach tgs X.env).length = ds.length) (hst : (assignEach tgs X.env).findIdx? (·.1) = none := by rfl) : WG T (.Tuple tgs kk pos) (.tup ds) ρ C Q :=
  wg_tup hc (h C Q q) rfl hn hst
theorem sg_two {d : D} {kk : Nat} {f : D → D → MB} {r : D → D → Rho} (hc : X.calm = true) (h : ∀ x y, GsOk T tgs [x, y] ρ (r x y)) (hb : ∀ x y, SB T body (r x y) (f x y) N) (hn : (assignEach tgs X.env).length = 2 := by rfl) (hst : (assignEach tgs X.env).findIdx? (·.1) = none := by rfl) : SG T (.Tuple tgs kk pos) d ρ body (mUn2 d f) N :=
  fun C q => by
    obtain ⟨x, y, e, q⟩ := mUn2_ex q
    subst e
    exact wg_tupG hc (h x y) (hb x y C q) hn hst
theorem sg_three {d : D} {kk : Nat} {f : D → D → D → MB} {r : D → D → D → Rho} (hc : X.calm = true) (h : ∀ x y z, GsOk T tgs [x, y, z] ρ (r x y z)) (hb : ∀ x y z, SB T body (r x y z) (f x y z) N) (hn : (assignEach tgs X.env).length = 3 := by rfl) (hst : (assignEach tgs X.env).findIdx? (·.1) = none := by rfl) : SG T (.Tuple tgs kk pos) d ρ body (mUn3 d f) N :=
  fun C q => by
    obtain ⟨x, y, z, e, q⟩ := mUn3_ex q
    subst e
    exact wg_tupG hc (h x y z) (hb x y z C q) hn hst
theorem sg_four {d : D} {kk : Nat} {f : D → D → D → D → MB} {r : D → D → D → D → Rho} (hc : X.calm = true) (h : ∀ x y z u, GsOk T tgs [x, y, z, u] ρ (r x y z u)) (hb : ∀ x y z u, SB T body (r x y z u) (f x y z u) N) (hn : (assignEach tgs X.env).length = 4 := by rfl) (hst : (assignEach tgs X.env).findIdx? (·.1) = none := by rfl) : SG T (.Tuple tgs kk pos) d ρ body (mUn4 d f) N :=
  fun C q => by
    obtain ⟨x, y, z, u, e, q⟩ := mUn4_ex q
    subst e
    exact wg_tupG hc (h x y z u) (hb x y z u C q) hn hst
/-- target = value; its target a tuple of names or a place -/
theorem sb_asg {kk : D → MB} (h : SE T e ρ A) (hk : ∀ d, SG T tg d ρ rest (kk d) N) (hs : swapsWithSole [tg] e pos.line X.env = pure false := by rfl) (hw : swappedStores [tg] e X.env = pure none := by rfl)
    (h1 : (assignEach [tg] X.env).map (·.2) = [assign tg X.env] := by rfl) : SB T (.Assign [tg] e pos :: rest) ρ (mSet A kk) N :=
  fun C q => wss_cons (ws_asg ((h C _ q).mono fun d C1 h1 => hk d C1 h1) hs hw h1)
/-- x, y = a, b -/
theorem sb_par {kk : D → D → MB} {r : D → D → Rho} {px py pt pt2 : Pos} {y : Str} {kt k2 : Nat} (i j : Nat) (hN : X.N.Nodup) (hi : X.N[i]? = some x) (hj : X.N[j]? = some y) (hij : i ≠ j) (hx : X.env.scope.names.lookup x = some .local) (hy : X.env.scope.names.lookup y = some .local)
    (hw : swappedStores [.Tuple [.Name x px, .Name y py] kt pt] (.Tuple [a, b] k2 pt2) X.env = pure (some [x, y])) (ha : SE T a ρ A) (hb : SE T b ρ B) (hr : ∀ d d2, (ρ.set i (some d)).set j (some d2) = r d d2) (hk : ∀ d d2, SB T rest (r d d2) (kk d d2) N)
    (hs : swapsWithSole [.Tuple [.Name x px, .Name y py] kt pt] (.Tuple [a, b] k2 pt2) pos.line X.env = pure false := by rfl) (hc : X.calm = true := by rfl)
    (hst : starEach [a, b] X.env = (false, eval a X.env) :: starEach [b] X.env := by rfl) (hst2 : starEach [b] X.env = (false, eval b X.env) :: starEach [] X.env := by rfl) :
    SB T (.Assign [.Tuple [.Name x px, .Name y py] kt pt] (.Tuple [a, b] k2 pt2) pos :: rest) ρ (mSet A fun d => mSet B fun d2 => kk d d2) N :=
  fun C q => wss_cons (ws_par i j hN hi hj hij hx hy hw (wa_cons ((ha C _ q).mono fun d C1 h1 => wa_cons ((hb C1 _ h1).mono fun d2 C2 h2 => wa_nil ⟨d, d2, rfl, by show WSs T rest _ C2 N; rw [hr]; exact hk d d2 C2 h2⟩) hst2) hst) hs hc)
end
end Tr

set_option maxHeartbeats 4000000
namespace Tr
open PySem L2 PySem.Spec PyProof.Rows
section
variable {X : Cx} {T : TX X} {ρ ρ' : Rho} {C : Cells} {N : TEnds} {e a b c o i elt : Expr} {pos pos' p p2 apos cpos : Pos} {es tgs : List Expr} {st : Stmt} {rest body tb fb : List Stmt} {x m : Str} {A B A' : ME} {AS : MA} {mt mf mm : MB} {Q : QE}

/-! ### operators -/
def oAdd : D → D → ME
  | .int i, .int j => fun C Q => Q (.int (i + j)) C
  | .str x, .str y => fun C Q => x.length + y.length ≤ 100000 ∧ Q (.str (x ++ y)) C
  | .tup xs, .tup ys => fun C Q => xs.length + ys.length ≤ 100000 ∧ Q (.tup (xs ++ ys)) C
  | .lst xs, .lst ys => fun C Q => xs.length + ys.length ≤ 100000 ∧ Q (.lst (xs ++ ys)) C
  | x, y => fun C Q => ∃ xs ys, LstD C x xs ∧ LstD C y ys ∧ xs.length + ys.length ≤ 100000 ∧ Q (.lst (xs ++ ys)) C
theorem oAdd_ok (x y : D) (C : Cells) (Q : QE) (h : oAdd x y C Q) : OW T (binaryOp .Add) x y C Q := by
  unfold oAdd at h
  split at h
  · exact ow_add h
  · exact ow_add_str h.1 h.2
  · exact ow_catT h.1 h.2
  · exact ow_cat .l .l h.1 h.2
  · obtain ⟨xs, ys, h1, h2, h3, h4⟩ := h; exact ow_cat h1 h2 h3 h4
/-- xs + ys as a list that may change -/
def oAddC (x y : D) : ME := fun C Q => ∃ xs ys, LstD C x xs ∧ LstD C y ys ∧ xs.length + ys.length ≤ 100000 ∧ ∀ p, Q (.raw (.ref p)) ((p, .lst (xs ++ ys)) :: C)
theorem oAddC_ok (x y : D) (C : Cells) (Q : QE) (h : oAddC x y C Q) : OW T (binaryOp .Add) x y C Q := by
  obtain ⟨xs, ys, h1, h2, h3, h4⟩ := h; exact ow_catC h1 h2 h3 h4
def oSub : D → D → ME
  | .int i, .int j => fun C Q => Q (.int (i - j)) C
  | _, _ => fun _ _ => False
theorem oSub_ok (x y : D) (C : Cells) (Q : QE) (h : oSub x y C Q) : OW T (binaryOp .Sub) x y C Q := by
  unfold oSub at h; split at h
  · exact ow_sub h
  · exact h.elim
def oMul : D → D → ME
  | .int i, .int j => fun C Q => CMul i j ∧ Q (.int (i * j)) C
  | _, _ => fun _ _ => False
theorem oMul_ok (x y : D) (C : Cells) (Q : QE) (h : oMul x y C Q) : OW T (binaryOp .Mult) x y C Q := by
  unfold oMul at h; split at h
  · exact ow_mul h.1 h.2
  · exact h.elim
def oFdiv : D → D → ME
  | .int i, .int j => fun C Q => (0 < j ∧ j < 1073741824) ∧ Q (.int (i / j)) C
  | _, _ => fun _ _ => False
theorem oFdiv_ok (x y : D) (C : Cells) (Q : QE) (h : oFdiv x y C Q) : OW T (binaryOp .FloorDiv) x y C Q := by
  unfold oFdiv at h; split at h
  · exact ow_fdiv h.1 h.2
  · exact h.elim
def oMod : D → D → ME
  | .int i, .int j => fun C Q => 0 < j ∧ Q (.int (i % j)) C
  | _, _ => fun _ _ => False
theorem oMod_ok (x y : D) (C : Cells) (Q : QE) (h : oMod x y C Q) : OW T (binaryOp .Mod) x y C Q := by
  unfold oMod at h; split at h
  · exact ow_mod h.1 h.2
  · exact h.elim
def oPow : D → D → ME
  | .int i, .int j => fun C Q => CPow i j ∧ Q (.int (i ^ j.toNat)) C
  | _, _ => fun _ _ => False
theorem oPow_ok (x y : D) (C : Cells) (Q : QE) (h : oPow x y C Q) : OW T (binaryOp .Pow) x y C Q := by
  unfold oPow at h; split at h
  · exact ow_pow h.1 h.2
  · exact h.elim
theorem ow_lt_str {x y : Str} (q : Q (.bl (decide (x.cps.toList < y.cps.toList))) C) : OW T (compareOp .Lt) (.str x) (.str y) C Q :=
  ow_look (d := .bl (decide (x.cps.toList < y.cps.toList))) op_lt_str (fun u v H H0 c r1 r2 => by cases r1; cases r2; exact ⟨.bl (decide (x.cps.toList < y.cps.toList)), rfl, fun R k => ⟨x, y, rfl, rfl, k⟩⟩) q
theorem ow_le_str {x y : Str} (q : Q (.bl (!decide (y.cps.toList < x.cps.toList))) C) : OW T (compareOp .LtE) (.str x) (.str y) C Q :=
  ow_look (d := .bl (!decide (y.cps.toList < x.cps.toList))) op_le_str (fun u v H H0 c r1 r2 => by cases r1; cases r2; exact ⟨.bl (!decide (y.cps.toList < x.cps.toList)), rfl, fun R k => ⟨x, y, rfl, rfl, k⟩⟩) q
def oLt : D → D → ME
  | .int i, .int j => fun C Q => Q (.bl (decide (i < j))) C
  | .str x, .str y => fun C Q => Q (.bl (decide (x.cps.toList < y.cps.toList))) C
  | _, _ => fun _ _ => False
theorem oLt_ok (x y : D) (C : Cells) (Q : QE) (h : oLt x y C Q) : OW T (compareOp .Lt) x y C Q := by
  unfold oLt at h; split at h
  · exact ow_lt h
  · exact ow_lt_str h
  · exact h.elim
def oLe : D → D → ME
  | .int i, .int j => fun C Q => Q (.bl (decide (i ≤ j))) C
  | .str x, .str y => fun C Q => Q (.bl (!decide (y.cps.toList < x.cps.toList))) C
  | _, _ => fun _ _ => False
theorem oLe_ok (x y : D) (C : Cells) (Q : QE) (h : oLe x y C Q) : OW T (compareOp .LtE) x y C Q := by
  unfold oLe at h; split at h
  · exact ow_le h
  · exact ow_le_str h
  · exact h.elim
def oGt : D → D → ME
  | .int i, .int j => fun C Q => Q (.bl (decide (j < i))) C
  | _, _ => fun _ _ => False
theorem oGt_ok (x y : D) (C : Cells) (Q : QE) (h : oGt x y C Q) : OW T (compareOp .Gt) x y C Q := by
  unfold oGt at h; split at h
  · exact ow_gt h
  · exact h.elim
def oGe : D → D → ME
  | .int i, .int j => fun C Q => Q (.bl (decide (j ≤ i))) C
  | _, _ => fun _ _ => False
theorem oGe_ok (x y : D) (C : Cells) (Q : QE) (h : oGe x y C Q) : OW T (compareOp .GtE) x y C Q := by
  unfold oGe at h; split at h
  · exact ow_ge h
  · exact h.elim
/-- ==, !=: own is what own classes do -/
def oEq (own : D → D → ME) : D → D → ME
  | .int i, .int j => fun C Q => Q (.bl (decide (i = j))) C
  | .str x, .str y => fun C Q => Q (.bl (decide (x = y))) C
  | .bl x, .bl y => fun C Q => Q (.bl (x == y)) C
  | x, y => fun C Q => (∃ p1 p2, PyR C x p1 ∧ PyR C y p2 ∧ SeqAt.shaped p1 = true ∧ SeqAt.shaped p2 = true ∧ Q (.bl (PyData.eqv p1 p2)) C) ∨ own x y C Q
theorem oEq_ok {own : D → D → ME} (hu : X.A.units + 64 < cLine) (ho : ∀ x y C Q, own x y C Q → OW T (compareOp .Eq) x y C Q) (x y : D) (C : Cells) (Q : QE) (h : oEq own x y C Q) : OW T (compareOp .Eq) x y C Q := by
  unfold oEq at h; split at h
  · exact ow_eq_int h
  · exact ow_eq_str h
  · exact ow_eq_bl h
  · rcases h with ⟨p1, p2, h1, h2, h3, h4, h5⟩ | h
    · exact ow_eq hu h1 h2 h3 h4 h5
    · exact ho _ _ _ _ h
def oNe (own : D → D → ME) : D → D → ME
  | .int i, .int j => fun C Q => Q (.bl (!decide (i = j))) C
  | .str x, .str y => fun C Q => Q (.bl (!decide (x = y))) C
  | .bl x, .bl y => fun C Q => Q (.bl (x != y)) C
  | x, y => fun C Q => (∃ p1 p2, PyR C x p1 ∧ PyR C y p2 ∧ SeqAt.shaped p1 = true ∧ SeqAt.shaped p2 = true ∧ Q (.bl (!PyData.eqv p1 p2)) C) ∨ own x y C Q
theorem oNe_ok {own : D → D → ME} (hu : X.A.units + 64 < cLine) (ho : ∀ x y C Q, own x y C Q → OW T (compareOp .NotEq) x y C Q) (x y : D) (C : Cells) (Q : QE) (h : oNe own x y C Q) : OW T (compareOp .NotEq) x y C Q := by
  unfold oNe at h; split at h
  · exact ow_ne_int h
  · exact ow_ne_str h
  · exact ow_ne_bl h
  · rcases h with ⟨p1, p2, h1, h2, h3, h4, h5⟩ | h
    · exact ow_ne hu h1 h2 h3 h4 h5
    · exact ho _ _ _ _ h
abbrev noOwn : D → D → ME := fun _ _ _ _ => False
theorem noOwn_ok {f : Value → Value → Sem Value} (x y : D) (C : Cells) (Q : QE) (h : noOwn x y C Q) : OW T f x y C Q := h.elim
theorem ow_is_bl {x y : Bool} (q : Q (.bl (decide (x = y))) C) : OW T (compareOp .Is) (.bl x) (.bl y) C Q :=
  ow_look (d := .bl (decide (x = y))) op_isBl (fun u v H H0 c r1 r2 => by cases r1; cases r2; exact ⟨.bl (decide (x = y)), rfl, fun R k => ⟨x, y, rfl, rfl, k⟩⟩) q
theorem ow_isnot_bl {x y : Bool} (q : Q (.bl (!decide (x = y))) C) : OW T (compareOp .IsNot) (.bl x) (.bl y) C Q :=
  ow_look (d := .bl (!decide (x = y))) op_notBl (fun u v H H0 c r1 r2 => by cases r1; cases r2; exact ⟨.bl (!decide (x = y)), rfl, fun R k => ⟨x, y, rfl, rfl, k⟩⟩) q
theorem ow_isN_ref {a : Addr} (q : Q (.bl false) C) : OW T (compareOp .Is) (.raw (.ref a)) .non C Q :=
  ow_look (d := .bl false) op_isN (fun x y H H0 c r1 r2 => by cases r1; cases r2; exact ⟨.bl false, rfl, fun R k => ⟨rfl, by rw [show decide (V.ref a = .non) = false from rfl]; exact k⟩⟩) q
theorem ow_isNotN_ref {a : Addr} (q : Q (.bl true) C) : OW T (compareOp .IsNot) (.raw (.ref a)) .non C Q :=
  ow_look (d := .bl true) op_notN (fun x y H H0 c r1 r2 => by cases r1; cases r2; exact ⟨.bl true, rfl, fun R k => ⟨rfl, by rw [show (!decide (V.ref a = .non)) = true from rfl]; exact k⟩⟩) q
def oIs : D → D → ME
  | .bl x, .bl y => fun C Q => Q (.bl (decide (x = y))) C
  | .raw (.ref _), .non => fun C Q => Q (.bl false) C
  | d, .non => fun C Q => (∀ w, d ≠ .raw w) ∧ Q (.bl (isNon d)) C
  | _, _ => fun _ _ => False
theorem oIs_ok (x y : D) (C : Cells) (Q : QE) (h : oIs x y C Q) : OW T (compareOp .Is) x y C Q := by
  unfold oIs at h; split at h
  · exact ow_is_bl h
  · exact ow_isN_ref h
  · exact ow_isN h.1 h.2
  · exact h.elim
def oIsNot : D → D → ME
  | .bl x, .bl y => fun C Q => Q (.bl (!decide (x = y))) C
  | .raw (.ref _), .non => fun C Q => Q (.bl true) C
  | d, .non => fun C Q => (∀ w, d ≠ .raw w) ∧ Q (.bl (!isNon d)) C
  | _, _ => fun _ _ => False
theorem oIsNot_ok (x y : D) (C : Cells) (Q : QE) (h : oIsNot x y C Q) : OW T (compareOp .IsNot) x y C Q := by
  unfold oIsNot at h; split at h
  · exact ow_isnot_bl h
  · exact ow_isNotN_ref h
  · exact ow_isNotN h.1 h.2
  · exact h.elim
/-- x in y: a sequence of flat data; a sign in a text -/
def oIn (x y : D) : ME := fun C Q => (∃ ds, SeqD C y ds ∧ flatD x = true ∧ ds.all flatD = true ∧ Q (.bl (inD x ds)) C) ∨ (∃ n z, x = .str ⟨#[n]⟩ ∧ y = .str z ∧ Q (.bl (decide (n ∈ z.cps.toList))) C)
theorem oIn_ok (x y : D) (C : Cells) (Q : QE) (h : oIn x y C Q) : OW T (compareOp .In) x y C Q := by
  rcases h with ⟨ds, h1, h2, h3, h4⟩ | ⟨n, z, rfl, rfl, h⟩
  · exact ow_in h1 h2 h3 h4
  · exact ow_inSign h
def oNotIn (x y : D) : ME := fun C Q => ∃ ds, SeqD C y ds ∧ flatD x = true ∧ ds.all flatD = true ∧ Q (.bl (!inD x ds)) C
theorem oNotIn_ok (x y : D) (C : Cells) (Q : QE) (h : oNotIn x y C Q) : OW T (compareOp .NotIn) x y C Q := by
  obtain ⟨ds, h1, h2, h3, h4⟩ := h
  exact ow_notIn h1 h2 h3 h4

/-! ### builtins -/
abbrev no1 : D → ME := fun _ _ _ => False
def pLen1 (own : D → ME) : D → ME
  | .lst ds => fun C Q => Q (.int ds.length) C
  | .tup ds => fun C Q => Q (.int ds.length) C
  | .str s => fun C Q => s.length ≤ 100000 ∧ Q (.int s.length) C
  | d => fun C Q => (∃ ds, LstD C d ds ∧ Q (.int ds.length) C) ∨ own d C Q
def on1 (P : D → ME) : List D → ME
  | [d] => P d
  | _ => fun _ _ => False
def on2 (P : D → D → ME) : List D → ME
  | [d, d2] => P d d2
  | _ => fun _ _ => False
theorem on1_ok {P : D → ME} {f : Value} (h : ∀ d C Q, P d C Q → CW T f [d] C Q) (ds : List D) (C : Cells) (Q : QE) (q : on1 P ds C Q) : CW T f ds C Q := by
  unfold on1 at q; split at q
  · exact h _ _ _ q
  · exact q.elim
theorem on2_ok {P : D → D → ME} {f : Value} (h : ∀ d d2 C Q, P d d2 C Q → CW T f [d, d2] C Q) (ds : List D) (C : Cells) (Q : QE) (q : on2 P ds C Q) : CW T f ds C Q := by
  unfold on2 at q; split at q
  · exact h _ _ _ _ q
  · exact q.elim
theorem no1_ok {f : Value} (d : D) (C : Cells) (Q : QE) (q : no1 d C Q) : CW T f [d] C Q := q.elim
theorem pLen_ok {own : D → ME} (ho : ∀ d C Q, own d C Q → CW T (.builtin "len") [d] C Q) (ds : List D) (C : Cells) (Q : QE) (h : on1 (pLen1 own) ds C Q) : CW T (.builtin "len") ds C Q :=
  on1_ok (fun d C Q h => by
    unfold pLen1 at h; split at h
    · exact cw_len .l h
    · exact cw_len .t h
    · exact cw_len_str h.1 h.2
    · rcases h with ⟨ds, h1, h2⟩ | h
      · exact cw_len (.inl h1) h2
      · exact ho _ _ _ h) ds C Q h
def pStr1 (own : D → ME) : D → ME
  | .str s => fun C Q => Q (.str s) C
  | .int i => fun C Q => i.natAbs.log2 < 1920 ∧ Q (.str (toString i)) C
  | d => own d
theorem pStr_ok {own : D → ME} (ho : ∀ d C Q, own d C Q → CW T (.type "str") [d] C Q) (ds : List D) (C : Cells) (Q : QE) (h : on1 (pStr1 own) ds C Q) : CW T (.type "str") ds C Q :=
  on1_ok (fun d C Q h => by
    unfold pStr1 at h; split at h
    · exact cw_str_str h
    · exact cw_str_int h.1 h.2
    · exact ho _ _ _ h) ds C Q h
def pInt1 : D → ME
  | .int i => fun C Q => Q (.int i) C
  | .bl k => fun C Q => Q (.int (if k then 1 else 0)) C
  | .str s => fun C Q => s.length ≤ 640 ∧ ∃ n, intText? s = some n ∧ Q (.int n) C
  | _ => fun _ _ => False
theorem pInt_ok (ds : List D) (C : Cells) (Q : QE) (h : on1 pInt1 ds C Q) : CW T (.type "int") ds C Q :=
  on1_ok (fun d C Q h => by
    unfold pInt1 at h; split at h
    · exact cw_int h
    · exact cw_int_bl h
    · obtain ⟨h1, n, h2, h3⟩ := h; exact cw_int_str h2 h1 h3
    · exact h.elim) ds C Q h
def pList1 : D → ME
  | .lst ds => fun C Q => Q (.lst ds) C
  | .tup ds => fun C Q => Q (.lst ds) C
  | d => fun C Q => ∃ ds, SeqD C d ds ∧ Q (.lst ds) C
theorem pList_ok (ds : List D) (C : Cells) (Q : QE) (h : on1 pList1 ds C Q) : CW T (.type "list") ds C Q :=
  on1_ok (fun d C Q h => by
    unfold pList1 at h; split at h
    · exact cw_list .l h
    · exact cw_list .t h
    · obtain ⟨ds, h1, h2⟩ := h; exact cw_list h1 h2) ds C Q h
def pListC1 : D → ME
  | .lst ds => fun C Q => ∀ p, Q (.raw (.ref p)) ((p, .lst ds) :: C)
  | .tup ds => fun C Q => ∀ p, Q (.raw (.ref p)) ((p, .lst ds) :: C)
  | d => fun C Q => ∃ ds, SeqD C d ds ∧ ∀ p, Q (.raw (.ref p)) ((p, .lst ds) :: C)
theorem pListC_ok (ds : List D) (C : Cells) (Q : QE) (h : on1 pListC1 ds C Q) : CW T (.type "list") ds C Q :=
  on1_ok (fun d C Q h => by
    unfold pListC1 at h; split at h
    · exact cw_listC .l h
    · exact cw_listC .t h
    · obtain ⟨ds, h1, h2⟩ := h; exact cw_listC h1 h2) ds C Q h
def pTuple1 : D → ME
  | .lst ds => fun C Q => Q (.tup ds) C
  | .tup ds => fun C Q => Q (.tup ds) C
  | d => fun C Q => ∃ ds, SeqD C d ds ∧ Q (.tup ds) C
theorem pTuple_ok (ds : List D) (C : Cells) (Q : QE) (h : on1 pTuple1 ds C Q) : CW T (.type "tuple") ds C Q :=
  on1_ok (fun d C Q h => by
    unfold pTuple1 at h; split at h
    · exact cw_tuple .l h
    · exact cw_tuple .t h
    · obtain ⟨ds, h1, h2⟩ := h; exact cw_tuple h1 h2) ds C Q h
def pAll1 (d : D) : ME := fun C Q => ∃ bs : List Bool, d = .lst (bs.map D.bl) ∧ Q (.bl (bs.all id)) C
def pAny1 (d : D) : ME := fun C Q => ∃ bs : List Bool, d = .lst (bs.map D.bl) ∧ Q (.bl (bs.any id)) C
theorem pAll_ok (hc : X.calm = true) (ds : List D) (C : Cells) (Q : QE) (h : on1 pAll1 ds C Q) : CW T (.builtin "all") ds C Q :=
  on1_ok (fun d C Q ⟨bs, h1, h2⟩ => by subst h1; exact cw_all hc h2) ds C Q h
theorem pAny_ok (hc : X.calm = true) (ds : List D) (C : Cells) (Q : QE) (h : on1 pAny1 ds C Q) : CW T (.builtin "any") ds C Q :=
  on1_ok (fun d C Q ⟨bs, h1, h2⟩ => by subst h1; exact cw_any hc h2) ds C Q h
def pAbs1 : D → ME
  | .int i => fun C Q => Q (.int (if i < 0 then -i else i)) C
  | _ => fun _ _ => False
theorem pAbs_ok (ds : List D) (C : Cells) (Q : QE) (h : on1 pAbs1 ds C Q) : CW T (.builtin "abs") ds C Q :=
  on1_ok (fun d C Q h => by
    unfold pAbs1 at h; split at h
    · exact cw_abs h
    · exact h.elim) ds C Q h
theorem cw_max2 {i j : Int} (hc : X.calm = true) (q : Q (.int (if j > i then j else i)) C) : CW T (.builtin "max") [.int i, .int j] C Q :=
  cw_look (d := .int (if j > i then j else i)) (call_max2 hc) (fun xs H H0 c r => by
    obtain ⟨v, w, e1, r1, r2⟩ := r.two
    cases r1; cases r2; subst e1
    exact ⟨_, rfl, fun R k => ⟨i, j, rfl, k⟩⟩) q
def pMax2 : D → D → ME
  | .int i, .int j => fun C Q => Q (.int (if j > i then j else i)) C
  | _, _ => fun _ _ => False
theorem pMax_ok (hc : X.calm = true) (ds : List D) (C : Cells) (Q : QE) (h : on2 pMax2 ds C Q) : CW T (.builtin "max") ds C Q :=
  on2_ok (fun d d2 C Q h => by
    unfold pMax2 at h; split at h
    · exact cw_max2 hc h
    · exact h.elim) ds C Q h
/-- isinstance -/
def pIsI (K : W.Frag) (x y : D) : ME := fun C Q => (∃ t u b, ClsD y u ∧ TyD K C x t ∧ W.kitOne K t u = some b ∧ Q (.bl b) C) ∨ (∃ ds t us b, y = .tup ds ∧ Paired ClsD ds us ∧ TyD K C x t ∧ W.kitAny K t us = some b ∧ Q (.bl b) C)
theorem pIsI_ok {K : W.Frag} (hK : X.K = K := by rfl) (ds : List D) (C : Cells) (Q : QE) (h : on2 (pIsI K) ds C Q) : CW T (.builtin "isinstance") ds C Q := by
  subst hK
  exact on2_ok (fun d d2 C Q h => by
    rcases h with ⟨t, u, b, h1, h2, h3, h4⟩ | ⟨es, t, us, b, rfl, h1, h2, h3, h4⟩
    · exact cw_isi h1 h2 h3 h4
    · exact cw_isiT h1 h2 h3 h4) ds C Q h
/-- repr of data -/
structure ShowOk (p : PyData) : Prop where
  lay : p.canLay0 = true
  sh : p.showable = true
  nd : p.hasDict = false
  shi : p.intsShort 12 = true
structure ShowsOk (ps : List PyData) : Prop where
  lay : PyData.canLayAll0 ps = true
  sh : PyData.showableAll ps = true
  nd : PyData.hasDictAll ps = false
  shi : PyData.intsShortAll 12 ps = true
def reprD (d : D) : Str := PyData.shown (toPy d)
theorem cw_reprG {d : D} (hg : X.A.guards = some []) (hu : X.A.units + 64 < cLine) (hp : plainD d = true) (hd : isDisplay (toPy d) = true) (h : ShowOk (toPy d)) (hdep : (toPy d).depth ≤ 60) (hw : (toPy d).weight ≤ 7000) (q : Q (.str (reprD d)) C) : CW T (.builtin "repr") [d] C Q := by
  refine cw_repr (p := toPy d) hg (pyR_t hp) hd h.sh h.nd (by omega) ?_ q
  have := PyData.shown_le 12 (by decide) (toPy d) (PyData.leavesShort_of_canLay0 12 _ h.lay h.shi)
  omega
theorem call_repr_str : CallR X (.builtin "repr") (fun xs H Q => ∃ z, xs = [.str z] ∧ (reprText z).length ≤ sizeLine ∧ Q (.str (reprText z)) H) := by
  intro pins s σ H xs us Q I r h
  obtain ⟨z, rfl, hz, q⟩ := h
  obtain ⟨u, rfl, ru⟩ := r.one
  obtain ⟨t, rfl⟩ := ru
  exact PySem.P.repr_of_str ⟨.str _, H, I.tok _, ⟨_, rfl⟩, q⟩ hz
theorem call_repr_bl : CallR X (.builtin "repr") (fun xs H Q => ∃ b : Bool, xs = [.bl b] ∧ Q (.str (if b then "True" else "False")) H) := by
  intro pins s σ H xs us Q I r h
  obtain ⟨z, rfl, q⟩ := h
  obtain ⟨u, rfl, ru⟩ := r.one
  cases ru
  exact PySem.P.repr_of_bool ⟨.str _, H, I.tok _, ⟨_, rfl⟩, q⟩
theorem call_repr_non : CallR X (.builtin "repr") (fun xs H Q => xs = [.non] ∧ Q (.str "None") H) := by
  intro pins s σ H xs us Q I r h
  obtain ⟨rfl, q⟩ := h
  obtain ⟨u, rfl, ru⟩ := r.one
  cases ru
  exact PySem.P.repr_of_none ⟨.str _, H, I.tok _, ⟨_, rfl⟩, q⟩
def pRepr1 : D → ME
  | .str z => fun C Q => (reprText z).length ≤ 100000 ∧ Q (.str (reprText z)) C
  | .int i => fun C Q => i.natAbs.log2 < 1920 ∧ Q (.str (toString i)) C
  | .bl b => fun C Q => Q (.str (if b then "True" else "False")) C
  | .non => fun C Q => Q (.str "None") C
  | d => fun C Q => plainD d = true ∧ isDisplay (toPy d) = true ∧ ShowOk (toPy d) ∧ (toPy d).depth ≤ 60 ∧ (toPy d).weight ≤ 7000 ∧ Q (.str (reprD d)) C
theorem pRepr_ok (hg : X.A.guards = some []) (hu : X.A.units + 64 < cLine) (ds : List D) (C : Cells) (Q : QE) (h : on1 pRepr1 ds C Q) : CW T (.builtin "repr") ds C Q :=
  on1_ok (fun d C Q h => by
    unfold pRepr1 at h; split at h
    · rename_i z
      exact cw_look (d := .str (reprText z)) call_repr_str (fun xs H H0 c r => by
        obtain ⟨v, e1, r1⟩ := r.one
        cases r1; subst e1
        exact ⟨_, rfl, fun R k => ⟨z, rfl, Nat.le_trans h.1 (by decide), k⟩⟩) h.2
    · rename_i i
      exact cw_look (d := .str (toString i)) SkE.call_repr_int (fun xs H H0 c r => by
        obtain ⟨v, e1, r1⟩ := r.one
        cases r1; subst e1
        exact ⟨_, rfl, fun R k => ⟨i, rfl, h.1, k⟩⟩) h.2
    · rename_i b
      exact cw_look (d := .str (if b then "True" else "False")) call_repr_bl (fun xs H H0 c r => by
        obtain ⟨v, e1, r1⟩ := r.one
        cases r1; subst e1
        exact ⟨_, rfl, fun R k => ⟨b, rfl, k⟩⟩) h
    · exact cw_look (d := .str "None") call_repr_non (fun xs H H0 c r => by
        obtain ⟨v, e1, r1⟩ := r.one
        cases r1; subst e1
        exact ⟨_, rfl, fun R k => ⟨rfl, k⟩⟩) h
    · obtain ⟨h1, h2, h3, h4, h5, h6⟩ := h; exact cw_reprG hg hu h1 h2 h3 h4 h5 h6) ds C Q h
theorem ShowsOk.nil : ShowsOk [] := ⟨rfl, rfl, rfl, rfl⟩
theorem ShowsOk.cons {p : PyData} {ps : List PyData} (h : ShowOk p) (t : ShowsOk ps) : ShowsOk (p :: ps) :=
  ⟨by rw [PyData.canLayAll0, h.lay, t.lay]; rfl, by rw [PyData.showableAll, h.sh, t.sh]; rfl, by rw [PyData.hasDictAll, h.nd, t.nd]; rfl, by rw [PyData.intsShortAll, h.shi, t.shi]; rfl⟩
theorem ShowOk.tup {ps : List PyData} (t : ShowsOk ps) : ShowOk (.tuple ps) := ⟨by rw [PyData.canLay0]; exact t.lay, by rw [PyData.showable]; exact t.sh, by rw [PyData.hasDict]; exact t.nd, by rw [PyData.intsShort]; exact t.shi⟩
theorem ShowOk.lst {ps : List PyData} (t : ShowsOk ps) : ShowOk (.list ps) := ⟨by rw [PyData.canLay0]; exact t.lay, by rw [PyData.showable]; exact t.sh, by rw [PyData.hasDict]; exact t.nd, by rw [PyData.intsShort]; exact t.shi⟩
theorem shorts : ∀ xs : List Str, PyData.intsShortAll 12 (toPys (xs.map D.str)) = true
  | [] => rfl
  | x :: xs => by
    show PyData.intsShortAll 12 (toPy (.str x) :: toPys (xs.map D.str)) = true
    rw [PyData.intsShortAll, shorts xs]; rfl
theorem ShowsOk.strs {xs : List Str} (h : ∀ x ∈ xs, PyData.strOk x = true) : ShowsOk (toPys (xs.map D.str)) := ⟨(lay_strs h).1, (show_strs h).1, (show_strs h).2.1, shorts xs⟩
theorem ShowOk.str {x : Str} (h : PyData.strOk x = true) : ShowOk (.str x) := by
  have z := ShowsOk.strs (xs := [x]) (by simpa using h)
  obtain ⟨a, b, c, d⟩ := z
  simp only [List.map, toPys, toPy, PyData.canLayAll0, PyData.showableAll, PyData.hasDictAll, PyData.intsShortAll, Bool.and_true, Bool.or_false] at a b c d
  exact ⟨a, b, c, d⟩

/-! ### own ==, !=, len, str -/
variable {k : Nat} {f Cl : Addr} {fd : FuncData} {ps : List Str} {F : FS} {Xq : QX}
def callN (F : FS) (ds : List D) : ME := fun C Q => ∃ μ r, C.Perm (μ ++ r) ∧ F ds μ (fun d μ' => Q d (μ' ++ r)) fun _ _ _ => False
theorem callN.asks {ds : List D} (h : callN F ds C Q) : AsksN (up F) ds C Q := let ⟨μ, r, pm, z⟩ := h; ⟨μ, r, pm, _, _, z, fun _ _ q => q, fun _ _ _ q => q⟩
theorem AsksN.mono {ds : List D} {Q' : QE} (h : AsksN (up F) ds C Q) (i : ∀ d C, Q d C → Q' d C) : AsksN (up F) ds C Q' :=
  let ⟨μ, r, pm, Q1, Qx1, z, i1, i2⟩ := h; ⟨μ, r, pm, Q1, Qx1, z, fun d C' q => i _ _ (i1 d C' q), i2⟩
def ownB (K : W.Frag) (Cl : Addr) (F : FS) (neg : Bool) (x y : D) : ME := fun C Q => ∃ ns ds t, InsD C x Cl ns ds ∧ TyD K C y t ∧ W.notFirst K Cl t = true ∧ callN F [x, y] C fun d C' => pTru d C' fun j C'' => Q (.bl (if neg then !j else j)) C''
theorem ownEq_ok {K : W.Frag} (hs : W.findIn K (.ref Cl) "__eq__" = some (some (.ref f))) (hf : W.isFn K (.ref f) = true) (Fk : FnG X.prog X.w K X.mg X.base k f fd ps F) (hr : RoomG k X.A) (hb : Binds K fd ps []) (hK : X.K = K := by rfl)
    (x y : D) (C : Cells) (Q : QE) (h : ownB K Cl F false x y C Q) : OW T (compareOp .Eq) x y C Q := by
  subst hK
  obtain ⟨ns, ds, t, h1, h2, h3, h4⟩ := h
  exact ow_own (fun _ _ => rfl) hs hf h3 Fk.up hr hb h1 h2 (AsksN.mono h4.asks fun d C q => pTru_ex q)
theorem ownNe_ok {K : W.Frag} (hne : W.findIn K (.ref Cl) "__ne__" = some (some (.builtin "object.__ne__"))) (ho : W.mroIn K Cl (.type "object") = some true) (hs : W.findIn K (.ref Cl) "__eq__" = some (some (.ref f))) (hf : W.isFn K (.ref f) = true) (Fk : FnG X.prog X.w K X.mg X.base k f fd ps F) (hr : RoomG (k + 1) X.A) (hb : Binds K fd ps []) (hK : X.K = K := by rfl)
    (x y : D) (C : Cells) (Q : QE) (h : ownB K Cl F true x y C Q) : OW T (compareOp .NotEq) x y C Q := by
  subst hK
  obtain ⟨ns, ds, t, h1, h2, h3, h4⟩ := h
  exact ow_neOwn hne hs hf h3 ho Fk.up hr hb h1 h2 (AsksN.mono h4.asks fun d C q => pTru_ex q)
def ownLen (Cl : Addr) (F : FS) (x : D) : ME := fun C Q => ∃ ns ds, InsD C x Cl ns ds ∧ callN F [x] C fun d C' => ∃ n : Nat, d = .int n ∧ n ≤ 1000000 ∧ Q (.int n) C'
theorem ownLen_ok {K : W.Frag} (hs : W.findIn K (.ref Cl) "__len__" = some (some (.ref f))) (hf : W.isFn K (.ref f) = true) (Fk : FnG X.prog X.w K X.mg X.base k f fd ps F) (hr : RoomG (k + 1) X.A) (hb : Binds K fd ps []) (hK : X.K = K := by rfl)
    (x : D) (C : Cells) (Q : QE) (h : ownLen Cl F x C Q) : CW T (.builtin "len") [x] C Q := by
  subst hK
  obtain ⟨ns, ds, h1, h2⟩ := h
  exact cw_lenOwn hs hf Fk.up hr hb h1 h2.asks
def ownStr (Cl : Addr) (F : FS) (x : D) : ME := fun C Q => ∃ ns ds, InsD C x Cl ns ds ∧ callN F [x] C fun d C' => ∃ z : Str, d = .str z ∧ Q (.str z) C'
theorem ownStr_ok {K : W.Frag} (hs : W.findIn K (.ref Cl) "__str__" = some (some (.ref f))) (hf : W.isFn K (.ref f) = true) (Fk : FnG X.prog X.w K X.mg X.base k f fd ps F) (hr : RoomG (k + 2) X.A) (hb : Binds K fd ps []) (hK : X.K = K := by rfl)
    (x : D) (C : Cells) (Q : QE) (h : ownStr Cl F x C Q) : CW T (.type "str") [x] C Q := by
  subst hK
  obtain ⟨ns, ds, h1, h2⟩ := h
  exact cw_strOwn hs hf Fk.up hr hb h1 h2.asks
def or2 (f g : D → D → ME) : D → D → ME := fun x y C Q => f x y C Q ∨ g x y C Q
theorem or2_ok {h : Value → Value → Sem Value} {f g : D → D → ME} (hf : ∀ x y C Q, f x y C Q → OW T h x y C Q) (hg : ∀ x y C Q, g x y C Q → OW T h x y C Q) (x y : D) (C : Cells) (Q : QE) (q : or2 f g x y C Q) : OW T h x y C Q := q.elim (hf _ _ _ _) (hg _ _ _ _)
def or1 (f g : D → ME) : D → ME := fun x C Q => f x C Q ∨ g x C Q
theorem or1_ok {h : Value} {f g : D → ME} (hf : ∀ x C Q, f x C Q → CW T h [x] C Q) (hg : ∀ x C Q, g x C Q → CW T h [x] C Q) (x : D) (C : Cells) (Q : QE) (q : or1 f g x C Q) : CW T h [x] C Q := q.elim (hf _ _ _) (hg _ _ _)

/-! ### methods of texts -/
def onStr {β : Sort _} (d : D) (k : Str → Cells → β → Prop) : Cells → β → Prop := match d with
  | .str s => k s
  | _ => fun _ _ => False
theorem onStr_ex {β : Sort _} {d : D} {k : Str → Cells → β → Prop} {q : β} (h : onStr d k C q) : ∃ s, d = .str s ∧ k s C q := by
  cases d with
  | str s => exact ⟨s, rfl, h⟩
  | _ => exact h.elim
abbrev eStr1 (A B : ME) (O : Str → D → ME) : ME := fun C Q => A C fun d C1 => onStr d (fun s C1 Q => B C1 fun y C2 => O s y C2 Q) C1 Q
def pSplit (s : Str) (y : D) : ME := onStr y fun t C Q => (t.length == 0) = false ∧ s.length ≤ 100000 ∧ Q (.lst ((Txt.split s t).map D.str)) C
def pPart (s : Str) (y : D) : ME := onStr y fun t C Q => (t.length == 0) = false ∧ s.length ≤ 100000 ∧ Q (.tup [.str (Txt.partition s t).1, .str (Txt.partition s t).2.1, .str (Txt.partition s t).2.2]) C
def pStarts (s : Str) (y : D) : ME := onStr y fun t C Q => Q (.bl (Txt.startswith s t)) C
def pJoin (s : Str) (y : D) : ME := fun C Q => ∃ ys : List Str, SeqD C y (ys.map D.str) ∧ (ys.map (·.length)).sum + ys.length * s.length ≤ 100000 ∧ Q (.str (Txt.join s ys)) C
theorem se_split (ho : SE T o ρ A) (he : SE T e ρ B) (hs : starEach [e] X.env = [(false, eval e X.env)] := by rfl) (hbase : attributeBase o "split" X.env (eval o X.env) = eval o X.env := by rfl) (hline : (apos.endLine == pos.line) = true := by rfl) : SE T (.Call (.Attribute o "split" apos) [e] [] pos) ρ (eStr1 A B pSplit) :=
  fun C Q q => we_split ((ho C _ q).mono fun d C1 h1 => by
    obtain ⟨s, e1, h1⟩ := onStr_ex h1
    exact ⟨s, e1, (he C1 _ h1).mono fun y C2 h2 => by obtain ⟨t, e2, h2⟩ := onStr_ex h2; exact ⟨t, e2, h2⟩⟩) hs hbase hline
theorem se_partition (ho : SE T o ρ A) (he : SE T e ρ B) (hs : starEach [e] X.env = [(false, eval e X.env)] := by rfl) (hbase : attributeBase o "partition" X.env (eval o X.env) = eval o X.env := by rfl) (hline : (apos.endLine == pos.line) = true := by rfl) : SE T (.Call (.Attribute o "partition" apos) [e] [] pos) ρ (eStr1 A B pPart) :=
  fun C Q q => we_partition ((ho C _ q).mono fun d C1 h1 => by
    obtain ⟨s, e1, h1⟩ := onStr_ex h1
    exact ⟨s, e1, (he C1 _ h1).mono fun y C2 h2 => by obtain ⟨t, e2, h2⟩ := onStr_ex h2; exact ⟨t, e2, h2⟩⟩) hs hbase hline
theorem se_startswith (ho : SE T o ρ A) (he : SE T e ρ B) (hs : starEach [e] X.env = [(false, eval e X.env)] := by rfl) (hbase : attributeBase o "startswith" X.env (eval o X.env) = eval o X.env := by rfl) (hline : (apos.endLine == pos.line) = true := by rfl) : SE T (.Call (.Attribute o "startswith" apos) [e] [] pos) ρ (eStr1 A B pStarts) :=
  fun C Q q => we_startswith ((ho C _ q).mono fun d C1 h1 => by
    obtain ⟨s, e1, h1⟩ := onStr_ex h1
    exact ⟨s, e1, (he C1 _ h1).mono fun y C2 h2 => by obtain ⟨t, e2, h2⟩ := onStr_ex h2; exact ⟨t, e2, h2⟩⟩) hs hbase hline
theorem se_join (ho : SE T o ρ A) (he : SE T e ρ B) (hs : starEach [e] X.env = [(false, eval e X.env)] := by rfl) (hbase : attributeBase o "join" X.env (eval o X.env) = eval o X.env := by rfl) (hline : (apos.endLine == pos.line) = true := by rfl) : SE T (.Call (.Attribute o "join" apos) [e] [] pos) ρ (eStr1 A B pJoin) :=
  fun C Q q => we_join ((ho C _ q).mono fun d C1 h1 => by
    obtain ⟨s, e1, h1⟩ := onStr_ex h1
    exact ⟨s, e1, (he C1 _ h1).mono fun y C2 ⟨ys, h3, h4, h5⟩ => ⟨ys, h3, h4, h5⟩⟩) hs hbase hline

/-! ### f-strings -/
abbrev MJ := Str → Cells → (Str → Cells → Prop) → Prop
def SJ (T : TX X) (es : List Expr) (ρ : Rho) (J : MJ) : Prop := ∀ acc C Q, J acc C Q → WJ T es acc ρ C Q
abbrev jNil : MJ := fun acc C Q => Q acc C
abbrev jCons (A : ME) (J : MJ) : MJ := fun acc C Q => A C fun d C1 => onStr d (fun y C1 Q => (acc ++ y).length ≤ 100000 ∧ J (acc ++ y) C1 Q) C1 Q
theorem sj_nil : SJ T [] ρ jNil := fun acc C Q q => wj_nil q
theorem sj_cons {J : MJ} (h : SE T e ρ A) (hj : SJ T es ρ J) : SJ T (e :: es) ρ (jCons A J) := fun acc C Q q => wj_cons ((h C _ q).mono fun d C1 h1 => by
  obtain ⟨y, e1, h2, h3⟩ := onStr_ex h1
  exact ⟨y, e1, h2, hj _ _ _ h3⟩)
abbrev eJoin (J : MJ) : ME := fun C Q => J Str.empty C fun out C1 => Q (.str out) C1
theorem se_joined {J : MJ} {v1 v2 : Expr} {r : List Expr} (h : SJ T (v1 :: v2 :: r) ρ J) : SE T (.JoinedStr (v1 :: v2 :: r) pos) ρ (eJoin J) := fun C Q q => we_joined (h _ _ _ q)
theorem se_joined1 (h : SE T e ρ A) : SE T (.JoinedStr [e] pos) ρ A := fun C Q q => we_joined1 (h C Q q)
def pFmt : D → ME
  | .str y => fun C Q => y.length ≤ 100000 ∧ Q (.str y) C
  | .int i => fun C Q => i.natAbs.log2 < 1920 ∧ Q (.str (toString i)) C
  | _ => fun _ _ => False
theorem se_fmt (h : SE T e ρ A) : SE T (.FormattedValue e (-1) none pos) ρ (eApp A pFmt) := fun C Q q => we_fmt ((h C _ q).mono fun d C1 h1 => by
  cases d with
  | str y => exact .inl ⟨y, rfl, h1⟩
  | int i => exact .inr ⟨i, rfl, h1⟩
  | _ => exact h1.elim)

/-! ### lists that change -/
def isL (d : D) (C : Cells) : Prop := ∃ z ds, d = .raw (.ref z) ∧ (z, Cell.lst ds) ∈ C
def pApp (od d : D) : ME := fun C Q => ∃ (i : Nat) (z : Addr) (ds : List D), od = .raw (.ref z) ∧ C[i]? = some (z, .lst ds) ∧ ds.length < 100000 ∧ Q .non (C.set i (z, .lst (ds ++ [d])))
abbrev eL1 (A B : ME) (O : D → D → ME) : ME := fun C Q => A C fun od C1 => isL od C1 ∧ B C1 fun d C2 => O od d C2 Q
theorem se_append (ho : SE T o ρ A) (ha : SE T a ρ B)
    (hbase : attributeBase o "append" X.env (eval o X.env) = eval o X.env := by rfl) (hline : (apos.endLine == cpos.line) = true := by rfl) (hs : starEach [a] X.env = (false, eval a X.env) :: starEach [] X.env := by rfl)
    (hfew : ((backTo cpos (starEach [a] X.env)).all (fun x => !x.1) && (backToKw cpos (keywordEach [] X.env)).all (fun x => x.1.isSome)
      && decide (([a] : List Expr).length + ([] : List Keyword).length + (if ([] : List Keyword).isEmpty then 0 else 1) < 30)) = true := by rfl) (hplain : (backTo cpos (starEach [] X.env)).any (·.1) = false := by rfl) :
    SE T (.Call (.Attribute o "append" apos) [a] [] cpos) ρ (eL1 A B pApp) := fun C Q q => by
  have h : Tr.WE T o ρ C fun od C1 => isL od C1 ∧ Tr.WE T a ρ C1 fun d C2 => pApp od d C2 Q := (ho C _ q).mono fun od C1 ⟨h1, h2⟩ => ⟨h1, ha C1 _ h2⟩
  refine PE.imp (pe_bm F.plainAttrs_list F.slot_list_append F.type_list_append mt_append h (pa_cons (pe_some T ρ a) pa_nil hs) hbase hfew hline hs hplain) fun σ H R ⟨H0, at_, k⟩ => ⟨H0, at_, fun v od C1 H1 H01 p1 c1 r1 ⟨⟨z, ds, e1, hz⟩, hw⟩ => ?_⟩
  subst e1
  obtain rfl : v = .ref z := r1
  obtain ⟨vs, g1, g2⟩ := c1.ok z _ hz
  refine ⟨.inl ⟨rfl, vs, .inl (.inl g1)⟩, C1, _, hw, H01, at_.step p1 c1, fun v2 d C2 H2 H02 p2 c2 r2 ⟨i, z2, ds2, ez, hi2, hl, q⟩ => ?_⟩
  cases ez
  obtain ⟨vs2, f1, f2⟩ := c2.ok z _ (List.mem_iff_getElem?.mpr ⟨i, hi2⟩)
  refine ⟨z, vs2, v2, rfl, rfl, f1, ?_, ?_⟩
  · rw [← f2.length]; exact Nat.lt_trans hl (by decide)
  · obtain ⟨p3, c3⟩ := stp_write (o := .lst (vs2 ++ [v2])) c2 hi2 (c' := .lst (ds2 ++ [d])) ⟨_, upd_same, f2.append (Reps.cons r2 Reps.nil)⟩
    exact k _ .non _ _ _ ((p1.trans c1 p2).trans c2 p3) c3 rfl q
def pPop (od : D) : ME := fun C Q => ∃ (i : Nat) (z : Addr) (ds : List D) (d : D), od = .raw (.ref z) ∧ C[i]? = some (z, .lst (ds ++ [d])) ∧ Q d (C.set i (z, .lst ds))
theorem se_pop (ho : SE T o ρ A) (hbase : attributeBase o "pop" X.env (eval o X.env) = eval o X.env := by rfl) (hline : (apos.endLine == cpos.line) = true := by rfl) :
    SE T (.Call (.Attribute o "pop" apos) [] [] cpos) ρ (eApp A pPop) := fun C Q q => by
  refine PE.imp (pe_bm0 F.plainAttrs_list F.slot_list_pop F.type_list_pop mt_pop (ho C _ q) hbase hline) fun σ H R ⟨H0, at_, k⟩ => ⟨H0, at_, fun v od C1 H1 H01 p1 c1 r1 ⟨i, z, ds, d, e1, hi, q⟩ => ?_⟩
  subst e1
  obtain rfl : v = .ref z := r1
  obtain ⟨vs, g1, g2⟩ := c1.ok z _ (List.mem_iff_getElem?.mpr ⟨i, hi⟩)
  obtain ⟨vs1, vs2, e2, f1, f2⟩ := g2.split
  obtain ⟨v2, e3, f3⟩ := f2.one
  subst e3; subst e2
  refine ⟨.inl ⟨rfl, _, .inl (.inl g1)⟩, z, _, v2, rfl, rfl, g1, by simp, ?_⟩
  obtain ⟨p3, c3⟩ := stp_write (o := .lst vs1) c1 hi (c' := .lst ds) ⟨_, upd_same, f1⟩
  rw [List.dropLast_concat]
  exact k v2 d _ _ _ (p1.trans c1 p3) c3 f3 q
/-- o[b] = d -/
abbrev mSub (A B : ME) (d : D) (mm : MB) : MB := fun C => A C fun od C1 => B C1 fun id C2 => ∃ (j : Nat) (z : Addr) (ds : List D) (k : Int) (n : Nat), od = .raw (.ref z) ∧ id = .int k ∧ C2[j]? = some (z, .lst ds) ∧ ixN ds.length k = some n ∧ mm (C2.set j (z, .lst (ds.set n d)))
theorem sg_sub {d : D} (ho : SE T o ρ A) (hb : SE T b ρ B) (h : SB T body ρ mm N)
    (ha : ∀ v, assign (.Subscript o b pos) X.env v = (do
      let ov ← holding [v] (eval o X.env)
      let iv ← holding [v, ov] (eval b X.env)
      standAt pos
      holding [v, ov, iv] (setItem ov iv v)
      release [v, ov, iv] []) := by intro _; rfl) : SG T (.Subscript o b pos) d ρ body (mSub A B d mm) N := fun C q => by
  refine PG.imp (pg_sub (ho C _ q) (pe_some T ρ b) set_list ha) fun v σ H R ⟨H0, at_, r, k⟩ => ⟨H0, at_, fun v1 od C1 H1 H01 p1 c1 r1 q1 => ⟨C1, _, hb C1 _ q1, H01, at_.step p1 c1, fun v2 id C2 H2 H02 p2 c2 r2 ⟨j, z, ds, kk, n, e1, e2, hi, hn, q⟩ => ?_⟩⟩
  subst e1; subst e2
  obtain rfl : v1 = .ref z := r1
  cases r2
  obtain ⟨vs, g1, g2⟩ := c2.ok z _ (List.mem_iff_getElem?.mpr ⟨j, hi⟩)
  obtain ⟨p3, c3⟩ := stp_write (o := .lst (vs.set n v)) c2 hi (c' := .lst (ds.set n d)) ⟨_, upd_same, Reps.set ((r.mono p1.base).mono p2.base) n g2⟩
  have at3 := ((at_.step p1 c1).step p2 c2).step p3 c3
  exact ⟨z, vs, kk, n, rfl, rfl, g1, by rw [← g2.length]; exact hn, k _ _ _ _ _ ((p1.trans c1 p2).trans c2 p3) c3 at3.s at3.l (h _ q)⟩
/-- o.m = e -/
abbrev mFld (K : W.Frag) (A B : ME) (m : Str) (mm : MB) : MB := fun C => A C fun d C1 => B C1 fun od C2 => ∃ (i : Nat) (z Cl : Addr) (ns : List Str) (ds : List D), od = .raw (.ref z) ∧ C2[i]? = some (z, .ins Cl ns ds) ∧ Cls K Cl ∧ NoAttr K Cl m ∧ ns.length < 1000 ∧ mm (C2.set i (z, .ins Cl (putN m d ns ds).1 (putN m d ns ds).2))
theorem sb_fld {pos' : Pos} (h : SE T e ρ A) (ho : SE T o ρ B) (hk : SB T rest ρ mm N) (hs : swapsWith e (some (.Attribute o m pos')) pos.line X.env = pure false := by rfl) : SB T (.Assign [.Attribute o m pos'] e pos :: rest) ρ (mFld X.K A B m mm) N :=
  fun C q => wss_cons (PS.imp (ps_fld (pe_some T ρ o) (h C _ q) hs) fun Dn σ H ⟨H0, at_, k⟩ => ⟨H0, at_, fun v d C1 H1 H01 p1 c1 r1 q1 => ⟨C1, _, ho C1 _ q1, H01, at_.step p1 c1, fun v2 od C2 H2 H02 p2 c2 r2 ⟨i, z, Cl, ns, ds, e1, hi, hc, hn, hl, q⟩ => by
    subst e1
    obtain rfl : v2 = .ref z := r2
    obtain ⟨dx, vs, g1, g2, g3⟩ := c2.ok z _ (List.mem_iff_getElem?.mpr ⟨i, hi⟩)
    obtain ⟨vs', f1, f2, f3⟩ := reps_put (f := m) (r1.mono p2.base) g3 g2
    obtain ⟨p3, c3⟩ := stp_write (o := .ins Cl dx (putF m v (ns.zip vs))) c2 hi (c' := .ins Cl (putN m d ns ds).1 (putN m d ns ds).2) ⟨dx, vs', by rw [upd_same, f1], f2, f3⟩
    have at3 := ((at_.step p1 c1).step p2 c2).step p3 c3
    refine ⟨z, Cl, dx, _, rfl, g1, hc, hn, ?_, ContS.here (((k.after p1 c1).after p2 c2).after p3 c3).nx at3 (hk _ q)⟩
    rw [List.length_zip, ← g2]; omega⟩⟩)

/-! ### raise, while, cells left behind -/
abbrev mRaise (A : ME) (Cl : Addr) (fld : Str) (Xq : QX) : MB := fun C => A C fun d C1 => Xq (.ref Cl) (some ([fld], [d])) C1
theorem sb_raise {fld : Str} {pos' : Pos} (hx : XCls X.prog X.K X.mg Cl fld) (hr : RoomG (k + 1) X.A) (hg : Gl X x) (hm : X.mg x = some (.ref Cl)) (h : SE T e ρ A) (hX : ∀ cls fs C, Xq cls fs C → T.XQ cls fs ρ C)
    (hs : starEach [e] X.env = (false, eval e X.env) :: starEach [] X.env := by rfl) (hdb : (x == ("__debug__" : Str)) = false := by decide) (hc : X.calm = true := by rfl) : SB T (.Raise (some (.Call (.Name x p) [e] [] pos)) none pos' :: rest) ρ (mRaise A Cl fld Xq) N :=
  fun C q => wss_cons (ws_raise hx hr hg hm ((h C _ q).mono fun d C1 h1 => hX _ _ _ h1) hs hdb hc)
def mPart (m : MB) : MB := fun C => ∃ C' r, C.Perm (C' ++ r) ∧ m C'
theorem sb_part (h : SB T rest ρ mm N) : SB T rest ρ (mPart mm) N := fun C ⟨C', r, pm, q⟩ => wss_part pm (h C' q)
theorem part_id {m : MB} (h : m C) : mPart m C := ⟨C, [], by simp, h⟩
theorem part_drop {m : MB} {C' r : Cells} (pm : C.Perm (C' ++ r)) (h : m C') : mPart m C := ⟨C', r, pm, h⟩
/-- a while: by an invariant and a measure -/
def mWhile {α : Type} (t : α → MT) (f : α → (α → MB) → (α → MB) → MB) (s0 : α) (after : α → MB) : MB := fun C => ∃ I : Nat → α → Cells → Prop, (∃ n, I n s0 C) ∧ ∀ n s C, I n s C → t s C fun k C1 => if k = true then f s (fun s' C' => ∃ n', n' < n ∧ I n' s' C') after C1 else after s C1
theorem sb_while {α : Type} {t : α → MT} {f : α → (α → MB) → (α → MB) → MB} {s0 : α} {after : α → MB} {cond : Expr} (enc : α → Rho) (h0 : LeR (enc s0) ρ) (ht : ∀ s, ST T cond (enc s) (t s))
    (hb : ∀ s (nx bk : α → MB) (W V : QS), (∀ a ρ' C, LeR (enc a) ρ' → nx a C → W ρ' C) → (∀ a ρ' C, LeR (enc a) ρ' → bk a C → V ρ' C) → SB T body (enc s) (f s nx bk) { nx := W, rt := N.rt, bk := V, ct := W })
    (ha : ∀ s, SB T rest (enc s) (after s) N) : SB T (.While cond body [] pos :: rest) ρ (mWhile t f s0 after) N := fun C ⟨I, ⟨n0, i0⟩, hI⟩ => by
  refine wss_cons (ws_while (fun n ρ C => ∃ s, LeR (enc s) ρ ∧ I n s C) n0 ⟨s0, h0, i0⟩ fun n ρ C ⟨s, l, i⟩ => ?_)
  refine PT.imp (show PT X cond _ from (ht s C _ (hI n s C i)).mono (Q' := fun k C1 => if k = true then WSs T body (enc s) C1 { nx := fun ρ' C' => ∃ m', m' < n ∧ ∃ s, LeR (enc s) ρ' ∧ I m' s C', ct := fun ρ' C' => ∃ m', m' < n ∧ ∃ s, LeR (enc s) ρ' ∧ I m' s C', bk := fun ρ' C' => WSs T rest ρ' C' N, rt := N.rt } else WSs T rest (enc s) C1 N) fun k C1 h1 => ?_) fun σ H R ⟨H0, at_, kk⟩ => ⟨H0, at_.forget l, fun b C' H' H0' p c q => kk b C' H' H0' p c ?_⟩
  · cases k with
    | true => exact hb s _ _ _ _ (fun a ρ' C l ⟨n', h1, h2⟩ => ⟨n', h1, a, l, h2⟩) (fun a ρ' C l h => wss_forget l (ha a C h)) C1 h1
    | false => exact ha s C1 h1
  · cases b with
    | true => exact wss_forget l q
    | false => exact wss_forget l q
/-- try: body except x as n: suite -/
abbrev mTry (K : W.Frag) (c : Value) (body : QX → MB) (suite : XF → Value → MB) (Xq : QX) : MB := body fun cls fs C' => ∃ b, W.exmOne K cls c = some b ∧ if b = true then suite fs cls C' else Xq cls fs C'
end
end Tr

set_option maxHeartbeats 4000000
namespace Tr
open PySem L2 PySem.Spec PyProof.Rows
section
variable {X : Cx} {T : TX X} {ρ ρ' : Rho} {C : Cells} {N : TEnds} {e a b c o i elt : Expr} {pos pos' p p2 apos cpos np : Pos} {es tgs : List Expr} {st b₀ : Stmt} {rest body tb fb suite : List Stmt} {x m n : Str} {A B A' : ME} {AS : MA} {mt mf mm : MB} {Q : QE}
theorem se_globS {s : Str} (hg : Gl X x) (h : ∃ t, X.mg x = some (.str s t)) (hn : x ≠ "__name__" := by decide) (hd : (x == ("__debug__" : Str)) = false := by decide) : SE T (.Name x pos) ρ (eVal (.str s)) := by
  obtain ⟨t, ht⟩ := h
  exact se_glob (d := .str s) (v := .str s) (pe_glob (v := .str s) hg ht ⟨_, rfl⟩ hd) (fun _ => rfl)
/-- a cell of a slot stands still from now on -/
def mFrz (v : D) (k : D → MB) : MB := fun C => ∃ (i : Nat) (z : Addr) (c : Cell), v = .raw (.ref z) ∧ C[i]? = some (z, c) ∧ k c.toD (C.eraseIdx i)
theorem sb_frz {v : D} {k : D → MB} {r : D → Rho} (j : Nat) (hj : ρ[j]? = some (some v)) (hr : ∀ d, ρ.set j (some d) = r d) (h : ∀ d, SB T rest (r d) (k d) N) : SB T rest ρ (mFrz v k) N := fun C ⟨i, z, c, e, hi, q⟩ => by
  subst e
  refine wss_frz j i hj hi ?_
  rw [hr]
  exact h _ _ q
/-! ### try -/
def eXf (K : W.Frag) (n : Str) (cls : Value) (fs : XF) : ME := fun C Q => ∃ Cl ns ds y, cls = .ref Cl ∧ fs = some (ns, ds) ∧ XfC K Cl ∧ W.findIn K (.ref Cl) n = some none ∧ (ns.zip ds).lookup n = some y ∧ Q y C
abbrev eIsX (K : W.Frag) (cls : Value) (D2 : ME) : ME := fun C Q => ∃ Cl, cls = .ref Cl ∧ ExcC K Cl ∧ D2 C fun d2 C1 => ∃ b u, ClsD d2 u ∧ W.kitOne K (.ref Cl) u = some b ∧ Q (.bl b) C1
theorem se_xf {a : Addr} {oe : Obj} {d : Option Addr} {cls : Value} {fs : XF} {pn : List (Addr × Obj)} {T' : TX (X.suite a ((a, oe) :: pn))} (hz : Zc cls d oe) (hfl : ∃ vs, oe.data = .fields vs) (hA : ∀ H0 C H, T'.A H0 C H → ExcR X.K H0 H d fs)
    (h : SE T' e ρ (eVal (.raw (.ref a)))) (hb : attributeBase e n (X.suite a ((a, oe) :: pn)).env (eval e (X.suite a ((a, oe) :: pn)).env) = eval e (X.suite a ((a, oe) :: pn)).env := by rfl) : SE T' (.Attribute e n pos) ρ (eXf X.K n cls fs) := fun C Q q => by
  obtain ⟨Cl, ns, ds, y, rfl, rfl, h1, h2, h3, h4⟩ := q
  exact we_xf h1 h2 hz hfl hA ((h C _ (show _ ∧ _ from ⟨rfl, y, h3, h4⟩))) hb
theorem se_isX {a : Addr} {oe : Obj} {d : Option Addr} {cls : Value} {fs : XF} {pn : List (Addr × Obj)} {T' : TX (X.suite a ((a, oe) :: pn))} (hz : Zc cls d oe) (hfl : ∃ vs, oe.data = .fields vs) (hA : ∀ H0 C H, T'.A H0 C H → ExcR X.K H0 H d fs) (hg : Gl X "isinstance") (hm : X.mg "isinstance" = none)
    (h : SE T' e ρ (eVal (.raw (.ref a)))) (h2 : SE T' c ρ A)
    (he : starEach [e, c] (X.suite a ((a, oe) :: pn)).env = (false, eval e (X.suite a ((a, oe) :: pn)).env) :: starEach [c] (X.suite a ((a, oe) :: pn)).env := by rfl) (hpl : (backTo pos (starEach [c] (X.suite a ((a, oe) :: pn)).env)).any (·.1) = false := by rfl)
    (he2 : starEach [c] (X.suite a ((a, oe) :: pn)).env = (false, eval c (X.suite a ((a, oe) :: pn)).env) :: starEach [] (X.suite a ((a, oe) :: pn)).env := by rfl) : SE T' (.Call (.Name "isinstance" p) [e, c] [] pos) ρ (eIsX X.K cls A) := fun C Q q => by
  obtain ⟨Cl, rfl, G, q⟩ := q
  have hw : WA T' [e, c] ρ C fun ds C1 => ∃ d2 u b, ds = [.raw (.ref a), d2] ∧ ClsD d2 u ∧ W.kitOne X.K (.ref Cl) u = some b ∧ Q (.bl b) C1 :=
    wa_cons (h C _ (wa_cons ((h2 C _ q).mono fun d2 C1 ⟨b, u, h3, h4, h5⟩ => wa_nil ⟨d2, u, b, rfl, h3, h4, h5⟩) he2)) he
  exact PE.imp (pe_callB (call_isX G hz hfl) hg hm (by rfl) hw (by decide) (by decide) he hpl) fun σ H R ⟨H0, at_, k⟩ => ⟨H0, at_, fun vs ds C1 H1 H01 p1 c1 r1 q1 => by
    obtain ⟨d2, u, b, e1, hc, hk, q⟩ := q1
    subst e1
    have at1 := at_.step p1 c1
    have ex := hA _ _ _ at1.a
    obtain ⟨v, w, e1, r2, r3⟩ := r1.two
    subst e1
    cases r2
    refine ⟨w, u, b, rfl, cls_at r3 hc, hk, fun dd hd => ?_, k (.bl b) (.bl b) C1 H1 H01 p1 c1 rfl q⟩
    subst hd
    cases fs with
    | none => exact ex.elim
    | some f => obtain ⟨vs, h1, _⟩ := ex; exact ⟨_, h1⟩⟩
theorem LeR.set {v : Option D} {j : Nat} (h : LeR ρ ρ') : LeR (ρ.set j v) (ρ'.set j v) := ⟨by simp [h.l], fun i d q => by
  rw [List.getElem?_set] at q ⊢
  split at q
  · rename_i e; subst e
    split at q
    · rename_i hl; rw [if_pos rfl, if_pos (by rw [← h.l]; exact hl)]; exact q
    · cases q
  · rename_i e; rw [if_neg e]; exact h.s i d q⟩
theorem LeR.unset {j : Nat} (h : LeR ρ ρ') (hn : ∀ d, ρ[j]? ≠ some (some d)) : LeR ρ (ρ'.set j none) := ⟨by simp [h.l], fun i d q => by
  rw [List.getElem?_set]
  split
  · rename_i e; subst e; exact absurd q (hn d)
  · exact h.s i d q⟩
/-- try: body except x as n: suite -/
theorem sb_try {α : Type} {i : Nat} {cv : Value} {mb : QX → MB} {ms : XF → Value → MB} {Xq : QX} (enc : α → Rho) (J : α → MB) (ρe : Rho) (hs : X.stack = X.env :: X.outer) (hf : X.env.frame = some X.env.locals) (hN : X.N.Nodup) (hi : X.N[i]? = some n) (hln : X.env.kindOf n = some .local) (hc : Names X x cv)
    (hX : ∀ ρ' cls fs C, Xq cls fs C → T.XQ cls fs ρ' C) (hJ : ∀ a, SB T rest (enc a) (J a) N) (hn : ∀ a d, (enc a)[i]? ≠ some (some d))
    (hb : ∀ (pn : List (Addr × Obj)) (xe : Value → Shared → Prop) (T' : TX (X.tr pn xe)) (X' : QX), (∀ ρ', LeR ρe ρ' → ∀ cls fs C, X' cls fs C → T'.XQ cls fs ρ' C) → ∀ W : QS, (∀ a ρ' C, LeR (enc a) ρ' → J a C → W ρ' C) → SB T' body ρ (mb X') { N with nx := W })
    (hh : ∀ (cls : Value) (fs : XF) (a : Addr) (oe : Obj) (d : Option Addr) (pn : List (Addr × Obj)) (T' : TX (X.suite a ((a, oe) :: pn))), Zc cls d oe → (∃ vs, oe.data = .fields vs) → (∀ H0 C H, T'.A H0 C H → ExcR X.K H0 H d fs) → ∀ W V B' : QS, (∀ a ρ' C, LeR (enc a) ρ' → J a C → W ρ' C) →
      SB T' (b₀ :: suite) (ρe.set i (some (.raw (.ref a)))) (ms fs cls) { nx := W, rt := N.rt, bk := V, ct := B' }) :
    SB T (.Try body [.ExceptHandler (some (.Name x np)) (some n) (b₀ :: suite) pos'] [] [] pos :: rest) ρ (mTry X.K cv mb ms Xq) N := fun C q => by
  have hw : ∀ a ρ' C, LeR (enc a) ρ' → J a C → WSs T rest ρ' C N := fun a ρ' C l q => wss_forget l (hJ a C q)
  refine wss_cons (ws_try hs hf hN hi hln hc (fun cls fs ρ' C' => LeR ρe ρ' ∧ ∃ b, W.exmOne X.K cls cv = some b ∧ if b = true then ms fs cls C' else Xq cls fs C') (fun pn xe T' eX => hb pn xe T' _ (fun ρ' l cls fs C' h => by rw [eX]; exact ⟨l, h⟩) _ hw C q) ?_)
  rintro cls fs ρ' C' ⟨l, b, h1, h2⟩
  refine ⟨b, h1, fun hb0 => ?_, fun hb1 a oe d pn T' hz hfl hA => ?_⟩
  · subst hb0; exact hX _ _ _ _ h2
  · subst hb1
    exact wss_forget l.set (hh cls fs a oe d pn T' hz hfl hA _ _ _ (fun a ρ' C l q => hw a _ C (l.unset (hn a)) q) C' h2)

theorem sb_fail : SB T rest ρ (fun _ => False) N := fun _ h => h.elim
/-- what is left behind is dropped -/
abbrev eDrop (A : ME) : ME := fun C Q => A C fun d C1 => ∃ C' r, C1.Perm (C' ++ r) ∧ Q d C'
theorem se_drop (h : SE T e ρ A) : SE T e ρ (eDrop A) := fun C Q q => PE.imp (h C _ q) fun σ H R ⟨H0, at_, k⟩ => ⟨H0, at_, fun v d C1 H1 H01 p1 c1 r1 ⟨C', r, pm, q⟩ =>
  let ⟨p2, c2⟩ := stp_part c1 pm
  k v d C' H1 H01 (p1.trans c1 p2) c2 r1 q⟩
variable {k : Nat} {f Cl : Addr} {fd : FuncData} {ps : List Str} {F : FS} {dvs : List V} {dds : List D} {Xq : QX}
theorem se_callD {q : Pos} (Fk : FnG X.prog X.w X.K X.mg X.base k f fd ps F) (hr : RoomG k X.A) (hg : Gl X x) (hm : X.mg x = some (.ref f)) (hk : W.keepIn X.K (.ref f) = true) (hb : ∃ ds, Vals dvs ds ∧ Binds X.K fd ps ds) (hdd : ∀ H, Reps X.K H dds dvs)
    (hX : ∀ cls fs C, Xq cls fs C → T.XQ cls fs ρ C) (h : SA T (a :: es) ρ AS) (hdb : (x == ("__debug__" : Str)) = false := by decide) (he : starEach (a :: es) X.env = (false, eval a X.env) :: starEach es X.env := by rfl) (hpl : (backTo pos (starEach es X.env)).any (·.1) = false := by rfl) :
    SE T (.Call (.Name x q) (a :: es) [] pos) ρ (eArgs AS fun ds => callW F Xq (ds ++ dds)) := by
  obtain ⟨ds, hd, hb⟩ := hb
  exact se_call Fk hr hg hm hk hb hd hdd hX h hdb he hpl
theorem se_makeD {q : Pos} (M : Mk X.K Cl f) (Fk : FnG X.prog X.w X.K X.mg X.base k f fd ps F) (hr : RoomG (k + 1) X.A) (hg : Gl X x) (hm : X.mg x = some (.ref Cl)) (hb : ∃ ds, Vals dvs ds ∧ Binds X.K fd ps ds) (hdd : ∀ H, Reps X.K H dds dvs)
    (hX : ∀ cls fs C, Xq cls fs C → T.XQ cls fs ρ C) (h : SA T (a :: es) ρ AS) (hdb : (x == ("__debug__" : Str)) = false := by decide) (he : starEach (a :: es) X.env = (false, eval a X.env) :: starEach es X.env := by rfl) (hpl : (backTo pos (starEach es X.env)).any (·.1) = false := by rfl) :
    SE T (.Call (.Name x q) (a :: es) [] pos) ρ (eArgs AS fun ds => makeW F Xq Cl (ds ++ dds)) := by
  obtain ⟨ds, hd, hb⟩ := hb
  exact se_make M Fk hr hg hm hb hd hdd hX h hdb he hpl
theorem se_make0D {q : Pos} (M : Mk X.K Cl f) (Fk : FnG X.prog X.w X.K X.mg X.base k f fd ps F) (hr : RoomG (k + 1) X.A) (hg : Gl X x) (hm : X.mg x = some (.ref Cl)) (hb : ∃ ds, Vals dvs ds ∧ Binds X.K fd ps ds) (hdd : ∀ H, Reps X.K H dds dvs)
    (hX : ∀ cls fs C, Xq cls fs C → T.XQ cls fs ρ C) (hdb : (x == ("__debug__" : Str)) = false := by decide) :
    SE T (.Call (.Name x q) [] [] pos) ρ (makeW F Xq Cl dds) := by
  obtain ⟨ds, hd, hb⟩ := hb
  exact se_make0 M Fk hr hg hm hb hd hdd hX hdb

/-! ### loops, comprehensions, in plain Lean -/
theorem loop_inv {α : Type} {f : D → α → (α → MB) → (α → MB) → MB} {after : α → MB} {P : Cells → Prop} {ds : List D} {s : α} (I : Nat → α → Cells → Prop) (h0 : I 0 s C)
    (step : ∀ i d s C (nx : α → MB), ds[i]? = some d → I i s C → (∀ s' C', I (i + 1) s' C' → nx s' C') → P C ∧ f d s nx after C) (last : ∀ s C, I ds.length s C → P C ∧ after s C) : mLoop f after P ds s C := by
  have go : ∀ (r : List D) (j : Nat), j + r.length = ds.length → (∀ i, r[i]? = ds[j + i]?) → ∀ s C, I j s C → mLoop f after P r s C := by
    intro r
    induction r with
    | nil => intro j hj _ s C h; have : j = ds.length := by simpa using hj
             subst this; exact last s C h
    | cons d r ih =>
      intro j hj hg s C h
      refine step j d s C _ (by rw [← Nat.add_zero j, ← hg 0]; rfl) h fun s' C' h' => ?_
      exact ih (j + 1) (by simp at hj; omega) (fun i => by rw [Nat.add_assoc, Nat.add_comm 1 i, ← hg (i + 1)]; rfl) s' C' h'
  exact go ds 0 (by simp) (fun i => by simp) s C h0
/-- over what is still to come -/
theorem loop_ind {α : Type} {f : D → α → (α → MB) → (α → MB) → MB} {after : α → MB} {P : Cells → Prop} (I : List D → α → Cells → Prop)
    (step : ∀ d r s C (nx : α → MB), I (d :: r) s C → (∀ s' C', I r s' C' → nx s' C') → P C ∧ f d s nx after C) (last : ∀ s C, I [] s C → P C ∧ after s C) : ∀ {ds : List D} {s : α} {C : Cells}, I ds s C → mLoop f after P ds s C
  | [], s, C, h => last s C h
  | d :: r, s, C, h => step d r s C _ h fun s' C' h' => loop_ind I step last h'
theorem lcB_inv {P : Cells → Prop} {f : D → ME} {Q : QE} {ds : List D} (J : Nat → List D → Cells → Prop) (h0 : J 0 [] C)
    (step : ∀ i d acc C (k : QE), ds[i]? = some d → J i acc C → (∀ y C', J (i + 1) (acc ++ [y]) C' → k y C') → P C ∧ f d C k) (last : ∀ acc C, J ds.length acc C → P C ∧ Q (.lst acc) C) (hl : ds.length ≤ 100000) (hlen : ∀ i acc C, J i acc C → acc.length ≤ i) : lcB P f Q ds [] C := by
  have go : ∀ (r : List D) (j : Nat), j + r.length = ds.length → (∀ i, r[i]? = ds[j + i]?) → ∀ acc C, J j acc C → lcB P f Q r acc C := by
    intro r
    induction r with
    | nil => intro j hj _ s C h; have : j = ds.length := by simpa using hj
             subst this; exact last s C h
    | cons d r ih =>
      intro j hj hg acc C h
      refine step j d acc C _ (by rw [← Nat.add_zero j, ← hg 0]; rfl) h fun y C' h' => ⟨?_, ih (j + 1) (by simp at hj; omega) (fun i => by rw [Nat.add_assoc, Nat.add_comm 1 i, ← hg (i + 1)]; rfl) _ C' h'⟩
      have := hlen j acc C h
      simp at hj; omega
  exact go ds 0 (by simp) (fun i => by simp) [] C h0
/-- an element that only looks: the same over l.map g -/
theorem lcB_map {α : Type} {P : Cells → Prop} {f : D → ME} {Q : QE} {l : List α} (g h : α → D) (hp : P C) (hf : ∀ a ∈ l, ∀ k : QE, k (h a) C → f (g a) C k) (hl : l.length ≤ 100000) (q : Q (.lst (l.map h)) C) : lcB P f Q (l.map g) [] C := by
  have go : ∀ (r : List α) (acc : List D), (∀ a ∈ r, a ∈ l) → acc.length + r.length ≤ 100000 → Q (.lst (acc ++ r.map h)) C → lcB P f Q (r.map g) acc C := by
    intro r
    induction r with
    | nil => intro acc _ _ q; exact ⟨hp, by simpa using q⟩
    | cons a r ih =>
      intro acc hm hl q
      refine ⟨hp, hf a (hm a List.mem_cons_self) _ ⟨by simp at hl; omega, ih _ (fun b hb => hm b (List.mem_cons_of_mem _ hb)) (by simp at hl ⊢; omega) (by simpa using q)⟩⟩
  exact go l [] (fun _ h => h) (by simpa using hl) (by simpa using q)
theorem lcB1_map {α : Type} {P : Cells → Prop} {f : D → ME} {t : D → MT} {Q : QE} {l : List α} (g h : α → D) (b : α → Bool) (hp : P C) (ht : ∀ a ∈ l, ∀ k : QT, k (b a) C → t (g a) C k) (hf : ∀ a ∈ l, b a = true → ∀ k : QE, k (h a) C → f (g a) C k) (hl : l.length ≤ 100000) (q : Q (.lst ((l.filter b).map h)) C) : lcB1 P t f Q (l.map g) [] C := by
  have go : ∀ (r : List α) (acc : List D), (∀ a ∈ r, a ∈ l) → acc.length + r.length ≤ 100000 → Q (.lst (acc ++ (r.filter b).map h)) C → lcB1 P t f Q (r.map g) acc C := by
    intro r
    induction r with
    | nil => intro acc _ _ q; exact ⟨hp, by simpa using q⟩
    | cons a r ih =>
      intro acc hm hl q
      refine ⟨hp, ht a (hm a List.mem_cons_self) _ ?_⟩
      have hm' : ∀ b ∈ r, b ∈ l := fun b hb => hm b (List.mem_cons_of_mem _ hb)
      have hl' : acc.length + 1 + r.length ≤ 100000 := by simp at hl; omega
      cases e : b a with
      | true =>
        rw [if_pos rfl]
        rw [List.filter_cons_of_pos e] at q
        exact hf a (hm a List.mem_cons_self) e _ ⟨by omega, ih _ hm' (by simp; omega) (by simpa using q)⟩
      | false =>
        rw [if_neg (by decide)]
        rw [List.filter_cons_of_neg (by simp [e])] at q
        exact ih _ hm' (by omega) q
  exact go l [] (fun _ h => h) (by simpa using hl) (by simpa using q)
end
end Tr
namespace Tr
open PySem L2 PySem.Spec PyProof.Rows
/-- the making of an instance that stands still from then on -/
def pMkF (F : FS) (Xq : QX) (Cl : Addr) (ds : List D) : ME := pFrz (makeW F Xq Cl ds)
theorem se_mkF {X : Cx} {T : TX X} {ρ : Rho} {e : Expr} {AS : MA} {F : FS} {Xq : QX} {Cl : Addr} {dds : List D} (h : SE T e ρ (eArgs AS fun ds => makeW F Xq Cl (ds ++ dds))) : SE T e ρ (eArgs AS fun ds => pMkF F Xq Cl (ds ++ dds)) := fun C Q q => se_frz h C Q q
theorem se_mkF0 {X : Cx} {T : TX X} {ρ : Rho} {e : Expr} {F : FS} {Xq : QX} {Cl : Addr} {dds : List D} (h : SE T e ρ (makeW F Xq Cl dds)) : SE T e ρ (pMkF F Xq Cl dds) := fun C Q q => se_frz h C Q q
/-- by what its __init__ does -/
theorem mkF_of {F : FS} {Xq : QX} {Cl : Addr} {ds fs : List D} {ns : List Str} {C : Cells} {Q : QE} (h : ∀ z, F (.raw (.ref z) :: ds) ((z, .ins Cl [] []) :: C) (fun d C' => d = .non ∧ ∃ (i : Nat) (z' Cl' : Addr) (ns : List Str) (ds : List D), D.raw (.ref z) = .raw (.ref z') ∧ C'[i]? = some (z', .ins Cl' ns ds) ∧ Q (.ins Cl' ns ds) (C'.eraseIdx i)) Xq) : pMkF F Xq Cl ds C Q :=
  ⟨C, [], by simp, fun z => by simpa using h z⟩
end Tr
namespace Tr
open PySem L2 PySem.Spec PyProof.Rows
section
variable {X : Cx} {T : TX X} {ρ : Rho} {C : Cells} {N : TEnds} {rest : List Stmt} {p pos pos' : Pos} {x : Str} {Cl : Addr} {Xq : QX}
theorem pmk_own0 {bmB : List Value} {B newId initId : String} (F : ExcBaseFacts B newId initId bmB) (q : PySem.W.excIn X.K Cl bmB newId = true) (gC : X.mg x = some (.ref Cl)) (kC : PySem.W.keepIn X.K (.ref Cl) = true) (r : Raises X (.ref Cl)) (hg : Gl X x)
    (hdb : (x == ("__debug__" : Str)) = false := by decide) : PMk X (.Call (.Name x p) [] [] pos) (fun _ H Q => Q (.ref Cl) none H) := by
  intro pins s σ H Q I h
  refine wpAny_Call_Name_kw (ld_glob I hg gC ?_ hdb)
  refine PySem.W.callWith_K0 (first := []) I.kIn kC ?_
  show wpAny _ _ (call (.ref Cl) []) _ _ _
  obtain ⟨bm, N, nm, qn, bs, hdct, sn, sub, ab, col, dd, k0, k1, k2, k3, k5, mN, hC, hN, hni, T⟩ := exc_obj I.kIn q
  refine wpAny_call_exc_subT F T hC hN hni (fun h' e hm => ?_) (Nat.zero_le _)
  exact mk_of I hm r h (I.hok.gone hm.new)
/-- an own exception class over ValueError without an __init__ -/
structure X0 (K : W.Frag) (C : Addr) : Prop where
  q : PySem.W.excIn K C [.type "ValueError", .type "Exception", .type "BaseException", .type "object"] "ValueError.__new__" = true
  k : W.keepIn K (.ref C) = true
  s : W.subIn K (.ref C) (.type "BaseException") = some true
  t : W.typeIn K (.ref C) = some (.type "type")
def mRaise0 (Cl : Addr) (Xq : QX) : MB := fun C => Xq (.ref Cl) none C
theorem sb_raise0 (hx : X0 X.K Cl) (hg : Gl X x) (hm : X.mg x = some (.ref Cl)) (hX : ∀ cls fs C, Xq cls fs C → T.XQ cls fs ρ C) (hdb : (x == ("__debug__" : Str)) = false := by decide) (hc : X.calm = true := by rfl) :
    SB T (.Raise (some (.Call (.Name x p) [] [] pos)) none pos' :: rest) ρ (mRaise0 Cl Xq) N :=
  fun C q => wss_cons (PS.imp (ps_raise hc T.tk (pmk_own0 PySem.F.excBase_ValueError hx.q hm hx.k (raises_own hx.s hx.t) hg hdb)) fun Dn σ H ⟨H0, at_, _⟩ => ⟨none, ρ, C, H0, at_.a, at_.c, at_.s, at_.l, trivial, hX _ _ _ q⟩)
end
end Tr

set_option maxHeartbeats 4000000
namespace Tr
open PySem L2 PySem.Spec PyProof.Rows
section
variable {X : Cx} {T : TX X} {ρ : Rho} {C : Cells} {N : TEnds} {e a b c o i elt : Expr} {pos pos' p p2 apos : Pos} {es : List Expr} {rest body : List Stmt} {x m : Str} {A B : ME} {AS : MA} {Q : QE} {k : Nat} {f Cl : Addr} {fd : FuncData} {ps : List Str} {F : FS} {dvs : List V} {dds : List D} {dus : List Value} {d1 d2 d : D} {ns ns2 : List Str} {ds ds2 : List D} {Xq : QX}
def isInsD : D → Bool
  | .ins _ _ _ => true
  | _ => false
theorem ins_ref {K : W.Frag} {H0 : Hp} {d : D} {v : V} (j : isInsD d = true) (r : Rep K H0 d v) : ∃ a, v = .ref a := by
  cases d with
  | ins c ns ds => obtain ⟨a, _, _, e, _⟩ := r; exact ⟨a, e⟩
  | _ => cases j
/-! ### x + y of own instances -/
theorem ow_addOwn (hc : W.selfFirst X.K Cl = true) (hs : W.findIn X.K (.ref Cl) "__add__" = some (some (.ref f))) (hf : W.isFn X.K (.ref f) = true)
    (Fk : FnG X.prog X.w X.K X.mg X.base k f fd ps F) (hr : RoomG k X.A) (hb : Binds X.K fd ps []) (h1 : InsD C d1 Cl ns ds) (h2 : InsD C d2 Cl ns2 ds2)
    (h : AsksN F [d1, d2] C fun d C' => isInsD d = true ∧ Q d C') : OW T (binaryOp .Add) d1 d2 C Q := by
  intro pins s σ H x y v u R I rx ry ⟨H0, c, r1, r2, kk⟩
  obtain ⟨ad, ox, od, e1, e2, J⟩ := ins_inst I rx c r1 h1
  obtain ⟨ad2, ox2, od2, e3, e4, J2⟩ := ins_inst I ry c r2 h2
  subst e1; subst e2; subst e3; subst e4
  obtain ⟨m, hF⟩ := I.fr
  refine W.binop_K (op := .Add) hF I.ok.mod.kin J J2.type hc hs hf ?_
  refine wpAny_mono (run_N (us := [.ref ad, .ref ad2]) (vs := [.ref ad, .ref ad2]) (R := fun v H => (∃ a, v = .ref a) ∧ R v H) Fk hr hb I I.env0 (.cons rfl (.cons rfl .nil)) c (Reps.cons r1 (Reps.cons r2 Reps.nil)) h
    (fun v d C' H' H0' p c' r ⟨j, q⟩ => ⟨ins_ref j r, kk _ d C' H' H0' p c' r q⟩)) (fun w s' z => ?_) fun _ _ x => x
  obtain ⟨z', H', I', rz, ⟨a, e⟩, qz⟩ := z
  subst e
  cases (show w = Value.ref a from rz)
  exact ⟨.ref a, H', I', rfl, qz⟩
def ownAdd (Cl : Addr) (F : FS) (x y : D) : ME := fun C Q => ∃ ns ds ns2 ds2, InsD C x Cl ns ds ∧ InsD C y Cl ns2 ds2 ∧ callN F [x, y] C fun d C' => isInsD d = true ∧ Q d C'
theorem ownAdd_ok {K : W.Frag} (hc : W.selfFirst K Cl = true) (hs : W.findIn K (.ref Cl) "__add__" = some (some (.ref f))) (hf : W.isFn K (.ref f) = true) (Fk : FnG X.prog X.w K X.mg X.base k f fd ps F) (hr : RoomG k X.A) (hb : Binds K fd ps []) (hK : X.K = K := by rfl)
    (x y : D) (C : Cells) (Q : QE) (h : ownAdd Cl F x y C Q) : OW T (binaryOp .Add) x y C Q := by
  subst hK
  obtain ⟨ns, ds, ns2, ds2, h1, h2, h3⟩ := h
  exact ow_addOwn hc hs hf Fk.up hr hb h1 h2 h3.asks
def oAddO (own : D → D → ME) (x y : D) : ME := match x with
  | .ins c ns ds => own (.ins c ns ds) y
  | x => oAdd x y
theorem oAddO_ok {own : D → D → ME} (ho : ∀ x y C Q, own x y C Q → OW T (binaryOp .Add) x y C Q) (x y : D) (C : Cells) (Q : QE) (h : oAddO own x y C Q) : OW T (binaryOp .Add) x y C Q := by
  unfold oAddO at h
  split at h
  · exact ho _ _ _ _ h
  · exact oAdd_ok _ _ _ _ h
/-! ### x[i] of own instances -/
theorem run_T1 {pins : List (Addr × Obj)} {σ : L2.St} {H H0 : Hp} {s : Shared} {R : VK} {us : List Value} {vs : List V} {ds : List D} (Fk : FnG X.prog X.w X.K X.mg X.base k f fd ps F) (hr : RoomG (k + 1) X.A) (hb : Binds X.K fd ps dus) (hd : Vals dvs dus) (hdd : ∀ H, Reps X.K H dds dvs)
    (I : Inv X pins σ H s) (rv : Vals vs us) (at_ : At T H0 ρ C σ H) (r : Reps X.K H0 ds vs) (h : Asks T F ρ (ds ++ dds) C Q) (k : Cont X H0 C H Q R) : wpAny (model X.prog X.w) X.A.in1 (call (.ref f) us) (EP X pins σ R) X.xe s := by
  have all := asks_sp h at_ (r.append (hdd H0)) k
  have nlen : (us ++ dus).length = ps.length := by
    obtain ⟨_, ds', _, _, _, _, r', h', _⟩ := id all
    rw [← (rv.append hd).length, ← r'.length]
    exact Fk.len _ _ _ _ h'
  have went := Fk.run X.A.in1 X.stack s H ⟨us, []⟩ (us ++ dus) (vs ++ dvs) R _ (in1_G hr) I.env0.in1 (hb s us I.kIn nlen) (rv.append hd) all
  refine wpAny_call (codeAny_mono went ?_)
  rintro (e | (_ | _ | _ | u)) s' hq
  · exact passAt T.tk σ pins H s e s' I hq
  · exact False.elim hq
  · exact False.elim hq
  · exact False.elim hq
  · exact I.after hq
def OwnIx (b : Expr) : Prop := ∀ (o : Addr) i, subscripted b true (.ref o) i = runValue (.builtin "lifetime.subscript" ⟨[.ref o, i], []⟩)
theorem we_ixO (hs : W.findIn X.K (.ref Cl) "__getitem__" = some (some (.ref f))) (hf : W.fnIn X.K f = true) (hfn : W.isFn X.K (.ref f) = true) (Fk : FnG X.prog X.w X.K X.mg X.base k f fd ps F) (hr : RoomG (k + 1) X.A) (hb : Binds X.K fd ps []) (h1 : PlainIx b) (h2 : OwnIx b)
    (h : WE T a ρ C fun d1 C1 => WE T b ρ C1 fun d2 C2 => IW T d1 d2 C2 Q ∨ ∃ ns ds, InsD C2 d1 Cl ns ds ∧ Asks T F ρ [d1, d2] C2 Q) : WE T (.Subscript a b pos) ρ C Q := by
  refine ⟨fun pins s σ H R I ⟨H0, at_, kk⟩ => ?_⟩
  refine Subscript_ (binT (R := fun x y H2 => ∃ d1 d2 C2 H02, At T H02 ρ C2 σ H2 ∧ Cont X H02 C2 H2 Q R ∧ Rep X.K H02 d1 x ∧ Rep X.K H02 d2 y ∧ (IW T d1 d2 C2 Q ∨ ∃ ns ds, InsD C2 d1 Cl ns ds ∧ Asks T F ρ [d1, d2] C2 Q)) h (pe_some T ρ b) I
    ⟨H0, at_, fun v1 d1 C1 H1 H01 p1 c1 r1 q1 => ⟨C1, _, q1, H01, at_.step p1 c1, fun v2 d2 C2 H2 H02 p2 c2 r2 q2 => ⟨d1, d2, C2, H02, (at_.step p1 c1).step p2 c2, kk.after (p1.trans c1 p2) c2 fun _ _ z => z, r1.mono p2.base, r2, q2⟩⟩⟩ fun v u s2 x y H2 I2 rx ry q => ?_)
  obtain ⟨d1, d2, C2, H02, at2, k2, r1, r2, q2⟩ := q
  rcases q2 with q2 | ⟨ns, ds, hi, q2⟩
  · exact q2 a b pins s2 σ H2 x y v u R I2 rx ry ⟨H02, at2.c, r1, r2, k2⟩ (h1 _ _)
  · obtain ⟨ad, ox, od, e1, e2, J⟩ := ins_inst I2 rx at2.c r1 hi
    subst e1; subst e2
    obtain ⟨m, hF⟩ := I2.fr
    refine W.sub_K hF I2.ok.mod.kin J hs hf hfn ?_ (h2 _ _)
    exact run_T1 (us := [.ref ad, u]) (vs := [.ref ad, y]) (ds := [d1, d2]) (dds := []) Fk hr hb .nil (fun _ => Reps.nil) I2 (.cons rfl (.cons ry .nil)) at2 (Reps.cons r1 (Reps.cons r2 Reps.nil)) (by simpa using q2) k2
/-- x[i]: F is what the class's own def does -/
def pIxO (Cl : Addr) (F : FS) (Xq : QX) (x y : D) : ME := match x with
  | .ins c ns ds => fun C Q => c = Cl ∧ callW F Xq [.ins c ns ds, y] C Q
  | x => pIx x y
theorem se_ixO {K : W.Frag} (hs : W.findIn K (.ref Cl) "__getitem__" = some (some (.ref f))) (hf : W.fnIn K f = true) (hfn : W.isFn K (.ref f) = true) (Fk : FnG X.prog X.w K X.mg X.base k f fd ps F) (hr : RoomG (k + 1) X.A) (hb : Binds K fd ps []) (hX : ∀ cls fs C, Xq cls fs C → T.XQ cls fs ρ C)
    (ha : SE T a ρ A) (hb' : SE T b ρ B) (hK : X.K = K := by rfl) (h1 : PlainIx b := by intro _ _; rfl) (h2 : OwnIx b := by intro _ _; rfl) : SE T (.Subscript a b pos) ρ (eBin A B (pIxO Cl F Xq)) := by
  subst hK
  exact fun C Q h => we_ixO hs hf hfn Fk.up hr hb h1 h2 ((ha C _ h).mono fun x C1 h1 => (hb' C1 _ h1).mono fun y C2 h2 => by
    unfold pIxO at h2
    split at h2
    · obtain ⟨rfl, h2⟩ := h2
      exact .inr ⟨_, _, .inl rfl, h2.asks hX⟩
    · exact .inl (pIx_iw h2))
/-! ### min -/
theorem cw_min2 {i j : Int} (hc : X.calm = true) (q : Q (.int (if j < i then j else i)) C) : CW T (.builtin "min") [.int i, .int j] C Q :=
  cw_look (d := .int (if j < i then j else i)) (call_min2 hc) (fun xs H H0 c r => by
    obtain ⟨v, w, e1, r1, r2⟩ := r.two
    cases r1; cases r2; subst e1
    exact ⟨_, rfl, fun R k => ⟨i, j, rfl, k⟩⟩) q
def pMin2 : D → D → ME
  | .int i, .int j => fun C Q => Q (.int (if j < i then j else i)) C
  | _, _ => fun _ _ => False
theorem pMin_ok (hc : X.calm = true) (ds : List D) (C : Cells) (Q : QE) (h : on2 pMin2 ds C Q) : CW T (.builtin "min") ds C Q :=
  on2_ok (fun d d2 C Q h => by
    unfold pMin2 at h; split at h
    · exact cw_min2 hc h
    · exact h.elim) ds C Q h
end
end Tr

set_option maxHeartbeats 4000000
namespace Tr
open PySem L2 PySem.Spec PyProof.Rows
/-! ### dicts: their keys, their values -/
def lookD : List Key → List D → Key → Option D
  | k :: ks, d :: ds, j => if k = j then some d else lookD ks ds j
  | _, _, _ => none
def putD (ks : List Key) (ds : List D) (j : Key) (x : D) : List D := if (ks.any fun k => decide (k = j)) = true then (ks.zip ds).map fun p => if p.1 = j then x else p.2 else ds ++ [x]
def putKs (ks : List Key) (j : Key) : List Key := if (ks.any fun k => decide (k = j)) = true then ks else ks ++ [j]
def keyD : D → Option Key
  | .str s => some (.inr s)
  | .int i => some (.inl i)
  | _ => none
section
variable {K : W.Frag} {H : Hp}
theorem lookD_reps : ∀ {ks : List Key} {ds : List D} {vs : List V} {j : Key} {d : D}, Reps K H ds vs → lookD ks ds j = some d → ∃ v, valV (ks.zip vs) j = some v ∧ Rep K H d v
  | k :: ks, d0 :: ds, vs, j, d, ⟨v, r, e, r1, r2⟩, h => by
    subst e
    unfold lookD at h
    rw [List.zip_cons_cons]
    by_cases c : k = j
    · rw [if_pos c] at h; cases h
      exact ⟨v, valV_pos c, r1⟩
    · rw [if_neg c] at h
      obtain ⟨u, h1, h2⟩ := lookD_reps r2 h
      exact ⟨u, by rw [valV_neg c]; exact h1, h2⟩
  | [], ds, _, _, _, _, h => by cases ds <;> cases h
  | _ :: _, [], _, _, _, _, h => by cases h
theorem putD_reps {ks : List Key} {ds : List D} {vs : List V} {j : Key} {d : D} {v : V} (r : Reps K H ds vs) (l : ks.length = vs.length) (rd : Rep K H d v) :
    ∃ vs', putK (ks.zip vs) j v = (putKs ks j).zip vs' ∧ (putKs ks j).length = vs'.length ∧ Reps K H (putD ks ds j d) vs' := by
  have any : ∀ (ks : List Key) (vs : List V), ks.length = vs.length → ((ks.zip vs).any fun kv => decide (kv.1 = j)) = ks.any fun k => decide (k = j) := by
    intro ks
    induction ks with
    | nil => intro vs _; simp
    | cons k ks ih =>
      intro vs l
      cases vs with
      | nil => cases l
      | cons v vs =>
        rw [List.zip_cons_cons, List.any_cons, List.any_cons, ih vs (by simpa using l)]
  unfold putK putKs putD
  rw [any ks vs l]
  by_cases c : (ks.any fun k => decide (k = j)) = true
  · rw [if_pos c, if_pos c, if_pos c]
    refine ⟨(ks.zip vs).map fun p => if p.1 = j then v else p.2, ?_, by simp [l], ?_⟩
    · clear any c r
      induction ks generalizing vs with
      | nil => simp
      | cons k ks ih =>
        cases vs with
        | nil => cases l
        | cons u vs =>
          simp only [List.zip_cons_cons, List.map_cons]
          rw [ih (by simpa using l)]
          by_cases c : k = j <;> simp [c]
    · clear any c
      induction ks generalizing vs ds with
      | nil => simp; exact Reps.nil
      | cons k ks ih =>
        cases vs with
        | nil => cases l
        | cons u vs =>
          cases ds with
          | nil => cases r
          | cons d0 ds =>
            obtain ⟨_, _, e, r1, r2⟩ := r
            cases e
            simp only [List.zip_cons_cons, List.map_cons]
            refine Reps.cons ?_ (ih r2 (by simpa using l))
            by_cases c : k = j
            · rw [if_pos c, if_pos c]; exact rd
            · rw [if_neg c, if_neg c]; exact r1
  · rw [if_neg c, if_neg c, if_neg c]
    exact ⟨vs ++ [v], by rw [List.zip_append l]; rfl, by simp [l], Reps.append r (Reps.cons rd Reps.nil)⟩
end
section
variable {X : Cx} {T : TX X} {ρ : Rho} {C : Cells} {N : TEnds} {e a b c o i elt : Expr} {pos pos' p p2 apos : Pos} {es : List Expr} {rest body : List Stmt} {x m : Str} {A B : ME} {AS : MA} {mm : MB} {Q : QE} {d d1 d2 : D} {ks : List Key} {ds : List D} {key : Key}
/-- a dict: one that stands still, or a cell -/
def DicD (C : Cells) (d : D) (ks : List Key) (ds : List D) : Prop := d = .dic ks ds ∨ ∃ a, d = .raw (.ref a) ∧ (a, Cell.dK ks ds) ∈ C
theorem dic_at {H0 H : Hp} {v : V} (c : CellsR X.K H0 C H) (r : Rep X.K H0 d v) (h : DicD C d ks ds) : ∃ a vs, v = .ref a ∧ Rd H a (.dK (ks.zip vs)) ∧ ks.length = vs.length ∧ Reps X.K H0 ds vs := by
  rcases h with rfl | ⟨a, rfl, hm⟩
  · obtain ⟨a, vs, h1, h2, h3, h4⟩ := r
    exact ⟨a, vs, h1, Same.rd c.same h2, h3, h4⟩
  · obtain ⟨vs, h2, h3, h4⟩ := c.ok a _ hm
    exact ⟨a, vs, r, .inl h2, h3, h4⟩
theorem ix_dict (hu : X.A.units + 1 < cLine) : IxR X (fun x y H Q => ∃ a v, x = .ref a ∧ DGet H a y (some v) ∧ Q v H) := by
  intro value slice pins s σ H x y v u Q I rx ry ⟨a, w0, ex, g, q⟩ hs
  subst ex
  obtain rfl : v = Value.ref a := rx
  have tI := dict_typeIs I g
  unfold subscriptTail
  refine wpAny_bind ?_
  rw [getitemInPython_of_ne tI.not_modules]
  refine wpAny_bind (wpAny_specialOf tI PySem.F.slot_dict_getitem.lookup ?_)
  have way : wpAny (model X.prog X.w) X.A (subscripted slice false (.ref a) u) (fun r s₃ => wpAny (model X.prog X.w) X.A (letTemporaryGo value (.ref a) r >>= fun _ => pure r) (EP X pins σ Q) X.xe s₃) X.xe s := by
    rw [hs]
    refine wpAny_operating (wpAny_mono (d_getItem hu I g ry fun w' s3 I3 rw' => (⟨w0, H, I3, rw', q⟩ : EP X pins σ Q w' s3)) (fun r s₃ h₃ => ?_) fun _ _ z => z)
    exact wpAny_bind (wpAny_letTemporaryGo (wpAny_pure h₃))
  first
    | exact wpAny_pure (wpAny_bind way)
    | exact wpAny_bind (wpAny_pure (wpAny_bind way))
    | exact wpAny_bind way
theorem keyD_rep {H0 : Hp} {y : V} (h : keyD d = some key) (r : Rep X.K H0 d y) : y = kV key := by
  cases d with
  | str s => cases h; exact r
  | int i => cases h; exact r
  | _ => cases h
theorem iw_dic (hu : X.A.units + 64 < cLine) (h : DicD C d1 ks ds) (hk : keyD d2 = some key) (hl : lookD ks ds key = some d) (q : Q d C) : IW T d1 d2 C Q :=
  IxR.imp (ix_dict (by omega)) fun x y H R ⟨H0, c, r1, r2, k⟩ => by
    obtain ⟨a, vs, e1, g1, g2, g3⟩ := dic_at c r1 h
    obtain ⟨v, h1, h2⟩ := lookD_reps g3 hl
    exact ⟨a, v, e1, .inl ⟨_, key, g1, keyD_rep hk r2, h1.symm⟩, k.here c h2 q⟩
/-- x[y] with dicts, too -/
def pIxD (x y : D) : ME := fun C Q => pIx x y C Q ∨ ∃ ks ds key d, DicD C x ks ds ∧ keyD y = some key ∧ lookD ks ds key = some d ∧ Q d C
theorem se_ixD (hu : X.A.units + 64 < cLine) (ha : SE T a ρ A) (hb : SE T b ρ B) (hs : PlainIx b := by intro _ _; rfl) : SE T (.Subscript a b pos) ρ (eBin A B pIxD) :=
  fun C Q h => we_ix ((ha C _ h).mono fun x C1 h1 => (hb C1 _ h1).mono fun y C2 h2 => by
    rcases h2 with h2 | ⟨ks, ds, key, d, h1, h2, h3, h4⟩
    · exact pIx_iw h2
    · exact iw_dic hu h1 h2 h3 h4) hs
/-- x[y] = d with dicts, too -/
theorem set_dict (hu : X.A.units + 1 < cLine) : PSet X (fun o i v H Q => ∃ a H', o = .ref a ∧ DPut H a i v H' ∧ Q H') := by
  intro pins s σ H o i v ov iv u Q I ro ri rv ⟨a, H', ea, g, q⟩
  subst ea
  obtain rfl : ov = Value.ref a := ro
  exact d_setItem hu I g ri rv fun s4 I4 => ⟨H', I4, q⟩
abbrev mSubD (A B : ME) (d : D) (mm : MB) : MB := fun C => A C fun od C1 => B C1 fun id C2 => ∃ (j : Nat) (z : Addr) (ks : List Key) (ds : List D) (key : Key), od = .raw (.ref z) ∧ keyD id = some key ∧ C2[j]? = some (z, .dK ks ds) ∧ ks.length < 1000 ∧ mm (C2.set j (z, .dK (putKs ks key) (putD ks ds key d)))
theorem sg_subD {d : D} (hu : X.A.units + 64 < cLine) (ho : SE T o ρ A) (hb : SE T b ρ B) (h : SB T body ρ mm N)
    (ha : ∀ v, assign (.Subscript o b pos) X.env v = (do
      let ov ← holding [v] (eval o X.env)
      let iv ← holding [v, ov] (eval b X.env)
      standAt pos
      holding [v, ov, iv] (setItem ov iv v)
      release [v, ov, iv] []) := by intro _; rfl) : SG T (.Subscript o b pos) d ρ body (mSubD A B d mm) N := fun C q => by
  refine PG.imp (pg_sub (ho C _ q) (pe_some T ρ b) (set_dict (by omega)) ha) fun v σ H R ⟨H0, at_, r, k⟩ => ⟨H0, at_, fun v1 od C1 H1 H01 p1 c1 r1 q1 => ⟨C1, _, hb C1 _ q1, H01, at_.step p1 c1, fun v2 id C2 H2 H02 p2 c2 r2 ⟨j, z, ks, ds, key, e1, e2, hi, hn, q⟩ => ?_⟩⟩
  subst e1
  obtain rfl : v1 = .ref z := r1
  obtain ⟨vs, g1, g2, g3⟩ := c2.ok z _ (List.mem_iff_getElem?.mpr ⟨j, hi⟩)
  obtain ⟨vs', f1, f2, f3⟩ := putD_reps (j := key) g3 g2 ((r.mono p1.base).mono p2.base)
  obtain ⟨p3, c3⟩ := stp_write (o := .dK (putK (ks.zip vs) key v)) c2 hi (c' := .dK (putKs ks key) (putD ks ds key d)) ⟨vs', by rw [upd_same, f1], f2, f3⟩
  have at3 := ((at_.step p1 c1).step p2 c2).step p3 c3
  refine ⟨z, _, rfl, .inl ⟨_, key, g1, keyD_rep e2 r2, ?_, rfl⟩, k _ _ _ _ _ ((p1.trans c1 p2).trans c2 p3) c3 at3.s at3.l (h _ q)⟩
  rw [List.length_zip, sizeLine_eq]; omega
/-- a sign not in a text -/
def oNotInS (x y : D) : ME := fun C Q => ∃ n z, x = .str ⟨#[n]⟩ ∧ y = .str z ∧ Q (.bl (!decide (n ∈ z.cps.toList))) C
theorem oNotInS_ok (x y : D) (C : Cells) (Q : QE) (h : oNotInS x y C Q) : OW T (compareOp .NotIn) x y C Q := by
  obtain ⟨n, z, rfl, rfl, q⟩ := h
  exact ow_look (d := .bl (!decide (n ∈ z.cps.toList))) op_notIn_sign (fun u v H H0 c r1 r2 => by cases r1; cases r2; exact ⟨_, rfl, fun R k => ⟨n, z, rfl, rfl, k⟩⟩) q
/-! ### displays -/
/-- the values of a display, its keys written -/
def SD (T : TX X) (pos : Pos) (keys : List (Option Expr)) (values : List Expr) (ρ : Rho) (ks : List Key) (AS : MA) : Prop := ∃ trs, PPs X pos keys values trs ∧
  ∀ C (Q : QA), AS C Q → ∀ σ H (R : List (V × V) → Hp → Prop) H0, At T H0 ρ C σ H → (∀ ws ds C' H' H0', Stp H0 C H H0' C' H' → CellsR X.K H0' C' H' → Reps X.K H0' ds ws → ks.length = ws.length → Q ds C' → R ((ks.map kV).zip ws) H') → tPairs trs σ H R
theorem sd_nil : SD T pos [] [] ρ [] aNil := ⟨[], pps_nil, fun C Q q σ H R H0 at_ k => k [] [] C H H0 (Stp.refl _ _ _) at_.c Reps.nil rfl q⟩
theorem sd_cons {s : Str} {j : Nat} {pk : Pos} {v : Expr} {keys : List (Option Expr)} {values : List Expr} (h : SE T v ρ A) (g : SD T pos keys values ρ ks AS) : SD T pos (some (.Constant (.str s) j pk) :: keys) (v :: values) ρ (.inr s :: ks) (aCons A AS) := by
  obtain ⟨trs, pp, go⟩ := g
  refine ⟨_, pps_cons pe_str (pe_some T ρ v) pp, fun C Q q σ H R H0 at_ k => ?_⟩
  refine ⟨C, _, h C _ q, H0, at_, fun y d C1 H1 H01 p1 c1 r1 q1 => ?_⟩
  exact go C1 _ q1 σ H1 _ H01 (at_.step p1 c1) fun ws ds C2 H2 H02 p2 c2 r2 l q2 => k (y :: ws) (d :: ds) C2 H2 H02 (p1.trans c1 p2) c2 (Reps.cons (r1.mono p2.base) r2) (by simp [l]) q2
/-- a display as a dict that may change; keys written, all different -/
def eDisp (ks : List Key) (AS : MA) : ME := fun C Q => ks.Nodup ∧ ks.length ≤ 15 ∧ ∀ p, AS ((p, .dK [] []) :: C) fun ds C1 => ∃ i, C1[i]? = some (p, .dK [] []) ∧ Q (.raw (.ref p)) (C1.set i (p, .dK ks ds))
theorem merge_new : ∀ (more kvs : List (Key × V)), ((kvs ++ more).map (·.1)).Nodup → mergeK kvs more = kvs ++ more
  | [], kvs, _ => by simp [mergeK]
  | (k, v) :: r, kvs, h => by
    have hn : valV kvs k = none := by
      have h1 : ¬ k ∈ kvs.map (·.1) := by
        intro hm
        rw [List.map_append, List.nodup_append] at h
        exact h.2.2 k hm k List.mem_cons_self rfl
      cases e : valV kvs k with
      | none => rfl
      | some u =>
        exfalso
        apply h1
        unfold valV at e
        obtain ⟨q, hq, _⟩ := Option.map_eq_some_iff.mp e
        have hm := List.mem_of_find?_eq_some hq
        have hk0 : decide (q.1 = k) = true := List.find?_some (p := fun kv : Key × V => decide (kv.1 = k)) hq
        have hk := of_decide_eq_true hk0
        rw [← hk]
        exact List.mem_map_of_mem hm
    show mergeK (putK kvs k v) r = _
    rw [putK_new v hn]
    rw [merge_new r (kvs ++ [(k, v)]) (by simpa using h)]
    simp
theorem se_disp {keys : List (Option Expr)} {values : List Expr} (h : SD T pos keys values ρ ks AS) (hall : keys.all (·.isSome) = true := by rfl) (hl : keys.length = values.length := by rfl) (h0 : keys ≠ [] := by intro h; cases h) (h15 : keys.length ≤ 15 := by decide) :
    SE T (.Dict keys values pos) ρ (eDisp ks AS) := by
  obtain ⟨trs, pp, go⟩ := h
  intro C Q ⟨nd, k15, q⟩
  refine PE.imp (pe_disp pp hall hl h0 h15) fun σ H R ⟨H0, at_, k⟩ p hp => ?_
  obtain ⟨p2, c2⟩ := stp_cell (o := .dK []) (c := .dK [] []) at_.c hp ⟨[], upd_same, rfl, Reps.nil⟩
  have at2 := at_.step p2 c2
  refine go _ _ (q p) σ _ _ H0 at2 fun ws ds C' H' H0' p3 c3 r3 l ⟨i, hi, q3⟩ => ?_
  obtain ⟨vs, g1, g2, g3⟩ := c3.ok p _ (List.mem_iff_getElem?.mpr ⟨i, hi⟩)
  have e0 : H' p = some (.dK []) := g1
  have lz : ∀ (ks : List Key) (ws : List V), (ks.map kV).zip ws = (ks.zip ws).map fun kv => (kV kv.1, kv.2) := by
    intro ks
    induction ks with
    | nil => intro ws; rfl
    | cons k ks ih => intro ws; cases ws with
      | nil => rfl
      | cons w ws => simp [ih]
  refine ⟨e0, ks.zip ws, lz ks ws, by rw [List.length_zip]; omega, ?_⟩
  have fst : ∀ (ks : List Key) (ws : List V), ks.length = ws.length → (ks.zip ws).map (·.1) = ks := fun ks ws l => List.map_fst_zip (by omega)
  rw [merge_new _ [] (by rw [List.nil_append, fst ks ws l]; exact nd), List.nil_append]
  obtain ⟨p4, c4⟩ := stp_write (o := .dK (ks.zip ws)) c3 hi (c' := .dK ks ds) ⟨ws, upd_same, l, r3⟩
  exact k _ (.raw (.ref p)) _ _ _ ((p2.trans c2 p3).trans c3 p4) c4 rfl q3
variable {cpos : Pos}
/-! xs.pop(i), xs.insert(i, y) -/
def pPopAt (od d : D) : ME := fun C Q => ∃ (i : Nat) (z : Addr) (ds : List D) (k : Int) (n : Nat) (e : D), od = .raw (.ref z) ∧ d = .int k ∧ C[i]? = some (z, .lst ds) ∧ (-100000 ≤ k ∧ k < 100000) ∧ ixN ds.length k = some n ∧ ds[n]? = some e ∧ Q e (C.set i (z, .lst (ds.eraseIdx n)))
theorem Reps.erase {K : W.Frag} {H : Hp} : ∀ {ds : List D} {vs : List V} (n : Nat), Reps K H ds vs → Reps K H (ds.eraseIdx n) (vs.eraseIdx n)
  | [], vs, n, h => by
    have := h.length
    obtain rfl : vs = [] := by cases vs <;> simp_all
    simpa using h
  | d :: ds, vs, n, h => by
    obtain ⟨v, vs', rfl, h1, h2⟩ := h
    cases n with
    | zero => exact h2
    | succ n => exact Reps.cons h1 (Reps.erase n h2)
theorem se_popAt (ho : SE T o ρ A) (ha : SE T a ρ B)
    (hbase : attributeBase o "pop" X.env (eval o X.env) = eval o X.env := by rfl) (hline : (apos.endLine == cpos.line) = true := by rfl) (hs : starEach [a] X.env = (false, eval a X.env) :: starEach [] X.env := by rfl)
    (hfew : ((backTo cpos (starEach [a] X.env)).all (fun x => !x.1) && (backToKw cpos (keywordEach [] X.env)).all (fun x => x.1.isSome)
      && decide (([a] : List Expr).length + ([] : List Keyword).length + (if ([] : List Keyword).isEmpty then 0 else 1) < 30)) = true := by rfl) (hplain : (backTo cpos (starEach [] X.env)).any (·.1) = false := by rfl) :
    SE T (.Call (.Attribute o "pop" apos) [a] [] cpos) ρ (eL1 A B pPopAt) := fun C Q q => by
  have h : Tr.WE T o ρ C fun od C1 => isL od C1 ∧ Tr.WE T a ρ C1 fun d C2 => pPopAt od d C2 Q := (ho C _ q).mono fun od C1 ⟨h1, h2⟩ => ⟨h1, ha C1 _ h2⟩
  refine PE.imp (pe_bm F.plainAttrs_list F.slot_list_pop F.type_list_pop mt_popAt h (pa_cons (pe_some T ρ a) pa_nil hs) hbase hfew hline hs hplain) fun σ H R ⟨H0, at_, k⟩ => ⟨H0, at_, fun v od C1 H1 H01 p1 c1 r1 ⟨⟨z, ds, e1, hz⟩, hw⟩ => ?_⟩
  subst e1
  obtain rfl : v = .ref z := r1
  obtain ⟨vs, g1, g2⟩ := c1.ok z _ hz
  refine ⟨.inl ⟨rfl, vs, .inl (.inl g1)⟩, C1, _, hw, H01, at_.step p1 c1, fun v2 d C2 H2 H02 p2 c2 r2 ⟨i, z2, ds2, kk, n, e, ez, ed, hi2, hb, hn, he, q⟩ => ?_⟩
  cases ez
  subst ed
  cases r2
  obtain ⟨vs2, f1, f2⟩ := c2.ok z _ (List.mem_iff_getElem?.mpr ⟨i, hi2⟩)
  obtain ⟨ve, h1, h2⟩ := f2.get he
  refine ⟨z, vs2, kk, n, ve, rfl, rfl, f1, by omega, by omega, by rw [← f2.length]; exact (ixN_seq hn).1, h1, ?_⟩
  obtain ⟨p3, c3⟩ := stp_write (o := .lst (vs2.eraseIdx n)) c2 hi2 (c' := .lst (ds2.eraseIdx n)) ⟨_, upd_same, Reps.erase n f2⟩
  exact k ve e _ _ _ ((p1.trans c1 p2).trans c2 p3) c3 h2 q
/-! ### dict comprehensions: a dict that stands still -/
def DcW (T : TX X) (scope : Scope) (bd : Bind) (kx vx : Expr) (vs : List Nat) (ρ : Rho) (P : Cells → Prop) (Q : QE) : List D → List Key → List D → Cells → Prop
  | [], ks, ds, C => P C ∧ Q (.dic ks ds) C
  | d :: r, ks, ds, C => P C ∧ ∃ ρ', bd.to d (wipeR ρ vs) = some ρ' ∧ InBlk T scope fun T' => Tr.WE T' kx ρ' C fun y C2 => InBlk T scope fun T2 => Tr.WE T2 vx ρ' C2 fun z C3 => ∃ key, keyD y = some key ∧ ks.length < 100000 ∧ DcW T scope bd kx vx vs ρ P Q r (putKs ks key) (putD ks ds key z) C3
structure WayD (X : Cx) (H01 : Hp) (C1 : Cells) (H1 : Hp) (L : Addr) (ks : List Key) (acc : List D) (H0 : Hp) (C : Cells) (H : Hp) : Prop where
  st : Stp H01 C1 H1 H0 C H
  c : CellsR X.K H0 C H
  at_ : ∃ vs, H L = some (.dK (ks.zip vs)) ∧ ks.length = vs.length ∧ Reps X.K H0 acc vs
  n0 : H0 L = none
  nd : ¬ Dom C L
theorem WayD.step {H01 H1 H0 H H0' H' : Hp} {C1 C' : Cells} {L : Addr} {acc : List D} (w : WayD X H01 C1 H1 L ks acc H0 C H) (p : Stp H0 C H H0' C' H') (c' : CellsR X.K H0' C' H') : WayD X H01 C1 H1 L ks acc H0' C' H' := by
  obtain ⟨vs, h1, hl, h2⟩ := w.at_
  obtain ⟨q1, q2⟩ := p.own L (by rw [h1]; simp) w.n0 w.nd
  exact ⟨w.st.trans w.c p, c', ⟨vs, p.fr L _ h1 w.nd, hl, h2.mono p.base⟩, q1, q2⟩
theorem WayD.add {H01 H1 H0 H : Hp} {C1 : Cells} {L : Addr} {acc : List D} {d : D} {v : V} (w : WayD X H01 C1 H1 L ks acc H0 C H) (hL : H1 L = none) (r : Rep X.K H0 d v) : ∃ vs, H L = some (.dK (ks.zip vs)) ∧ ks.length = vs.length ∧ WayD X H01 C1 H1 L (putKs ks key) (putD ks acc key d) H0 C (upd H L (.dK (putK (ks.zip vs) key v))) := by
  obtain ⟨vs, h1, hl, h2⟩ := w.at_
  have off : ∀ a x, (a, x) ∈ C → a ≠ L := fun a x hx e => w.nd ⟨x, e ▸ hx⟩
  obtain ⟨vs', e1, e2, e3⟩ := putD_reps (j := key) h2 hl r
  refine ⟨vs, h1, hl, ⟨⟨w.st.base, fun a o h n => ?_, w.st.own⟩, ⟨fun a o h => ?_, w.c.free, fun a x hx => (w.c.ok a x hx).mono (Same.refl _) (upd_ne (off a x hx)), w.c.nd⟩, ⟨vs', by rw [upd_same, e1], e2, e3⟩, w.n0, w.nd⟩⟩
  · rw [upd_ne (ne_of_none h hL)]; exact w.st.fr a o h n
  · rw [upd_ne (ne_of_none h w.n0)]; exact w.c.same a o h
theorem WayD.fin {H01 H1 H0 H : Hp} {C1 : Cells} {L : Addr} {acc : List D} (w : WayD X H01 C1 H1 L ks acc H0 C H) (hL : H1 L = none) : ∃ H0', Stp H01 C1 H1 H0' C H ∧ CellsR X.K H0' C H ∧ Rep X.K H0' (.dic ks acc) (.ref L) := by
  obtain ⟨vs, h1, hl, h2⟩ := w.at_
  have s0 : Same H0 (upd H0 L (.dK (ks.zip vs))) := fun a u h => by rw [upd_ne (ne_of_none h w.n0)]; exact h
  refine ⟨upd H0 L (.dK (ks.zip vs)), ⟨w.st.base.trans s0, w.st.fr, fun a h e n => ?_⟩, ⟨fun a o h => ?_, fun a d => ?_, fun a x hx => (w.c.ok a x hx).mono s0 rfl, w.c.nd⟩, ⟨L, vs, rfl, .inl upd_same, hl, h2.mono s0⟩⟩
  · obtain ⟨q1, q2⟩ := w.st.own a h e n
    exact ⟨by rw [upd_ne (show a ≠ L from fun z => h (by rw [z]; exact hL))]; exact q1, q2⟩
  · by_cases q : a = L
    · subst q; rw [upd_same] at h; cases h; exact h1
    · rw [upd_ne q] at h; exact w.c.same a o h
  · rw [upd_ne (show a ≠ L from fun z => w.nd (by rw [← z]; exact d))]; exact w.c.free a d
theorem wayD0 {H0 H : Hp} {L : Addr} (c : CellsR X.K H0 C H) (hL : H L = none) : WayD X H0 C H L [] [] H0 C (upd H L (.dK [])) := by
  have n0 := c.nn hL
  refine ⟨⟨Same.refl _, fun a o h n => by rw [upd_ne (ne_of_none h hL)]; exact h, fun a h e n => ⟨e, n⟩⟩, ⟨fun a o h => by rw [upd_ne (ne_of_none h n0)]; exact c.same a o h, c.free, fun a x hx => (c.ok a x hx).mono (Same.refl _) (upd_ne fun z => (c.ok a x hx).some (by rw [z]; exact hL)), c.nd⟩, ⟨[], upd_same, rfl, Reps.nil⟩, n0, c.notDom hL⟩
section
variable {scope : Scope} {own : List (Str × Nat)} {tg iter kx vx : Expr} {bd : Bind}
theorem read_dc (own : List (Str × Nat)) (bd : Bind) (hv : ∀ i ∈ bd.slots, i ∈ own.map (·.2)) : ∀ σ H R, TEx T ρ C Q σ H R → tDc (TIx T ρ C fun ds P C1 => DcW T scope bd kx vx (own.map (·.2)) ρ P Q ds [] [] C1) (bd.g X.K) tYes (someB T scope kx) (someB T scope vx) (own.map (·.2)) σ H R := by
  refine fun σ H R ⟨H0, at_, k⟩ => ⟨H0, at_, fun J ds P C1 H1 H01 p1 c1 y1 q1 L hL => ?_⟩
  have at1 := at_.step p1 c1
  refine ⟨fun j m H2 => m = ds.length - j ∧ j ≤ ds.length ∧ ∃ ks acc C2 H02, WayD X H01 C1 H1 L ks acc H02 C2 H2 ∧ DcW T scope bd kx vx (own.map (·.2)) ρ P Q (ds.drop j) ks acc C2, ⟨_, rfl, Nat.zero_le _, [], [], C1, H01, wayD0 c1 hL, q1⟩, ?_⟩
  rintro j m H2 ⟨rfl, hj, ks, acc, C2, H02, w2, q2⟩
  have hP : P C2 := by
    generalize ds.drop j = l at q2
    cases l with
    | nil => exact q2.1
    | cons d r => exact q2.1
  by_cases hlt : j < ds.length
  · rw [List.drop_eq_getElem_cons hlt] at q2
    obtain ⟨_, ρ', hb, qe⟩ := q2
    refine .inr ⟨y1.go j _ _ _ w2.st.base w2.c hP hlt, fun H3 => ∃ ks acc C3 H03, WayD X H01 C1 H1 L ks acc H03 C3 H3 ∧ DcW T scope bd kx vx (own.map (·.2)) ρ P Q (ds.drop (j + 1)) ks acc C3, fun H3 ⟨ks, acc, C3, H03, w3, q3⟩ => ⟨_, by omega, rfl, hlt, ks, acc, C3, H03, w3, q3⟩, fun x H3 hy => ?_⟩
    obtain ⟨H03, p3, c3, r3⟩ := y1.yld j _ _ _ x H3 ds[j] w2.st.base w2.c hP (by simp [hlt]) hy
    have w3 := w2.step p3 c3
    have at3 := at1.step w3.st c3
    refine bind_to c3.same hb hv r3 (at3.wipe _).s (at3.wipe _).l fun σ' s' l' ew => ⟨by rw [ew, wipe_wipe], ρ', C2, _, qe, H03, ⟨at3.a, c3, s', l'⟩, fun v y C4 H4 H04 p4 c4 r4 q4 => ?_⟩
    have w4 := w3.step p4 c4
    have at4 : At T H04 ρ' C4 σ' H4 := ⟨(at1.step w4.st c4).a, c4, SlotsR.mono s' p4.base, l'⟩
    refine ⟨ρ', C4, _, q4, H04, at4, fun v5 z C5 H5 H05 p5 c5 r5 ⟨key, hk, hlen, q5⟩ => ?_⟩
    obtain ⟨vs, f1, f2, w6⟩ := (w4.step p5 c5).add (key := key) hL r5
    refine ⟨_, key, keyD_rep hk r4, f1, ?_, _, _, C5, H05, w6, q5⟩
    rw [List.length_zip, ← f2, Nat.min_self]
    exact Nat.lt_trans hlen (by decide)
  · have e : j = ds.length := by omega
    subst e
    rw [List.drop_length] at q2
    obtain ⟨H0', f1, f2, f3⟩ := w2.fin hL
    exact .inl ⟨y1.stop _ _ _ _ w2.st.base w2.c hP (Nat.le_refl _), k _ _ C2 H2 H0' (p1.trans c1 f1) f2 f3 q2.2⟩
theorem we_dc (own : List (Str × Nat)) (bd : Bind) (hc : X.calm = true) (hN : X.N.Nodup) (ok : BlkOk X.N X.env.scope scope own)
    (hg : ∀ (s : Shared) (H : Hp) (Ca : Addr) (cl : List (Str × Addr)) (fp : List Addr), PG (X.blk s H scope (compEnvC scope cl Ca X.env) fp) tg (bd.g X.K)) (hv : ∀ i ∈ bd.slots, i ∈ own.map (·.2))
    (h : WI T tg iter ρ C fun ds P C1 => DcW T scope bd kx vx (own.map (·.2)) ρ P Q ds [] [] C1) (hs : ∀ x, foldedSetIterable iter X.env x = pure x := by intro _; rfl) : Tr.WE T (.DictComp kx vx [⟨tg, iter, [], 0⟩] scope pos) ρ C Q := by
  exact PE.imp (pe_dc hc hN h ok hg (fun _ _ _ _ _ => pts_nil) (pe_someB T scope kx) (pe_someB T scope vx) hs) (read_dc own bd hv)
/-- the loop of a mirror -/
def dcB (P : Cells → Prop) (f g : D → ME) (Q : QE) : List D → List Key → List D → Cells → Prop
  | [], ks, ds, C => P C ∧ Q (.dic ks ds) C
  | d :: r, ks, ds, C => P C ∧ f d C fun y C2 => g d C2 fun z C3 => ∃ key, keyD y = some key ∧ ks.length < 100000 ∧ dcB P f g Q r (putKs ks key) (putD ks ds key z) C3
abbrev eDc (I : MI) (f g : D → ME) : ME := fun C Q => I C fun ds P C1 => dcB P f g Q ds [] [] C1
theorem dc_mirror {bd : Bind} {vs : List Nat} {P : Cells → Prop} {Q : QE} {f g : D → ME} (hb : BdOk bd (wipeR ρ vs) T scope kx f) (hb2 : BdOk bd (wipeR ρ vs) T scope vx g) : ∀ {ds : List D} {ks : List Key} {acc : List D} {C : Cells}, dcB P f g Q ds ks acc C → DcW T scope bd kx vx vs ρ P Q ds ks acc C
  | [], ks, acc, C, h => h
  | d :: r, ks, acc, C, ⟨hp, h⟩ => by
    obtain ⟨ρ', e1, h1⟩ := hb.run d C _ h
    refine ⟨hp, ρ', e1, fun s H Ca cl fp => (h1 s H Ca cl fp).mono fun y C2 q => ?_⟩
    obtain ⟨ρ2, e2, h2⟩ := hb2.run d C2 _ q
    rw [e1] at e2; cases e2
    exact fun s H Ca cl fp => (h2 s H Ca cl fp).mono fun z C3 ⟨key, hk, hl, q⟩ => ⟨key, hk, hl, dc_mirror hb hb2 q⟩
theorem se_dc {I : MI} {f g : D → ME} (own : List (Str × Nat)) (bd : Bind) (hc : X.calm = true) (hN : X.N.Nodup) (ok : BlkOk X.N X.env.scope scope own)
    (hg : ∀ (s : Shared) (H : Hp) (Ca : Addr) (cl : List (Str × Addr)) (fp : List Addr), PG (X.blk s H scope (compEnvC scope cl Ca X.env) fp) tg (bd.g X.K)) (hv : ∀ i ∈ bd.slots, i ∈ own.map (·.2))
    (hI : SI T tg iter ρ I) (hb : BdOk bd (wipeR ρ (own.map (·.2))) T scope kx f) (hb2 : BdOk bd (wipeR ρ (own.map (·.2))) T scope vx g) (hs : ∀ x, foldedSetIterable iter X.env x = pure x := by intro _; rfl) : SE T (.DictComp kx vx [⟨tg, iter, [], 0⟩] scope pos) ρ (eDc I f g) :=
  fun C Q q => we_dc own bd hc hN ok hg hv ((hI C _ q).mono fun ds P C1 h => dc_mirror hb hb2 h) hs
end
/-! ### stars in displays -/
section
variable {X : Cx} {e : Expr} {es : List Expr} {p : Pos} {te : TE} {t : TA}
def tStar (K : W.Frag) (te : TE) (t : TA) : TA := fun σ H Q => te σ H fun x H1 => ∃ a xs, x = .ref a ∧ (SqL K H1 a xs ∨ SqT K H1 a xs) ∧ t σ H1 fun ys H2 => Q (xs ++ ys) H2
theorem pa_star (ha : PE X e te) (hr : PA X es t) (hs : starEach (.Starred e p :: es) X.env = (true, eval e X.env) :: starEach es X.env := by rfl) : PA X (.Starred e p :: es) (tStar X.K te t) := by
  refine ⟨fun pos pins s σ H Q I h => ?_⟩
  refine PySem.W.items_star (thn (ha.run pins s σ H _ I h) fun u s1 ⟨x, H1, I1, r1, a, xs, ex, hq, q1⟩ => ?_) hs
  subst ex
  obtain rfl : u = Value.ref a := r1
  have fin : ∀ {T : String} {o : Obj} {its : List Value} {n : Nat}, (T = "list" ∨ T = "tuple") → s1.heap.get? a = some o → o.cls = .type T → o.data = .seq its.toArray n → Vals xs its → its.length ≤ sizeLine →
      PySem.W.StarOf (model X.prog X.w) X.A X.xe (.ref a) (fun here s₂ => wpAny (model X.prog X.w) X.A (spliced (backTo pos (starEach es X.env))) (fun vs s₃ => AP X pins σ Q (here ++ vs) s₃) X.xe s₂) s1 := fun {T o its n} hT ho hc hd rv hz => by
    have hT' : s1.TypeIs (.ref a) T := ⟨o, ho, hc⟩
    have z : wpAny (model X.prog X.w) X.A (collect (.ref a)) (fun here s₂ => wpAny (model X.prog X.w) X.A (spliced (backTo pos (starEach es X.env))) (fun vs s₃ => AP X pins σ Q (here ++ vs) s₃) X.xe s₂) X.xe s1 := by
      refine wpAny_collect_seq a hT ho hc hd (fun h' hk => ?_) (by rw [List.size_toArray]; exact hz)
      have I2 : Inv X pins σ H1 { s1 with heap := h' } := I1.kept (t' := s1.toks) hk
      exact thn (hr.run pos pins _ σ H1 _ I2 q1) fun us s2 ⟨ys, H2, I3, r2, q2⟩ => ⟨xs ++ ys, H2, I3, rv.append r2, q2⟩
    unfold PySem.W.StarOf notIterableAtAll
    rcases hT with rfl | rfl
    · exact wpAny_bind (wpAny_specialOf hT' PySem.F.slot_list_iter.lookup (wpAny_pure ⟨rfl, z⟩))
    · exact wpAny_bind (wpAny_specialOf hT' PySem.F.slot_tuple_iter.lookup (wpAny_pure ⟨rfl, z⟩))
  rcases hq with hq | hq
  · obtain ⟨its, rv, ⟨o, n, ho, hc, hdn, hd⟩, hz⟩ := I1.list hq
    exact fin (.inl rfl) ho hc hd rv (by rw [← rv.length]; exact hz)
  · obtain ⟨its, rv, ⟨o, ho, hc, n, hd⟩, hz⟩ := I1.tuple hq
    exact fin (.inr rfl) ho hc hd rv (by rw [← rv.length]; exact hz)
end
theorem seqD_at {K : W.Frag} {H0 H : Hp} {v : V} {ds : List D} (c : CellsR K H0 C H) (r : Rep K H0 d v) (h : SeqD C d ds) : ∃ a vs, v = .ref a ∧ (SqL K H a vs ∨ SqT K H a vs) ∧ Reps K H0 ds vs := by
  rcases h with h | rfl
  · obtain ⟨a, vs, h1, h2, h3⟩ := lst_at c r h
    exact ⟨a, vs, h1, .inl h2, h3⟩
  · obtain ⟨a, vs, h1, h2, h3⟩ := r
    exact ⟨a, vs, h1, .inr (Same.sqT c.same h2), h3⟩
theorem wa_star {p : Pos} {Q : QA} (h : Tr.WE T a ρ C fun d C1 => ∃ xs, SeqD C1 d xs ∧ Tr.WA T es ρ C1 fun ds C2 => Q (xs ++ ds) C2) (hs : starEach (.Starred a p :: es) X.env = (true, eval a X.env) :: starEach es X.env := by rfl) : Tr.WA T (.Starred a p :: es) ρ C Q :=
  PA.imp (pa_star h (pa_some T ρ es) hs) fun σ H R ⟨H0, at_, k⟩ => ⟨H0, at_, fun v d C1 H1 H01 p1 c1 r1 ⟨xs, hx, q1⟩ => by
    obtain ⟨a, vs, e, hq, rv⟩ := seqD_at c1 r1 hx
    exact ⟨a, vs, e, hq, C1, _, q1, H01, at_.step p1 c1, fun vs2 ds C2 H2 H02 p2 c2 r2 q2 => k _ _ C2 H2 H02 (p1.trans c1 p2) c2 (Reps.append (rv.mono p2.base) r2) q2⟩⟩
abbrev aStar (A : ME) (B : MA) : MA := fun C Q => A C fun d C1 => ∃ xs, SeqD C1 d xs ∧ B C1 fun ds C2 => Q (xs ++ ds) C2
theorem sa_star {p : Pos} (h : SE T a ρ A) (g : SA T es ρ AS) (hs : starEach (.Starred a p :: es) X.env = (true, eval a X.env) :: starEach es X.env := by rfl) : SA T (.Starred a p :: es) ρ (aStar A AS) :=
  fun C Q q => wa_star ((h C _ q).mono fun d C1 ⟨xs, hx, h1⟩ => ⟨xs, hx, g C1 _ h1⟩) hs
/-! ### += and -= of whole numbers -/
def pII (g : Int → Int → Int) : D → D → ME
  | .int i, .int j => fun C Q => Q (.int (g i j)) C
  | _, _ => fun _ _ => False
theorem pII_ex {g : Int → Int → Int} {d1 d2 : D} (h : pII g d1 d2 C Q) : ∃ i j, d1 = .int i ∧ d2 = .int j ∧ Q (.int (g i j)) C := by
  unfold pII at h; split at h
  · exact ⟨_, _, rfl, rfl, h⟩
  · exact h.elim
abbrev rII (g : Int → Int → Int) : V → V → Hp → VK → Prop := fun x y H Q => ∃ i j, x = .int i ∧ y = .int j ∧ Q (.int (g i j)) H
theorem sb_augN {op : Operator} {g : Int → Int → Int} {d0 : D} {kk : D → MB} {r : D → Rho} (i : Nat) (hop : InOp X op (rII g)) (hN : X.N.Nodup) (hi : X.N[i]? = some x) (hx : Loc X.env.scope x) (hd : ρ[i]? = some (some d0)) (hr : ∀ d, ρ.set i (some d) = r d) (h : SE T e ρ B) (hk : ∀ d, SB T rest (r d) (kk d) N)
    (hf : X.fn x = true ∨ X.env.scope.names.lookup x = some .local := by first | exact .inl rfl | exact .inr rfl | assumption) : SB T (.AugAssign (.Name x pos') op e pos :: rest) ρ (mSet (eBin (eVal d0) B (pII g)) kk) N := fun C q => by
  have q : B C fun d2 C1 => pII g d0 d2 C1 fun d C2 => kk d C2 := q
  refine wss_cons (PS.imp (ps_aug hN hi hx (h C _ q) hop hf) fun Dn σ H ⟨H0, at_, k⟩ => ?_)
  obtain ⟨v0, e0, r0⟩ := at_.s i d0 hd
  refine ⟨v0, e0, H0, at_, fun v2 d2 C1 H1 H01 p1 c1 r2 q1 => ?_⟩
  obtain ⟨a, b, ea, eb, q1⟩ := pII_ex q1
  subst ea; subst eb
  cases r0; cases r2
  refine ⟨a, b, rfl, rfl, (k.after p1 c1).nx _ _ C1 H1 H01 (Stp.refl _ _ _) c1 (SlotsR.set (d := .int (g a b)) i (at_.step p1 c1).s rfl at_.l) (by rw [List.length_set, List.length_set]; exact at_.l) ?_⟩
  show WSs T rest (ρ.set i (some (.int (g a b)))) C1 N
  rw [hr]
  exact hk _ C1 q1
abbrev mAugF (K : W.Frag) (A B : ME) (m : Str) (g : Int → Int → Int) (mm : MB) : MB := fun C => A C fun od C1 => ∃ (z Cl : Addr) (ns : List Str) (ds : List D) (d0 : D), od = .raw (.ref z) ∧ (z, Cell.ins Cl ns ds) ∈ C1 ∧ Cls K Cl ∧ NoAttr K Cl m ∧ (ns.zip ds).lookup m = some d0 ∧
  B C1 fun d2 C2 => pII g d0 d2 C2 fun d3 C3 => ∃ (i : Nat) (ns' : List Str) (ds' : List D), C3[i]? = some (z, .ins Cl ns' ds') ∧ ns'.length < 1000 ∧ mm (C3.set i (z, .ins Cl (putN m d3 ns' ds').1 (putN m d3 ns' ds').2))
theorem sb_augF {op : Operator} {g : Int → Int → Int} {tpos : Pos} (hop : InOp X op (rII g)) (ho : SE T o ρ A) (h : SE T e ρ B) (hk : SB T rest ρ mm N) : SB T (.AugAssign (.Attribute o m tpos) op e pos :: rest) ρ (mAugF X.K A B m g mm) N := fun C q => by
  refine wss_cons (PS.imp (ps_fldaug (ho C _ q) (pe_some T ρ e) hop) fun Dn σ H ⟨H0, at_, k⟩ => ⟨H0, at_, fun v od C1 H1 H01 p1 c1 r1 ⟨z, Cl, ns, ds, d0, e1, hm, hc, hn, hl, q⟩ => ?_⟩)
  subst e1
  obtain rfl : v = .ref z := r1
  obtain ⟨dx, vs, g1, g2, g3⟩ := c1.ok z _ hm
  obtain ⟨v0, l0, r0⟩ := lookup_zip g3 g2 hl
  refine ⟨z, Cl, dx, _, v0, rfl, g1, hc, hn, l0, C1, _, h C1 _ q, H01, at_.step p1 c1, fun v2 d2 C2 H2 H02 p2 c2 r2 q2 => ?_⟩
  obtain ⟨a, b, ea, eb, i, ns', ds', hi, hlen, q9⟩ := pII_ex q2
  subst ea; subst eb
  cases r0; cases r2
  obtain ⟨dx', vs', f1, f2, f3⟩ := c2.ok z _ (List.mem_iff_getElem?.mpr ⟨i, hi⟩)
  obtain ⟨vs2, w1, w2, w3⟩ := reps_put (f := m) (d := .int (g a b)) (v := .int (g a b)) rfl f3 f2
  obtain ⟨p3, c3⟩ := stp_write (o := .ins Cl dx' (putF m (.int (g a b)) (ns'.zip vs'))) c2 hi (c' := .ins Cl (putN m (.int (g a b)) ns' ds').1 (putN m (.int (g a b)) ns' ds').2) ⟨dx', vs2, by rw [upd_same, w1], w2, w3⟩
  have at3 := ((at_.step p1 c1).step p2 c2).step p3 c3
  refine ⟨a, b, rfl, rfl, dx', _, f1, ?_, ContS.here (((k.after p1 c1).after p2 c2).after p3 c3).nx at3 (hk _ q9)⟩
  rw [List.length_zip, ← f2]; omega
/-! ### a comprehension's list that may change -/
theorem Way.finC {H01 H1 H0 H : Hp} {C1 : Cells} {L : Addr} {acc : List D} (w : Way X H01 C1 H1 L acc H0 C H) (hL : H1 L = none) : Stp H01 C1 H1 H0 ((L, .lst acc) :: C) H ∧ CellsR X.K H0 ((L, .lst acc) :: C) H := by
  obtain ⟨vs, h1, h2⟩ := w.at_
  refine ⟨⟨w.st.base, w.st.fr, fun a h e n => ?_⟩, ⟨w.c.same, fun a d => ?_, fun a x hx => ?_, ?_⟩⟩
  · obtain ⟨q1, q2⟩ := w.st.own a h e n
    refine ⟨q1, fun ⟨x, hx⟩ => ?_⟩
    rcases List.mem_cons.mp hx with e1 | hx
    · cases e1; exact h hL
    · exact q2 ⟨x, hx⟩
  · obtain ⟨x, hx⟩ := d
    rcases List.mem_cons.mp hx with e1 | hx
    · cases e1; exact w.n0
    · exact w.c.free a ⟨x, hx⟩
  · rcases List.mem_cons.mp hx with e1 | hx
    · cases e1; exact ⟨vs, h1, h2⟩
    · exact w.c.ok a x hx
  · exact List.nodup_cons.mpr ⟨fun hm => w.nd (by obtain ⟨p, hp, e⟩ := List.mem_map.mp hm; have e : p.1 = L := e; exact ⟨p.2, by rw [← e]; exact hp⟩), w.c.nd⟩
def QC (Q : QE) : QE := fun d C => ∃ ds, d = .lst ds ∧ ∀ p, Q (.raw (.ref p)) ((p, .lst ds) :: C)
section
variable {scope : Scope} {own : List (Str × Nat)} {tg iter : Expr} {bd : Bind}
theorem read_lcC (own : List (Str × Nat)) (bd : Bind) (hv : ∀ i ∈ bd.slots, i ∈ own.map (·.2)) : ∀ σ H R, TEx T ρ C Q σ H R → tLc (TIx T ρ C fun ds P C1 => LcW T scope bd elt (own.map (·.2)) ρ P (QC Q) ds [] C1) (bd.g X.K) tYes (someB T scope elt) (own.map (·.2)) σ H R := by
  refine fun σ H R ⟨H0, at_, k⟩ => ⟨H0, at_, fun J ds P C1 H1 H01 p1 c1 y1 q1 L hL => ?_⟩
  have at1 := at_.step p1 c1
  refine ⟨fun j m H2 => m = ds.length - j ∧ j ≤ ds.length ∧ ∃ acc C2 H02, Way X H01 C1 H1 L acc H02 C2 H2 ∧ LcW T scope bd elt (own.map (·.2)) ρ P (QC Q) (ds.drop j) acc C2, ⟨_, rfl, Nat.zero_le _, [], C1, H01, way0 c1 hL, q1⟩, ?_⟩
  rintro j m H2 ⟨rfl, hj, acc, C2, H02, w2, q2⟩
  have hP : P C2 := by
    generalize ds.drop j = l at q2
    cases l with
    | nil => exact q2.1
    | cons d r => exact q2.1
  by_cases hlt : j < ds.length
  · rw [List.drop_eq_getElem_cons hlt] at q2
    obtain ⟨_, ρ', hb, qe⟩ := q2
    refine .inr ⟨y1.go j _ _ _ w2.st.base w2.c hP hlt, fun H3 => ∃ acc C3 H03, Way X H01 C1 H1 L acc H03 C3 H3 ∧ LcW T scope bd elt (own.map (·.2)) ρ P (QC Q) (ds.drop (j + 1)) acc C3, fun H3 ⟨acc, C3, H03, w3, q3⟩ => ⟨_, by omega, rfl, hlt, acc, C3, H03, w3, q3⟩, fun x H3 hy => ?_⟩
    obtain ⟨H03, p3, c3, r3⟩ := y1.yld j _ _ _ x H3 ds[j] w2.st.base w2.c hP (by simp [hlt]) hy
    have w3 := w2.step p3 c3
    have at3 := at1.step w3.st c3
    refine bind_to c3.same hb hv r3 (at3.wipe _).s (at3.wipe _).l fun σ' s' l' ew => ⟨by rw [ew, wipe_wipe], ρ', C2, _, qe, H03, ⟨at3.a, c3, s', l'⟩, fun v y C4 H4 H04 p4 c4 r4 ⟨hlen, q4⟩ => ?_⟩
    obtain ⟨vs, f1, f2, w5⟩ := (w3.step p4 c4).add hL r4
    exact ⟨vs, f1, by rw [f2]; exact Nat.lt_trans hlen (by decide), _, C4, H04, w5, q4⟩
  · have e : j = ds.length := by omega
    subst e
    rw [List.drop_length] at q2
    obtain ⟨f1, f2⟩ := w2.finC hL
    obtain ⟨_, ds0, e0, q3⟩ := q2
    cases e0
    exact .inl ⟨y1.stop _ _ _ _ w2.st.base w2.c hP (Nat.le_refl _), k _ (.raw (.ref L)) _ H2 H02 (p1.trans c1 f1) f2 rfl (q3 L)⟩
abbrev eLcC (I : MI) (f : D → ME) : ME := fun C Q => I C fun ds P C1 => lcB P f (QC Q) ds [] C1
theorem se_lcC {I : MI} {f : D → ME} (own : List (Str × Nat)) (bd : Bind) (hc : X.calm = true) (hN : X.N.Nodup) (ok : BlkOk X.N X.env.scope scope own)
    (hg : ∀ (s : Shared) (H : Hp) (Ca : Addr) (cl : List (Str × Addr)) (fp : List Addr), PG (X.blk s H scope (compEnvC scope cl Ca X.env) fp) tg (bd.g X.K)) (hv : ∀ i ∈ bd.slots, i ∈ own.map (·.2))
    (hI : SI T tg iter ρ I) (hb : BdOk bd (wipeR ρ (own.map (·.2))) T scope elt f) (hs : ∀ x, foldedSetIterable iter X.env x = pure x := by intro _; rfl) : SE T (.ListComp elt [⟨tg, iter, [], 0⟩] scope pos) ρ (eLcC I f) := fun C Q q => by
  have h : WI T tg iter ρ C fun ds P C1 => LcW T scope bd elt (own.map (·.2)) ρ P (QC Q) ds [] C1 := (hI C _ q).mono fun ds P C1 h => lc_mirror hb (fun _ _ q => q) h
  exact PE.imp (pe_lc hc hN h ok hg (fun _ _ _ _ _ => pts_nil) (pe_someB T scope elt) hs) (read_lcC own bd hv)
end
theorem sb_setLcC {iter tg : Expr} {scope : Scope} {I : MI} {f : D → ME} {kk : D → MB} {r : D → Rho} {py spos : Pos} (own : List (Str × Nat)) (bd : Bind) (j : Nat) (hc : X.calm = true) (hN : X.N.Nodup) (hy : X.N[j]? = some x) (hyl : X.env.scope.names.lookup x = some .local)
    (hsw : swapsWith (.ListComp elt [⟨tg, iter, [], 0⟩] scope pos) (some (.Name x py)) spos.line X.env = pure true) (ok : BlkOk X.N X.env.scope scope own)
    (hg : ∀ (s : Shared) (H : Hp) (Ca : Addr) (cl : List (Str × Addr)) (fp : List Addr), PG (X.blk s H scope (compEnvC scope cl Ca X.env) fp) tg (bd.g X.K)) (hv : ∀ i ∈ bd.slots, i ∈ own.map (·.2))
    (hI : SI T tg iter ρ I) (hb : BdOk bd (wipeR ρ (own.map (·.2))) T scope elt f) (hr : ∀ d, ρ.set j (some d) = r d) (hk : ∀ d, SB T rest (r d) (kk d) N) (hs : ∀ x, foldedSetIterable iter X.env x = pure x := by intro _; rfl) :
    SB T (.Assign [.Name x py] (.ListComp elt [⟨tg, iter, [], 0⟩] scope pos) spos :: rest) ρ (mSet (eLcC I f) kk) N := fun C q => by
  have h : WI T tg iter ρ C fun ds P C1 => LcW T scope bd elt (own.map (·.2)) ρ P (QC fun d C2 => WSs T rest (ρ.set j (some d)) C2 N) ds [] C1 :=
    (hI C _ q).mono fun ds P C1 h => lc_mirror hb (fun d C ⟨ds, e, z⟩ => ⟨ds, e, fun p => by show WSs T rest (ρ.set j (some _)) _ N; rw [hr]; exact hk _ _ (z p)⟩) h
  refine wss_cons (PS.imp (ps_setLc hc hN hy hyl hsw h ok hg (fun _ _ _ _ _ => pts_nil) (pe_someB T scope elt) hs) fun Dn σ H ⟨H0, at_, k⟩ => read_lcC own bd hv σ H _ ⟨H0, at_, fun v d C1 H1 H01 p c r q => ?_⟩)
  exact (k.after p c).nx _ _ C1 H1 H01 (Stp.refl _ _ _) c (SlotsR.set j (at_.step p c).s r at_.l) (by rw [List.length_set, List.length_set]; exact at_.l) q
end
end Tr

set_option maxHeartbeats 4000000
namespace Tr
open PySem L2 PySem.Spec PyProof.Rows
/-! ### or, and as values, tests by truth -/
def TrD (C : Cells) (d : D) (k : Bool) : Prop := match d with
  | .non => k = false
  | .bl b => k = b
  | .int i => k = (i != 0)
  | .str s => s.length ≤ 100000 ∧ k = ((s.length : Int) != 0)
  | d => ∃ ds, SeqD C d ds ∧ k = !ds.isEmpty
theorem reps_emp {K : W.Frag} {H : Hp} {ds : List D} {vs : List V} (r : Reps K H ds vs) : (!ds.isEmpty) = !vs.isEmpty := by
  have h := r.length
  cases ds <;> cases vs <;> simp_all
theorem trD_seq {K : W.Frag} {H0 H : Hp} {C : Cells} {d : D} {v : V} {k : Bool} (c : CellsR K H0 C H) (r : Rep K H0 d v) (h : ∃ ds, SeqD C d ds ∧ k = !ds.isEmpty) : TruV K v H k := by
  obtain ⟨ds, hs, rfl⟩ := h
  obtain ⟨a, vs, rfl, hq, rr⟩ := seqD_at c r hs
  rw [reps_emp rr]
  exact hq.elim (fun h => .inl ⟨_, h, rfl⟩) fun h => .inr (.inl ⟨_, h, rfl⟩)
theorem trD_V {K : W.Frag} {H0 H : Hp} {C : Cells} {d : D} {v : V} {k : Bool} (c : CellsR K H0 C H) (r : Rep K H0 d v) (h : TrD C d k) : TruV K v H k := by
  cases d with
  | non => cases r; exact h
  | bl b => cases r; exact h
  | int i => cases r; exact h
  | str s => cases r; exact ⟨by rw [sizeLine_eq]; exact Nat.le_trans h.1 (by decide), h.2⟩
  | lst ds => exact trD_seq c r h
  | tup ds => exact trD_seq c r h
  | dic ks ds => exact trD_seq c r h
  | ins Cl ns ds => exact trD_seq c r h
  | raw w => exact trD_seq c r h
  | tpn ds => exact trD_seq c r h
section
variable {X : Cx} {T : TX X} {ρ : Rho} {C : Cells} {e a b : Expr} {es : List Expr} {pos : Pos} {A B : ME}
theorem we_orV {Q : QE} (h : WE T a ρ C fun d C1 => ∃ k, TrD C1 d k ∧ if k = true then Q d C1 else WE T (.BoolOp .Or (b :: es) pos) ρ C1 Q) : WE T (.BoolOp .Or (a :: b :: es) pos) ρ C Q :=
  PE.imp (pe_orT h (pe_some T ρ _)) fun σ H R ⟨H0, at_, k⟩ => ⟨H0, at_, fun v d C' H' H0' p c r ⟨j, e, q⟩ => by
    refine ⟨j, trD_V c r e, ?_⟩
    cases j with
    | false => exact ⟨C', Q, q, H0', at_.step p c, k.after p c fun _ _ z => z⟩
    | true => exact k _ d C' H' H0' p c r q⟩
theorem we_andV {Q : QE} (h : WE T a ρ C fun d C1 => ∃ k, TrD C1 d k ∧ if k = true then WE T (.BoolOp .And (b :: es) pos) ρ C1 Q else Q d C1) : WE T (.BoolOp .And (a :: b :: es) pos) ρ C Q :=
  PE.imp (pe_andT h (pe_some T ρ _)) fun σ H R ⟨H0, at_, k⟩ => ⟨H0, at_, fun v d C' H' H0' p c r ⟨j, e, q⟩ => by
    refine ⟨j, trD_V c r e, ?_⟩
    cases j with
    | true => exact ⟨C', Q, q, H0', at_.step p c, k.after p c fun _ _ z => z⟩
    | false => exact k _ d C' H' H0' p c r q⟩
theorem wt_tr {Q : QT} (h : WE T e ρ C fun d C1 => ∃ k, TrD C1 d k ∧ Q k C1) (he : ∀ whole, isTrue e X.env whole = (do let v ← whole; standAt e.pos; holding [v] (truthy v)) := by intro _; rfl) : WT T e ρ C Q :=
  PT.imp (pt_truth h he) fun σ H R ⟨H0, at_, k⟩ => ⟨H0, at_, fun v d C' H' H0' p c r ⟨j, e, q⟩ => ⟨j, trD_V c r e, k j C' H' H0' p c q⟩⟩
abbrev eOrV (A B : ME) : ME := fun C Q => A C fun d C1 => ∃ k, TrD C1 d k ∧ if k = true then Q d C1 else B C1 Q
abbrev eAndV (A B : ME) : ME := fun C Q => A C fun d C1 => ∃ k, TrD C1 d k ∧ if k = true then B C1 Q else Q d C1
abbrev tTr (A : ME) : MT := fun C Q => A C fun d C1 => ∃ k, TrD C1 d k ∧ Q k C1
theorem se_orV (h : SE T a ρ A) (g : SE T (.BoolOp .Or (b :: es) pos) ρ B) : SE T (.BoolOp .Or (a :: b :: es) pos) ρ (eOrV A B) :=
  fun C Q q => we_orV ((h C _ q).mono fun d C1 ⟨k, e, h1⟩ => ⟨k, e, by
    cases k with
    | true => exact h1
    | false => exact g C1 Q h1⟩)
theorem se_andV (h : SE T a ρ A) (g : SE T (.BoolOp .And (b :: es) pos) ρ B) : SE T (.BoolOp .And (a :: b :: es) pos) ρ (eAndV A B) :=
  fun C Q q => we_andV ((h C _ q).mono fun d C1 ⟨k, e, h1⟩ => ⟨k, e, by
    cases k with
    | true => exact g C1 Q h1
    | false => exact h1⟩)
theorem st_tr (h : SE T e ρ A) (he : ∀ whole, isTrue e X.env whole = (do let v ← whole; standAt e.pos; holding [v] (truthy v)) := by intro _; rfl) : ST T e ρ (tTr A) :=
  fun C Q q => wt_tr ((h C _ q).mono fun d C1 h1 => h1) he
end
end Tr
namespace Tr
open PySem L2 PySem.Spec PyProof.Rows
/-! ### tuples without a dict: tuple(xs), t.index(x) -/
theorem tupN_made {X : Cx} : CallR X (.type "tuple") (fun vs H Q => ∃ a xs, vs = [.ref a] ∧ SqL X.K H a xs ∧ ∀ z o, H z = none → o.dict = none → Q (.ref z) (upd H z (.frz o (.tup xs)))) := by
  rintro pins s σ H vs us Q I r ⟨a, xs, rfl, hq, q⟩
  obtain ⟨u, rfl, ru⟩ := vals1 r
  cases ru
  obtain ⟨its, rv, pl, hz⟩ := I.list hq
  refine call_tuple_list pl.isList (fun h' kp => ?_) (by rw [List.size_toArray, ← rv.length]; exact hz)
  have J : Inv X pins σ H { s with heap := h' } := Inv.kept (t' := s.toks) I kp
  let ob : Obj := { cls := .type "tuple", data := .seq its.toArray }
  have J2 : Inv X pins σ (upd H h'.objs.size (.frz ob (.tup xs))) { s with heap := h'.push ob } := J.laid (t' := s.toks) (fun b o e => Heap.get?_push_of_some _ e) (Nat.le_refl _)
    (show ObjOk X.prog X.w _ _ _ (.frz ob (.tup xs)) from ⟨Heap.get?_push_size _ rfl, hz, its, rv, IsTup.new _ _⟩)
  exact ⟨.ref h'.objs.size, _, J2, rfl, q _ ob (J.hok.fresh (Nat.le_refl _)) rfl⟩
theorem nd_sq {K : W.Frag} {H : Hp} {a : Addr} {vs : List V} (h : NdT H a vs) : SqT K H a vs := let ⟨o, h1, _⟩ := h; .inl (.inr ⟨o, h1⟩)
theorem NdT.mono {H H' : Hp} {a : Addr} {vs : List V} (e : Same H H') (h : NdT H a vs) : NdT H' a vs := let ⟨o, h1, h2⟩ := h; ⟨o, e _ _ h1, h2⟩
/-- seen as any tuple -/
def wk : D → D
  | .tpn ds => .tup ds
  | d => d
theorem rep_wk {K : W.Frag} {H : Hp} {d : D} {v : V} (r : Rep K H d v) : Rep K H (wk d) v := by
  unfold wk
  split
  · obtain ⟨a, vs, e, h, rr⟩ := r
    exact ⟨a, vs, e, nd_sq h, rr⟩
  · exact r
/-- t.m(x) of a tuple without a dict -/
theorem pe_ndM {X : Cx} {o e : Expr} {es : List Expr} {apos cpos : Pos} {m : Str} {id : String} {r : V → List V → Hp → VK → Prop} {to : TE} {t : TA} (sl : Slot "tuple" m id) (hty : typeOf (.builtin id) = pure (.type "method_descriptor")) (hm : MtR X id r) (ho : PE X o to) (ha : PA X (e :: es) t)
    (hbase : attributeBase o m X.env (eval o X.env) = eval o X.env) (hline : (apos.endLine == cpos.line) = true) (hs : starEach (e :: es) X.env = (false, eval e X.env) :: starEach es X.env)
    (hfew : ((backTo cpos (starEach (e :: es) X.env)).all (fun x => !x.1) && (backToKw cpos (keywordEach [] X.env)).all (fun x => x.1.isSome) && decide ((e :: es).length + ([] : List Keyword).length + (if ([] : List Keyword).isEmpty then 0 else 1) < 30)) = true)
    (hplain : (backTo cpos (starEach es X.env)).any (·.1) = false) : PE X (.Call (.Attribute o m apos) (e :: es) [] cpos) (fun σ H Q => to σ H fun x H1 => (∃ a vs, x = .ref a ∧ NdT H1 a vs) ∧ t σ H1 fun xs H2 => r x xs H2 Q) := by
  refine ⟨fun pins s σ H Q I h => wpAny_Call_method_late hbase hfew hline rfl (thn (ho.run pins s σ H _ I h) ?_)⟩
  rintro v s1 ⟨x, H1, J, r1, ⟨a, vs, rfl, ob, hk, hd⟩, q1⟩
  cases r1
  obtain ⟨g, _, its, _, o2, g2, hc, _⟩ := J.hok a _ hk
  rw [g] at g2
  cases g2
  refine ⟨"tuple", id, F.plainAttrs_tuple, sl, hty, ⟨ob, g, hc⟩, fun b eb => (by cases eb; exact ⟨ob, g, hd⟩), ?_⟩
  have hA := ha.run cpos pins s1 σ H1 _ J q1
  rw [hs] at hA
  rw [hs]
  refine Calls.callWith_builtin (show (false || (backTo cpos (starEach es X.env)).any (·.1)) = false by rw [hplain]; rfl) (Calls.evalArgs_plain (thn hA ?_))
  exact fun us s2 ⟨ws, H2, J2, r2, q2⟩ => hm pins s2 σ H2 (.ref a) ws _ us Q J2 rfl r2 q2
section
variable {X : Cx} {T : TX X} {ρ : Rho} {C : Cells} {o a e : Expr} {apos cpos pos : Pos} {A B : ME}
theorem cw_tupleN {d : D} {ds : List D} {Q : QE} (h : LstD C d ds) (q : Q (.tpn ds) C) : CW T (.type "tuple") [d] C Q :=
  CallR.imp tupN_made fun xs H R ⟨H0, c, r, k⟩ => by
    obtain ⟨v, e1, r1⟩ := r.one
    subst e1
    obtain ⟨a, vs, e2, h2, h3⟩ := lst_at c r1 h
    subst e2
    refine ⟨a, vs, rfl, h2, fun z o hl hd => ?_⟩
    obtain ⟨p2, c2⟩ := stp_new (o := .frz o (.tup vs)) c hl
    exact k _ (.tpn ds) C _ _ p2 c2 ⟨z, vs, rfl, ⟨o, upd_same, hd⟩, h3.mono p2.base⟩ q
/-- tuple(x); of a list one without a dict, if wanted -/
def pTupleN (d : D) : ME := fun C Q => (∃ ds, LstD C d ds ∧ Q (.tpn ds) C) ∨ (∃ ds, d = .tpn ds ∧ Q (.tpn ds) C) ∨ pTuple1 d C Q
theorem cw_tupleS {ds : List D} {Q : QE} (q : Q (.tpn ds) C) : CW T (.type "tuple") [.tpn ds] C Q :=
  CallR.imp call_tuple_of fun xs H R ⟨H0, c, r, k⟩ => by
    obtain ⟨v, e1, r1⟩ := r.one
    subst e1
    obtain ⟨a, vs, rfl, h2, h3⟩ := r1
    exact ⟨a, vs, rfl, .inr ⟨nd_sq (h2.mono c.same), k.here (d := .tpn ds) c ⟨a, vs, rfl, h2, h3⟩ q⟩⟩
theorem on_tupleN (ds : List D) (C : Cells) (Q : QE) (h : on1 pTupleN ds C Q) : CW T (.type "tuple") ds C Q := by
  match ds, h with
  | [d], .inl ⟨xs, h1, h2⟩ => exact cw_tupleN h1 h2
  | [d], .inr (.inl ⟨xs, h1, h2⟩) => subst h1; exact cw_tupleS h2
  | [d], .inr (.inr h) => exact pTuple_ok [d] C Q h
def pIndexT (od d : D) : ME := fun C Q => ∃ (ys : List Str) (z : Str) (j : Nat), od = .tpn (ys.map D.str) ∧ d = .str z ∧ ys[j]? = some z ∧ (∀ m, m < j → ys[m]? ≠ some z) ∧ Q (.int (j : Nat)) C
abbrev eT1 (A B : ME) (O : D → D → ME) : ME := fun C Q => A C fun od C1 => (∃ ds, od = .tpn ds) ∧ B C1 fun d C2 => O od d C2 Q
theorem se_indexT (ho : SE T o ρ A) (ha : SE T a ρ B)
    (hbase : attributeBase o "index" X.env (eval o X.env) = eval o X.env := by rfl) (hline : (apos.endLine == cpos.line) = true := by rfl) (hs : starEach [a] X.env = (false, eval a X.env) :: starEach [] X.env := by rfl)
    (hfew : ((backTo cpos (starEach [a] X.env)).all (fun x => !x.1) && (backToKw cpos (keywordEach [] X.env)).all (fun x => x.1.isSome)
      && decide (([a] : List Expr).length + ([] : List Keyword).length + (if ([] : List Keyword).isEmpty then 0 else 1) < 30)) = true := by rfl) (hplain : (backTo cpos (starEach [] X.env)).any (·.1) = false := by rfl) :
    SE T (.Call (.Attribute o "index" apos) [a] [] cpos) ρ (eT1 A B pIndexT) := fun C Q q => by
  have h : Tr.WE T o ρ C fun od C1 => (∃ ds, od = .tpn ds) ∧ Tr.WE T a ρ C1 fun d C2 => pIndexT od d C2 Q := (ho C _ q).mono fun od C1 ⟨h1, h2⟩ => ⟨h1, ha C1 _ h2⟩
  refine PE.imp (pe_ndM F.slot_tuple_index F.type_tuple_index mt_tup_index h (pa_cons (pe_some T ρ a) pa_nil hs) hbase hline hs hfew hplain) fun σ H R ⟨H0, at_, k⟩ => ⟨H0, at_, fun v od C1 H1 H01 p1 c1 r1 ⟨⟨ds, e1⟩, hw⟩ => ?_⟩
  subst e1
  obtain ⟨z, vs, rfl, hq, hr⟩ := r1
  refine ⟨⟨z, vs, rfl, hq.mono c1.same⟩, C1, _, hw, H01, at_.step p1 c1, fun v2 d C2 H2 H02 p2 c2 r2 ⟨ys, s, j, e2, e3, h1, h2, q⟩ => ?_⟩
  cases e2
  subst e3
  cases r2
  obtain rfl := Reps.of_strs hr
  exact ⟨z, ys, s, j, rfl, rfl, nd_sq ((hq.mono p2.base).mono c2.same), h1, h2, k _ (.int (j : Nat)) _ _ _ (p1.trans c1 p2) c2 rfl q⟩
/-- a value seen as any tuple -/
abbrev eWk (A : ME) : ME := fun C Q => A C fun d C1 => Q (wk d) C1
theorem se_wk (h : SE T e ρ A) : SE T e ρ (eWk A) := fun C Q q => PE.imp (h C _ q) fun σ H R ⟨H0, a, k⟩ => ⟨H0, a, fun v d C' H' H0' p c r q => k v (wk d) C' H' H0' p c (rep_wk r) q⟩
def pFldW (K : W.Frag) (m : Str) (d : D) : ME := fun C Q => pFld K m d C fun e C1 => Q (wk e) C1
theorem se_fldW {m : Str} (h : SE T e ρ A) (hb : attributeBase e m X.env (eval e X.env) = eval e X.env := by rfl) : SE T (.Attribute e m pos) ρ (eApp A (pFldW X.K m)) := fun C Q q => se_wk (se_fld h hb) C Q q
theorem s_fldW {K : W.Frag} {d e' : D} {Cl : Addr} {ns : List Str} {ds : List D} {m : Str} {Q : QE} (h1 : InsD C d Cl ns ds) (h2 : Cls K Cl) (h3 : NoAttr K Cl m) (h4 : (ns.zip ds).lookup m = some e') (h : Q (wk e') C) : pFldW K m d C Q := ⟨_, _, _, _, h1, h2, h3, h4, h⟩
/-- s.split(t) as a list that may change -/
def pSplitC (s : Str) (y : D) : ME := onStr y fun t C Q => (t.length == 0) = false ∧ s.length ≤ 100000 ∧ ∀ p, Q (.raw (.ref p)) ((p, .lst ((Txt.split s t).map D.str)) :: C)
theorem se_splitC (ho : SE T o ρ A) (he : SE T e ρ B) (hs : starEach [e] X.env = [(false, eval e X.env)] := by rfl) (hbase : attributeBase o "split" X.env (eval o X.env) = eval o X.env := by rfl) (hline : (apos.endLine == pos.line) = true := by rfl) : SE T (.Call (.Attribute o "split" apos) [e] [] pos) ρ (eStr1 A B pSplitC) :=
  fun C Q q => we_m1 (fun ho he => pe_split ho he hs hbase hline) ((ho C _ q).mono fun d C1 h1 => by
    obtain ⟨s, e1, h1⟩ := onStr_ex h1
    exact ⟨s, e1, (he C1 _ h1).mono fun y C2 h2 v H H0 R c r k => by
      obtain ⟨t, e2, ht, hl, h3⟩ := onStr_ex h2
      subst e2; cases r
      refine ⟨s, t, rfl, rfl, ht, Nat.le_trans (show s.length + 2 ≤ 100002 by omega) (by decide), fun p hp => ?_⟩
      obtain ⟨p2, c2⟩ := stp_cell (o := .lst ((Txt.split s t).map V.str)) (c := .lst ((Txt.split s t).map D.str)) c hp ⟨_, upd_same, Reps.strs _⟩
      exact k _ (.raw (.ref p)) _ _ _ p2 c2 rfl (h3 p)⟩)
theorem s_splitC {s t : Str} {Q : QE} (h : (t.length == 0) = false ∧ s.length ≤ 100000 ∧ ∀ p, Q (.raw (.ref p)) ((p, .lst ((Txt.split s t).map D.str)) :: C)) : pSplitC s (.str t) C Q := h
theorem s_tupleN {d : D} {ds : List D} {Q : QE} (h : LstD C d ds) (q : Q (.tpn ds) C) : on1 pTupleN [d] C Q := .inl ⟨ds, h, q⟩
theorem s_tupleS {ds : List D} {Q : QE} (q : Q (.tpn ds) C) : on1 pTupleN [.tpn ds] C Q := .inr (.inl ⟨ds, rfl, q⟩)
theorem s_tupleN' {d : D} {Q : QE} (h : on1 pTuple1 [d] C Q) : on1 pTupleN [d] C Q := .inr (.inr h)
theorem s_indexT {ys : List Str} {z : Str} {j : Nat} {Q : QE} (h1 : ys[j]? = some z) (h2 : ∀ m, m < j → ys[m]? ≠ some z) (q : Q (.int (j : Nat)) C) : pIndexT (.tpn (ys.map D.str)) (.str z) C Q := ⟨ys, z, j, rfl, rfl, h1, h2, q⟩
end
end Tr

set_option maxHeartbeats 4000000
namespace TupNe
open PySem PySem.SeqAt GQ
open AutoSeq1 (wpAny_loadPart')
open MeetsSeq MeetsSeq2 MeetsSeq3 SeqRoads2
section
variable {prog : Program} {w : World} {A : Around} {R : Result → Shared → Prop}
/-- != of two tuples whose things are all equal -/
theorem ne_walk (a b : Addr) (xs ys : Array Value) (m m2 : Nat) (da db : Option Addr) (sa sb : Array (Option Value)) (hz : xs.size = ys.size) (J : Nat → Shared → Prop)
    (step : ∀ i (p1 : i < xs.size) (p2 : i < ys.size) s, J i s → wpAny (model prog w) A.in1 (eqBool xs[i] ys[i]) (fun r s' => r = true ∧ J (i + 1) s') (fun e s' => R (.error e) s') s)
    (done : ∀ s, J xs.size s → R (.ok (.ret (.bool false))) s) {s : Shared} (ga : s.heap.get? a = some { cls := .type "tuple", dict := da, data := .seq xs m, slots := sa }) (gb : s.heap.get? b = some { cls := .type "tuple", dict := db, data := .seq ys m2, slots := sb }) (j0 : J 0 s) :
    wpAny (model prog w) A.in1 (Builtin.«tuple.__ne__» ⟨[.ref a, .ref b], []⟩) (FinOf prog w A R) (fun e s' => R (.error e) s') s := by
  have t2 := AutoSeq1.sub_tuple_tuple
  have zl : (xs.toList.zip ys.toList).length = xs.size := by simp [hz]
  have j1 := j0
  obtain ⟨hp, g, d, tk, os⟩ := s
  wp_walk using wpAny_loadPart' ga, wpAny_loadPart' gb, wpAny_forIn_list _ (fun rest u s' => u.1 = none ∧ ∃ i, rest = (xs.toList.zip ys.toList).drop i ∧ i ≤ xs.size ∧ J i s') _
  case turn =>
    rintro ⟨y, x⟩ rest u s' ⟨hu, i, ez, hi, hJ⟩
    have lt : i < (xs.toList.zip ys.toList).length := Nat.lt_of_not_le fun h' => by rw [List.drop_of_length_le h'] at ez; cases ez
    have p1 : i < xs.size := zl ▸ lt
    have p2 : i < ys.size := hz ▸ p1
    rw [List.drop_eq_getElem_cons lt] at ez
    injection ez with e1 e2
    obtain rfl : y = xs[i] := by have := congrArg Prod.fst e1; simpa using this
    obtain rfl : x = ys[i] := by have := congrArg Prod.snd e1; simpa using this
    refine wpAny_bind (wpAny_mono (step i p1 p2 s' hJ) (fun r s2 ⟨hr, hJ2⟩ => ?_) fun _ _ x => x)
    subst hr
    wp_walk
    exact ⟨rfl, i + 1, e2, p1, hJ2⟩
  case fin =>
    rintro ⟨u1, u2⟩ s' ⟨hu, i, ez, hi, hJ⟩
    simp only at hu
    subst hu
    have ge : xs.size ≤ i := Nat.le_of_not_lt fun h' => by rw [List.drop_eq_getElem_cons (zl.symm ▸ h')] at ez; cases ez
    obtain rfl : i = xs.size := Nat.le_antisymm hi ge
    have hR := done s' hJ
    wp_walk
    simpa [Builtin.Tuple.tupleCompareSizes, hz] using hR
  case h =>
    exact ⟨rfl, 0, rfl, Nat.zero_le _, j1⟩
end
section
variable {prog : Program} {w : World} {A : Around} {E : Value → Shared → Prop} {s : Shared}
theorem rc_ne {a b : Addr} {xs ys : Array Value} {Q : Value → Shared → Prop} (hz : xs.size = ys.size) (hu : A.units < cLine) (J : Nat → Shared → Prop) (ta : s.heap.IsTuple a xs) (tb : s.heap.IsTuple b ys)
    (step : ∀ i (p1 : i < xs.size) (p2 : i < ys.size) s, J i s → wpAny (model prog w) A.in1 (eqBool xs[i] ys[i]) (fun r s' => r = true ∧ J (i + 1) s') E s)
    (done : ∀ s, J xs.size s → Q (.bool false) s) (j0 : J 0 s) : wpAny (model prog w) A (richCompare .NotEq (.ref a) (.ref b)) Q E s := by
  obtain ⟨⟨c1, d1, q1, s1⟩, g1, k1, n1, z1⟩ := id ta
  obtain ⟨⟨c2, d2, q2, s2⟩, g2, k2, n2, z2⟩ := id tb
  simp only at k1 z1 k2 z2
  subst k1 z1 k2 z2
  refine wpAny_richCompare_same_room (op := .NotEq) ⟨_, g1, rfl⟩ ⟨_, g2, rfl⟩ F.slot_tuple_ne (call_here F.slot_tuple_ne ⟨_, g1, rfl⟩ F.entry_tuple_ne (F.args_tuple_ne_2 _ _) ?_) hu
  exact ne_walk (R := wants (fun v s' => v ≠ .notImplemented ∧ Q v s') E) a b xs ys n1 n2 d1 d2 s1 s2 hz J step (fun s' q => ⟨(fun x => nomatch x), done s' q⟩) g1 g2 j0
/-- a thing is equal to itself -/
theorem eq_self {a : Addr} {Q : Bool → Shared → Prop} (h : Q true s) : wpAny (model prog w) A (eqBool (.ref a) (.ref a)) Q E s := by
  unfold eqBool
  refine wpAny_holding ?_
  refine wpAny_ite_split (fun _ => ?_) (fun hn => absurd (show (Value.ref a == Value.ref a) = true by simp) hn)
  wp_walk
  exact h
end
end TupNe
namespace Tr
open PySem L2 PySem.Spec PyProof.Rows
section
variable {X : Cx} {T : TX X} {C : Cells} {Q : QE} {k : Nat} {f Cl : Addr} {fd : FuncData} {ps : List Str} {F : FS}
/-- != of tuples of instances that are equal by their own == -/
theorem ow_neTup (hs : W.findIn X.K (.ref Cl) "__eq__" = some (some (.ref f))) (hf : W.isFn X.K (.ref f) = true) (Fk : FnG X.prog X.w X.K X.mg X.base k f fd ps F) (hr : RoomG (k + 1) X.A) (hb : Binds X.K fd ps []) {xs ys : List D} (hl : xs.length = ys.length)
    (each : ∀ (i : Nat) (a b : D), xs[i]? = some a → ys[i]? = some b → (∃ ns ds, InsD C a Cl ns ds) ∧ (∃ ns ds, InsD C b Cl ns ds) ∧ AsksN F [a, b] C fun d C' => d = .bl true ∧ C' = C) (q : Q (.bl false) C) : OW T (compareOp .NotEq) (.tup xs) (.tup ys) C Q := by
  intro pins s σ H x y v u R I rx ry ⟨H0, c, r1, r2, kk⟩
  obtain ⟨a, vs, rfl, h2, h3⟩ := tup_at c r1
  obtain ⟨b, ws, rfl, g2, g3⟩ := tup_at c r2
  cases rx
  cases ry
  obtain ⟨its, rv, ta, _⟩ := I.tuple h2
  obtain ⟨jts, rw', tb, _⟩ := I.tuple g2
  have l1 := h3.length
  have l2 := g3.length
  have l3 := rv.length
  have l4 := rw'.length
  show wpAny _ _ (richCompare .NotEq _ _) _ _ _
  refine TupNe.rc_ne (xs := its.toArray) (ys := jts.toArray) (by rw [List.size_toArray, List.size_toArray]; omega) hr.rm.units0 (fun _ s' => ∃ H' H0', Inv X pins σ H' s' ∧ Stp H0 C H H0' C H' ∧ CellsR X.K H0' C H') ta tb ?_ ?_ ⟨H, H0, I, Stp.refl _ _ _, c⟩
  · rintro i p1 p2 s' ⟨H', H0', I', p', c'⟩
    rw [List.size_toArray] at p1 p2
    obtain ⟨d, hd, rd⟩ := h3.getV (i := i) (v := vs[i]'(by omega)) (List.getElem?_eq_getElem _)
    obtain ⟨e, he, re⟩ := g3.getV (i := i) (v := ws[i]'(by omega)) (List.getElem?_eq_getElem _)
    obtain ⟨z1, hz1, rz1⟩ := rv.get (i := i) (x := vs[i]'(by omega)) (List.getElem?_eq_getElem _)
    obtain ⟨z2, hz2, rz2⟩ := rw'.get (i := i) (x := ws[i]'(by omega)) (List.getElem?_eq_getElem _)
    obtain ⟨⟨n1, f1, i1⟩, ⟨n2, f2, i2⟩, ask⟩ := each i d e hd he
    obtain ⟨ad, ox, od, e1, e2, J⟩ := ins_inst I' rz1 c' (rd.mono p'.base) i1
    obtain ⟨bd, ox2, od2, e3, e4, J2⟩ := ins_inst I' rz2 c' (re.mono p'.base) i2
    have w1 : its.toArray[i]'(by rw [List.size_toArray]; exact p1) = .ref ad := by rw [← e2]; simpa using (List.getElem?_eq_some_iff.mp hz1).2
    have w2 : jts.toArray[i]'(by rw [List.size_toArray]; exact p2) = .ref bd := by rw [← e4]; simpa using (List.getElem?_eq_some_iff.mp hz2).2
    rw [w1, w2]
    by_cases hne : ad = bd
    · subst hne
      exact TupNe.eq_self ⟨rfl, H', H0', I', p', c'⟩
    · obtain ⟨m, hF⟩ := I'.fr
      refine GQ.eqBool_refG hne (W.cmp_K (op := .Eq) (tb := .ref Cl) (in1_G hr).rm.units0 hF I'.ok.mod.kin J J2.type (by simp [W.notFirst]) hs hf ?_)
      have r1' : Rep X.K H0' d (.ref ad) := e1 ▸ rd.mono p'.base
      have r2' : Rep X.K H0' e (.ref bd) := e3 ▸ re.mono p'.base
      refine wpAny_mono (run_N (us := [.ref ad, .ref bd]) (vs := [.ref ad, .ref bd]) (R := fun v H2 => v = .bl true ∧ ∃ H0'', Stp H0 C H H0'' C H2 ∧ CellsR X.K H0'' C H2) Fk (in1_G hr) hb I' I'.env0.in1 (.cons rfl (.cons rfl .nil)) c' (Reps.cons r1' (Reps.cons r2' Reps.nil)) ask
        (fun v d C' H2 H02 p2 c2 r ⟨ed, ec⟩ => by subst ed; subst ec; cases r; exact ⟨rfl, H02, p'.trans c' p2, c2⟩)) (fun w s'' z => ?_) fun _ _ x => x
      obtain ⟨z', H2, I2, rz, ez, H02, p2, c2⟩ := z
      subst ez
      cases (show w = Value.bool true from rz)
      exact ⟨true, rfl, rfl, H2, H02, I2, p2, c2⟩
  · rintro s' ⟨H', H0', I', p', c'⟩
    exact ⟨.bl false, H', I', rfl, kk _ (.bl false) C H' H0' p' c' rfl q⟩
def ownTup (Cl : Addr) (F : FS) (x y : D) : ME := fun C Q => ∃ xs ys, x = .tup xs ∧ y = .tup ys ∧ xs.length = ys.length ∧ (∀ (i : Nat) (a b : D), xs[i]? = some a → ys[i]? = some b → (∃ ns ds, InsD C a Cl ns ds) ∧ (∃ ns ds, InsD C b Cl ns ds) ∧ callN F [a, b] C fun d C' => d = .bl true ∧ C' = C) ∧ Q (.bl false) C
theorem ownTup_ok {K : W.Frag} (hs : W.findIn K (.ref Cl) "__eq__" = some (some (.ref f))) (hf : W.isFn K (.ref f) = true) (Fk : FnG X.prog X.w K X.mg X.base k f fd ps F) (hr : RoomG (k + 1) X.A) (hb : Binds K fd ps []) (hK : X.K = K := by rfl)
    (x y : D) (C : Cells) (Q : QE) (h : ownTup Cl F x y C Q) : OW T (compareOp .NotEq) x y C Q := by
  subst hK
  obtain ⟨xs, ys, rfl, rfl, hl, each, q⟩ := h
  exact ow_neTup hs hf Fk.up hr hb hl (fun i a b h1 h2 => let ⟨g1, g2, g3⟩ := each i a b h1 h2; ⟨g1, g2, g3.asks⟩) q
end
end Tr

set_option maxHeartbeats 4000000
namespace Tr
open PySem L2 PySem.Spec PyProof.Rows PySem.W
/-! ### x += y of own instances without __iadd__ -/
section
variable {K : W.Frag} {C : Addr} {M : Model}
theorem noI {h : Heap} {cd : ClassData} {add : Bool} (X : K.In h) (hc : W.clsIn K C = some cd) (hm : cd.mro = [.ref C, .type "object"]) (h1 : W.findIn K (.ref C) "__iadd__" = some none) (h2 : W.findIn K (.type "object") "__iadd__" = some none) :
    W.Looks M h (fillsInplaceSlot (.ref C) "add" add) false := by
  intro A Q E s k q
  have Lm : W.Looks M h (mroOf (.ref C)) cd.mro := (W.looks_clsIn X hc).andThen (f := fun cd => pure cd.mro) .now
  have Lm' := Lm.keeps k
  obtain ⟨hh, g, d, tt, os⟩ := s
  have X' : K.In hh := X.keeps k
  have L1 : W.Looks M hh (typeLookup (.ref C) (dunderI "add")) none := W.looks_findIn X' h1
  have L2 : W.Looks M hh (typeLookup (.type "object") (dunderI "add")) none := W.looks_findIn X' h2
  unfold fillsInplaceSlot
  refine wpAny_bind (Lm'.at ?_)
  rw [hm, List.anyM_cons]
  refine wpAny_bind (wpAny_bind (L1.at ?_))
  try dsimp only
  refine wpAny_pure ?_
  try dsimp only
  rw [List.anyM_cons]
  refine wpAny_bind (wpAny_bind (L2.at ?_))
  try dsimp only
  refine wpAny_pure ?_
  exact wpAny_pure q
end
section
variable {prog : Program} {w : World} {A : Around} {E : Value → Shared → Prop} {s : Shared} {K : W.Frag} {L : Addr} {m : Str → Option Value} {x C f : Addr} {ox : Obj} {od : Option Obj} {h₀ : Heap}
theorem inpl_own {b : Value} {cd : ClassData} {Q : Value → Shared → Prop} (F : Fr h₀ L s.heap m) (X₀ : K.In h₀) (I : W.InstAt s.heap x ox C od) (hb : W.Looks (model prog w) s.heap (typeOf b) (.ref C)) (hc : W.clsIn K C = some cd) (hm : cd.mro = [.ref C, .type "object"])
    (h1 : W.findIn K (.ref C) "__iadd__" = some none) (h2 : W.findIn K (.type "object") "__iadd__" = some none) (hs : W.findIn K (.ref C) "__add__" = some (some (.ref f))) (hf : W.isFn K (.ref f) = true)
    (h : wpAny (model prog w) A (call (.ref f) [.ref x, b]) (W.CmpBack Q) E s) : wpAny (model prog w) A (inplaceOp .Add (.ref x) b) Q E s := by
  have X := X₀.keeps F.keep
  have hs' : W.findIn K (.ref C) (PySem.dunder "add") = some (some (.ref f)) := hs
  unfold inplaceOp
  refine wpAny_holding ?_
  refine wpAny_bind (I.type.here (wpAny_bind ((noI X hc hm h1 h2).here ?_)))
  rw [if_neg Bool.false_ne_true]
  refine wpAny_bind ?_
  unfold binaryOp1
  refine wpAny_bind (I.type.here (wpAny_bind (hb.here (wpAny_bind ((W.fills_K X hc hm hs').here ?_)))))
  simp only [beq_self_eq_true, if_true]
  refine wpAny_bind (wpAny_pure ?_)
  simp only [Bool.and_false, Bool.false_eq_true, if_false, Bool.false_and]
  refine wpAny_bind (wpAny_pure ?_)
  simp only [Bool.false_eq_true, if_false]
  refine wpAny_bind (m := tryMethod (.ref x) _ b) ?_
  unfold tryMethod
  refine wpAny_bind (W.special_fn X I hs' (beq_iff_eq.mp hf) (wpAny_mono h (fun v s' hv => ?_) fun _ _ e => e))
  cases v <;> first | exact hv.elim | exact wpAny_pure (wpAny_pure (wpAny_pure hv))
end
section
variable {X : Cx} {T : TX X} {C : Cells} {Q : QE} {k : Nat} {f Cl : Addr} {fd : FuncData} {ps : List Str} {F : FS} {d1 d2 : D} {ns ns2 : List Str} {ds ds2 : List D}
/-- what is known of the class -/
def NoI (K : W.Frag) (Cl : Addr) : Prop := ∃ cd, W.clsIn K Cl = some cd ∧ cd.mro = [.ref Cl, .type "object"] ∧ W.findIn K (.ref Cl) "__iadd__" = some none ∧ W.findIn K (.type "object") "__iadd__" = some none
theorem ow_inplOwn (hi : NoI X.K Cl) (hs : W.findIn X.K (.ref Cl) "__add__" = some (some (.ref f))) (hf : W.isFn X.K (.ref f) = true) (Fk : FnG X.prog X.w X.K X.mg X.base k f fd ps F) (hr : RoomG k X.A) (hb : Binds X.K fd ps []) (h1 : InsD C d1 Cl ns ds) (h2 : InsD C d2 Cl ns2 ds2)
    (h : AsksN F [d1, d2] C fun d C' => isInsD d = true ∧ Q d C') : OW T (inplaceOp .Add) d1 d2 C Q := by
  intro pins s σ H x y v u R I rx ry ⟨H0, c, r1, r2, kk⟩
  obtain ⟨cd, c1, c2, c3, c4⟩ := hi
  obtain ⟨ad, ox, od, rfl, rfl, J⟩ := ins_inst I rx c r1 h1
  obtain ⟨ad2, ox2, od2, rfl, rfl, J2⟩ := ins_inst I ry c r2 h2
  obtain ⟨m, hF⟩ := I.fr
  refine inpl_own hF I.ok.mod.kin J J2.type c1 c2 c3 c4 hs hf ?_
  refine wpAny_mono (run_N (us := [.ref ad, .ref ad2]) (vs := [.ref ad, .ref ad2]) (R := fun v H => (∃ a, v = .ref a) ∧ R v H) Fk hr hb I I.env0 (.cons rfl (.cons rfl .nil)) c (Reps.cons r1 (Reps.cons r2 Reps.nil)) h
    (fun v d C' H' H0' p c' r ⟨j, q⟩ => ⟨ins_ref j r, kk _ d C' H' H0' p c' r q⟩)) (fun w s' z => ?_) fun _ _ x => x
  obtain ⟨z', H', I', rz, ⟨a, e⟩, qz⟩ := z
  subst e
  cases (show w = Value.ref a from rz)
  exact ⟨.ref a, H', I', rfl, qz⟩
/-- x += y by the class's own + -/
theorem ownInpl_ok {K : W.Frag} (hi : NoI K Cl) (hs : W.findIn K (.ref Cl) "__add__" = some (some (.ref f))) (hf : W.isFn K (.ref f) = true) (Fk : FnG X.prog X.w K X.mg X.base k f fd ps F) (hr : RoomG k X.A) (hb : Binds K fd ps []) (hK : X.K = K := by rfl)
    (x y : D) (C : Cells) (Q : QE) (h : ownAdd Cl F x y C Q) : OW T (inplaceOp .Add) x y C Q := by
  subst hK
  obtain ⟨ns, ds, ns2, ds2, h1, h2, h3⟩ := h
  exact ow_inplOwn hi hs hf Fk.up hr hb h1 h2 h3.asks
theorem sb_augO {N : TEnds} {ρ : Rho} {e : Expr} {rest : List Stmt} {pos pos' : Pos} {x : Str} {B : ME} {op : Operator} {O : D → D → ME} {d0 : D} {kk : D → MB} {r : D → Rho} (i : Nat) (ho : ∀ x y C Q, O x y C Q → OW T (inplaceOp op) x y C Q) (hN : X.N.Nodup) (hi : X.N[i]? = some x) (hx : Loc X.env.scope x) (hd : ρ[i]? = some (some d0)) (hr : ∀ d, ρ.set i (some d) = r d) (h : SE T e ρ B) (hk : ∀ d, SB T rest (r d) (kk d) N)
    (hf : X.fn x = true ∨ X.env.scope.names.lookup x = some .local := by first | exact .inl rfl | exact .inr rfl | assumption) : SB T (.AugAssign (.Name x pos') op e pos :: rest) ρ (mSet (eBin (eVal d0) B O) kk) N := fun C q => by
  have q : B C fun d2 C1 => O d0 d2 C1 fun d C2 => kk d C2 := q
  have ino : InOp X op (someO T (inplaceOp op)) := fun pins s σ H x y u v Q I rx ry z => op_some T (inplaceOp op) pins s σ H x y u v Q I rx ry z
  refine wss_cons (PS.imp (ps_aug hN hi hx (h C _ q) ino hf) fun Dn σ H ⟨H0, at_, k⟩ => ?_)
  obtain ⟨v0, e0, r0⟩ := at_.s i d0 hd
  refine ⟨v0, e0, H0, at_, fun v2 d2 C1 H1 H01 p1 c1 r2 q1 => ?_⟩
  refine ⟨d0, d2, C1, _, ho _ _ _ _ q1, H01, c1, r0.mono p1.base, r2, fun v d C2 H2 H02 p2 c2 rv q2 => ?_⟩
  refine (k.after (p1.trans c1 p2) c2).nx _ _ C2 H2 H02 (Stp.refl _ _ _) c2 (SlotsR.set i ((at_.step p1 c1).step p2 c2).s rv at_.l) (by rw [List.length_set, List.length_set]; exact at_.l) ?_
  show WSs T rest (ρ.set i (some d)) C2 N
  rw [hr]
  exact hk _ C2 q2
end
/-! ### a, b = a list of two -/
section
variable {X : Cx} {T : TX X} {C : Cells} {ρ : Rho} {N : TEnds} {tgs : List Expr} {pos : Pos} {body : List Stmt}
def mUnL2 (d : D) (f : D → D → MB) : MB := match d with
  | .lst [x, y] => f x y
  | _ => fun _ => False
theorem mUnL2_ex {d : D} {f : D → D → MB} (h : mUnL2 d f C) : ∃ x y, d = .lst [x, y] ∧ f x y C := by
  unfold mUnL2 at h; split at h
  · exact ⟨_, _, rfl, h⟩
  · exact h.elim
theorem sg_twoL {d : D} {kk : Nat} {f : D → D → MB} {r : D → D → Rho} (hc : X.calm = true) (h : ∀ x y, GsOk T tgs [x, y] ρ (r x y)) (hb : ∀ x y, SB T body (r x y) (f x y) N) (hn : (assignEach tgs X.env).length = 2 := by rfl) (hst : (assignEach tgs X.env).findIdx? (·.1) = none := by rfl) : SG T (.Tuple tgs kk pos) d ρ body (mUnL2 d f) N :=
  fun C q => by
    obtain ⟨x, y, e, q⟩ := mUnL2_ex q
    subst e
    exact PG.imp (pg_lst hc (h x y C _ (hb x y C q)) hn hst) fun v σ H R ⟨H0, at_, ⟨a, vs, e1, q1, r1⟩, k⟩ => ⟨a, vs, e1, Same.sqL at_.c.same q1, by rw [← r1.length]; rfl, H0, at_, r1, k⟩
theorem s_unL2 {x y : D} {f : D → D → MB} (h : f x y C) : mUnL2 (.lst [x, y]) f C := h
end
end Tr

set_option maxHeartbeats 4000000
namespace Tr
open PySem L2 PySem.Spec PyProof.Rows
/-! ### steps through a mirror -/
section
variable {C : Cells} {Q : QE} {i j : Int} {x y s t : Str} {xs ys ds : List D} {d e d1 d2 : D} {K : W.Frag} {own : D → D → ME} {own1 : D → ME} {b k : Bool}
theorem s_add_int (h : Q (.int (i + j)) C) : oAdd (.int i) (.int j) C Q := h
theorem s_add_str (h : x.length + y.length ≤ 100000 ∧ Q (.str (x ++ y)) C) : oAdd (.str x) (.str y) C Q := h
theorem s_add_tup (h : xs.length + ys.length ≤ 100000 ∧ Q (.tup (xs ++ ys)) C) : oAdd (.tup xs) (.tup ys) C Q := h
theorem s_add_lst (h : xs.length + ys.length ≤ 100000 ∧ Q (.lst (xs ++ ys)) C) : oAdd (.lst xs) (.lst ys) C Q := h
theorem s_add_cell (h1 : LstD C d xs) (h2 : LstD C e ys) (h : xs.length + ys.length ≤ 100000 ∧ Q (.lst (xs ++ ys)) C) : oAdd d e C Q := by
  unfold oAdd; split
  · obtain h1 | ⟨_, h1, _⟩ := h1 <;> cases h1
  · obtain h1 | ⟨_, h1, _⟩ := h1 <;> cases h1
  · obtain h1 | ⟨_, h1, _⟩ := h1 <;> cases h1
  · obtain h1 | ⟨_, h1, _⟩ := h1 <;> cases h1
    obtain h2 | ⟨_, h2, _⟩ := h2 <;> cases h2
    exact h
  · exact ⟨xs, ys, h1, h2, h⟩
theorem s_addO {own : D → D → ME} (n : isInsD d1 = false) (h : oAdd d1 d2 C Q) : oAddO own d1 d2 C Q := by
  unfold oAddO; split
  · cases n
  · exact h
theorem s_addOI {own : D → D → ME} {c : Addr} {ns : List Str} (h : own (.ins c ns ds) d2 C Q) : oAddO own (.ins c ns ds) d2 C Q := h
theorem s_ixO {Cl : Addr} {F : FS} {Xq : QX} (n : isInsD d1 = false) (h : pIx d1 d2 C Q) : pIxO Cl F Xq d1 d2 C Q := by
  unfold pIxO; split
  · cases n
  · exact h
theorem s_min (h : Q (.int (if j < i then j else i)) C) : on2 pMin2 [.int i, .int j] C Q := h
theorem s_sub (h : Q (.int (i - j)) C) : oSub (.int i) (.int j) C Q := h
theorem s_mul (h : CMul i j ∧ Q (.int (i * j)) C) : oMul (.int i) (.int j) C Q := h
theorem s_fdiv (h : (0 < j ∧ j < 1073741824) ∧ Q (.int (i / j)) C) : oFdiv (.int i) (.int j) C Q := h
theorem s_mod (h : 0 < j ∧ Q (.int (i % j)) C) : oMod (.int i) (.int j) C Q := h
theorem s_pow (h : CPow i j ∧ Q (.int (i ^ j.toNat)) C) : oPow (.int i) (.int j) C Q := h
theorem s_lt (h : Q (.bl (decide (i < j))) C) : oLt (.int i) (.int j) C Q := h
theorem s_le (h : Q (.bl (decide (i ≤ j))) C) : oLe (.int i) (.int j) C Q := h
theorem s_gt (h : Q (.bl (decide (j < i))) C) : oGt (.int i) (.int j) C Q := h
theorem s_ge (h : Q (.bl (decide (j ≤ i))) C) : oGe (.int i) (.int j) C Q := h
theorem s_lt_str (h : Q (.bl (decide (x.cps.toList < y.cps.toList))) C) : oLt (.str x) (.str y) C Q := h
theorem s_le_str (h : Q (.bl (!decide (y.cps.toList < x.cps.toList))) C) : oLe (.str x) (.str y) C Q := h
theorem s_eq_int (h : Q (.bl (decide (i = j))) C) : oEq own (.int i) (.int j) C Q := h
theorem s_eq_str (h : Q (.bl (decide (x = y))) C) : oEq own (.str x) (.str y) C Q := h
theorem s_eq_bl (h : Q (.bl (b == k)) C) : oEq own (.bl b) (.bl k) C Q := h
theorem s_ne_int (h : Q (.bl (!decide (i = j))) C) : oNe own (.int i) (.int j) C Q := h
theorem s_ne_str (h : Q (.bl (!decide (x = y))) C) : oNe own (.str x) (.str y) C Q := h
theorem s_ne_bl (h : Q (.bl (b != k)) C) : oNe own (.bl b) (.bl k) C Q := h
def isB : D → Bool
  | .int _ | .str _ | .bl _ => true
  | _ => false
/-- == of data -/
def EqD (C : Cells) (d1 d2 : D) (b : Bool) : Prop := ∃ p1 p2, PyR C d1 p1 ∧ PyR C d2 p2 ∧ SeqAt.shaped p1 = true ∧ SeqAt.shaped p2 = true ∧ PyData.eqv p1 p2 = b
theorem eq_go (n : isB d1 = false ∨ isB d2 = false) (h : (∃ p1 p2, PyR C d1 p1 ∧ PyR C d2 p2 ∧ SeqAt.shaped p1 = true ∧ SeqAt.shaped p2 = true ∧ Q (.bl (PyData.eqv p1 p2)) C) ∨ own d1 d2 C Q) : oEq own d1 d2 C Q := by
  unfold oEq; split
  · rcases n with n | n <;> cases n
  · rcases n with n | n <;> cases n
  · rcases n with n | n <;> cases n
  · exact h
theorem ne_go (n : isB d1 = false ∨ isB d2 = false) (h : (∃ p1 p2, PyR C d1 p1 ∧ PyR C d2 p2 ∧ SeqAt.shaped p1 = true ∧ SeqAt.shaped p2 = true ∧ Q (.bl (!PyData.eqv p1 p2)) C) ∨ own d1 d2 C Q) : oNe own d1 d2 C Q := by
  unfold oNe; split
  · rcases n with n | n <;> cases n
  · rcases n with n | n <;> cases n
  · rcases n with n | n <;> cases n
  · exact h
theorem s_eqD (n : isB d1 = false ∨ isB d2 = false) (h : EqD C d1 d2 b) (q : Q (.bl b) C) : oEq own d1 d2 C Q := by
  obtain ⟨p1, p2, h1, h2, h3, h4, rfl⟩ := h
  exact eq_go n (.inl ⟨p1, p2, h1, h2, h3, h4, q⟩)
theorem s_neD (n : isB d1 = false ∨ isB d2 = false) (h : EqD C d1 d2 b) (q : Q (.bl (!b)) C) : oNe own d1 d2 C Q := by
  obtain ⟨p1, p2, h1, h2, h3, h4, rfl⟩ := h
  exact ne_go n (.inl ⟨p1, p2, h1, h2, h3, h4, q⟩)
theorem s_eqO (n : isB d1 = false ∨ isB d2 = false) (h : own d1 d2 C Q) : oEq own d1 d2 C Q := eq_go n (.inr h)
theorem s_neO (n : isB d1 = false ∨ isB d2 = false) (h : own d1 d2 C Q) : oNe own d1 d2 C Q := ne_go n (.inr h)
theorem lst_isB (h : LstD C d xs) : isB d = false := by
  obtain h | ⟨_, h, _⟩ := h <;> subst h <;> rfl
theorem eqd_lstS {xs ys : List Str} (h1 : LstD C d1 (xs.map D.str)) (h2 : LstD C d2 (ys.map D.str)) (hx : ∀ x ∈ xs, PyData.strOk x = true) (hy : ∀ x ∈ ys, PyData.strOk x = true) : EqD C d1 d2 (decide (xs = ys)) :=
  ⟨_, _, pyR_l h1 (plain_strs xs), pyR_l h2 (plain_strs ys), shaped_lstS hx, shaped_lstS hy, by rw [PyData.eqv, eqv_strs]⟩
theorem eqd_tupS {xs ys : List Str} (hx : ∀ x ∈ xs, PyData.strOk x = true) (hy : ∀ x ∈ ys, PyData.strOk x = true) : EqD C (.tup (xs.map D.str)) (.tup (ys.map D.str)) (decide (xs = ys)) :=
  ⟨_, _, pyR_tup (plain_strs xs), pyR_tup (plain_strs ys), shaped_tupS hx, shaped_tupS hy, by rw [PyData.eqv, eqv_strs]⟩
theorem eqd_lstI {xs ys : List Int} (h1 : LstD C d1 (xs.map D.int)) (h2 : LstD C d2 (ys.map D.int)) : EqD C d1 d2 (decide (xs = ys)) :=
  ⟨_, _, pyR_l h1 (plain_ints xs), pyR_l h2 (plain_ints ys), shaped_lstI xs, shaped_lstI ys, by rw [PyData.eqv, eqv_ints]⟩
theorem s_is_bl (h : Q (.bl (decide (b = k))) C) : oIs (.bl b) (.bl k) C Q := h
theorem s_isnot_bl (h : Q (.bl (!decide (b = k))) C) : oIsNot (.bl b) (.bl k) C Q := h
def notRaw : D → Bool
  | .raw _ => false
  | _ => true
theorem s_isN (n : notRaw d = true) (h : Q (.bl (isNon d)) C) : oIs d .non C Q := by
  cases d with
  | raw _ => cases n
  | _ => exact ⟨fun w e => (by cases e), h⟩
theorem s_isNotN (n : notRaw d = true) (h : Q (.bl (!isNon d)) C) : oIsNot d .non C Q := by
  cases d with
  | raw _ => cases n
  | _ => exact ⟨fun w e => (by cases e), h⟩
theorem s_isN_ref {a : Addr} (h : Q (.bl false) C) : oIs (.raw (.ref a)) .non C Q := h
theorem s_isNotN_ref {a : Addr} (h : Q (.bl true) C) : oIsNot (.raw (.ref a)) .non C Q := h
theorem s_inS {xs : List Str} (h1 : SeqD C d (xs.map D.str)) (h : Q (.bl (decide (s ∈ xs))) C) : oIn (.str s) d C Q :=
  .inl ⟨_, h1, rfl, by simp [flatD], by rw [inD_strs]; exact h⟩
theorem s_notInS {xs : List Str} (h1 : SeqD C d (xs.map D.str)) (h : Q (.bl (!decide (s ∈ xs))) C) : oNotIn (.str s) d C Q :=
  ⟨_, h1, rfl, by simp [flatD], by rw [inD_strs]; exact h⟩
theorem s_inSign {n : Nat} {z : Str} (h : Q (.bl (decide (n ∈ z.cps.toList))) C) : oIn (.str ⟨#[n]⟩) (.str z) C Q := .inr ⟨n, z, rfl, rfl, h⟩
theorem s_notInSign {n : Nat} {z : Str} (h : Q (.bl (!decide (n ∈ z.cps.toList))) C) : oNotInS (.str ⟨#[n]⟩) (.str z) C Q := ⟨n, z, rfl, rfl, h⟩
theorem s_in (h1 : SeqD C e ds) (h2 : flatD d = true) (h3 : ds.all flatD = true) (h : Q (.bl (inD d ds)) C) : oIn d e C Q := .inl ⟨_, h1, h2, h3, h⟩
theorem s_notIn (h1 : SeqD C e ds) (h2 : flatD d = true) (h3 : ds.all flatD = true) (h : Q (.bl (!inD d ds)) C) : oNotIn d e C Q := ⟨_, h1, h2, h3, h⟩
theorem s_tup (h : ds.length ≤ 100000 ∧ Q (.tup ds) C) : pTup ds C Q := h
theorem s_lst (h : ds.length ≤ 100000 ∧ Q (.lst ds) C) : pLst ds C Q := h
theorem s_lstC (h : ds.length ≤ 100000 ∧ ∀ p, Q (.raw (.ref p)) ((p, .lst ds) :: C)) : pLstC ds C Q := h
theorem s_tru {R : QT} (h : R b C) : pTru (.bl b) C R := h
theorem s_ii {g : Int → Int → Int} (h : Q (.int (g i j)) C) : pII g (.int i) (.int j) C Q := h
theorem s_neg (h : Q (.int (-i)) C) : pNeg (.int i) C Q := h
theorem s_fld {Cl : Addr} {ns : List Str} {m : Str} (h1 : InsD C d Cl ns ds) (h2 : Cls K Cl) (h3 : NoAttr K Cl m) (h4 : (ns.zip ds).lookup m = some e) (h : Q e C) : pFld K m d C Q := ⟨_, _, _, _, h1, h2, h3, h4, h⟩
theorem s_ix_tup (h1 : atI ds i = some d) (h : Q d C) : pIx (.tup ds) (.int i) C Q := ⟨d, h1, h⟩
theorem s_ix_lst (h1 : atI ds i = some d) (h : Q d C) : pIx (.lst ds) (.int i) C Q := ⟨d, h1, h⟩
theorem s_ix_cell {a : Addr} (h0 : LstD C (.raw (.ref a)) ds) (h1 : atI ds i = some d) (h : Q d C) : pIx (.raw (.ref a)) (.int i) C Q := ⟨ds, d, h0, h1, h⟩
theorem s_ix_str {c : Nat} (h0 : s.length ≤ 100000) (h1 : atI s.cps.toList i = some c) (h : Q (.str ⟨#[c]⟩) C) : pIx (.str s) (.int i) C Q := ⟨h0, c, h1, h⟩
theorem s_oi {R : Option Int → Cells → Prop} (h : R (some i) C) : pOI (.int i) C R := h
theorem s_sl_tup {l u : Option Int} (h : Q (.tup (cutD ds l u)) C) : pSl (.tup ds) l u C Q := h
theorem s_sl_lst {l u : Option Int} (h : Q (.lst (cutD ds l u)) C) : pSl (.lst ds) l u C Q := h
theorem s_sl_str {l u : Option Int} (h : s.length ≤ 100000 ∧ Q (.str (cutS s l u)) C) : pSl (.str s) l u C Q := h
theorem s_sl_cell {a : Addr} {l u : Option Int} (h0 : LstD C (.raw (.ref a)) ds) (h : Q (.lst (cutD ds l u)) C) : pSl (.raw (.ref a)) l u C Q := ⟨ds, h0, h⟩
theorem s_rev (h0 : LstD C d ds) (h : Q (.lst ds.reverse) C) : pRev d C Q := ⟨ds, h0, h⟩
theorem s_revC (h0 : LstD C d ds) (h : ∀ p, Q (.raw (.ref p)) ((p, .lst ds.reverse) :: C)) : pRevC d C Q := ⟨ds, h0, h⟩
variable {R : QI}
theorem s_it_lst (h : R ds (fun _ => True) C) : pIter (.lst ds) C R := h
theorem s_it_tup (h : R ds (fun _ => True) C) : pIter (.tup ds) C R := h
theorem s_it_cell {a : Addr} (h0 : SeqD C (.raw (.ref a)) ds) (h : R ds (fun C' => SeqD C' (.raw (.ref a)) ds) C) : pIter (.raw (.ref a)) C R := ⟨ds, h0, h⟩
theorem s_itS (h : R (signsD s) (fun _ => True) C) : pIterS (.str s) C R := h
theorem s_rg1 (h : (-(2 ^ 62) ≤ i ∧ i < 2 ^ 62) ∧ R (rangeD 0 i.toNat) (fun _ => True) C) : pRange1 (.int i) C R := h
theorem s_rg2 (h : (-(2 ^ 62) ≤ i ∧ i < 2 ^ 62 ∧ -(2 ^ 62) ≤ j ∧ j < 2 ^ 62) ∧ R (rangeD i (j - i).toNat) (fun _ => True) C) : pRange2 (.int i) (.int j) C R := h
theorem s_en_lst (h : R (enumD 0 ds) (fun _ => True) C) : pEnum (.lst ds) C R := h
theorem s_en_tup (h : R (enumD 0 ds) (fun _ => True) C) : pEnum (.tup ds) C R := h
theorem s_en_cell {a : Addr} (h0 : SeqD C (.raw (.ref a)) ds) (h : R (enumD 0 ds) (fun C' => SeqD C' (.raw (.ref a)) ds) C) : pEnum (.raw (.ref a)) C R := ⟨ds, h0, h⟩
theorem s_un2 {β : Sort _} {q : β} {f : D → D → Cells → β → Prop} (h : f d e C q) : un2 (.tup [d, e]) f C q := h
theorem s_un3 {β : Sort _} {q : β} {f : D → D → D → Cells → β → Prop} (h : f d e d1 C q) : un3 (.tup [d, e, d1]) f C q := h
theorem s_mun2 {f : D → D → MB} (h : f d e C) : mUn2 (.tup [d, e]) f C := h
theorem s_mun3 {f : D → D → D → MB} (h : f d e d1 C) : mUn3 (.tup [d, e, d1]) f C := h
theorem s_mun4 {f : D → D → D → D → MB} (h : f d e d1 d2 C) : mUn4 (.tup [d, e, d1, d2]) f C := h
theorem s_len_lst (h : Q (.int ds.length) C) : on1 (pLen1 own1) [.lst ds] C Q := h
theorem s_len_tup (h : Q (.int ds.length) C) : on1 (pLen1 own1) [.tup ds] C Q := h
theorem s_len_str (h : s.length ≤ 100000 ∧ Q (.int s.length) C) : on1 (pLen1 own1) [.str s] C Q := h
theorem s_len_cell {a : Addr} (h0 : LstD C (.raw (.ref a)) ds) (h : Q (.int ds.length) C) : on1 (pLen1 own1) [.raw (.ref a)] C Q := .inl ⟨ds, h0, h⟩
theorem s_len_own {Cl : Addr} {ns : List Str} (h : own1 (.ins Cl ns ds) C Q) : on1 (pLen1 own1) [.ins Cl ns ds] C Q := .inr h
theorem s_len_ownC {a : Addr} (h : own1 (.raw (.ref a)) C Q) : on1 (pLen1 own1) [.raw (.ref a)] C Q := .inr h
theorem s_str_str (h : Q (.str s) C) : on1 (pStr1 own1) [.str s] C Q := h
theorem s_str_int (h : i.natAbs.log2 < 1920 ∧ Q (.str (toString i)) C) : on1 (pStr1 own1) [.int i] C Q := h
theorem s_str_own {Cl : Addr} {ns : List Str} (h : own1 (.ins Cl ns ds) C Q) : on1 (pStr1 own1) [.ins Cl ns ds] C Q := h
theorem s_str_ownC {a : Addr} (h : own1 (.raw (.ref a)) C Q) : on1 (pStr1 own1) [.raw (.ref a)] C Q := h
theorem s_int_int (h : Q (.int i) C) : on1 pInt1 [.int i] C Q := h
theorem s_int_bl (h : Q (.int (if b then 1 else 0)) C) : on1 pInt1 [.bl b] C Q := h
theorem s_int_str (h : s.length ≤ 640 ∧ ∃ n, intText? s = some n ∧ Q (.int n) C) : on1 pInt1 [.str s] C Q := h
theorem s_list_lst (h : Q (.lst ds) C) : on1 pList1 [.lst ds] C Q := h
theorem s_list_tup (h : Q (.lst ds) C) : on1 pList1 [.tup ds] C Q := h
theorem s_list_cell {a : Addr} (h0 : SeqD C (.raw (.ref a)) ds) (h : Q (.lst ds) C) : on1 pList1 [.raw (.ref a)] C Q := ⟨ds, h0, h⟩
theorem s_listC_lst (h : ∀ p, Q (.raw (.ref p)) ((p, .lst ds) :: C)) : on1 pListC1 [.lst ds] C Q := h
theorem s_listC_tup (h : ∀ p, Q (.raw (.ref p)) ((p, .lst ds) :: C)) : on1 pListC1 [.tup ds] C Q := h
theorem s_listC_cell {a : Addr} (h0 : SeqD C (.raw (.ref a)) ds) (h : ∀ p, Q (.raw (.ref p)) ((p, .lst ds) :: C)) : on1 pListC1 [.raw (.ref a)] C Q := ⟨ds, h0, h⟩
theorem s_tuple_lst (h : Q (.tup ds) C) : on1 pTuple1 [.lst ds] C Q := h
theorem s_tuple_tup (h : Q (.tup ds) C) : on1 pTuple1 [.tup ds] C Q := h
theorem s_tuple_seq (h0 : SeqD C d ds) (h : Q (.tup ds) C) : on1 pTuple1 [d] C Q := by
  show pTuple1 d C Q
  unfold pTuple1; split
  · obtain (h0 | ⟨_, h0, _⟩) | h0 := h0 <;> cases h0; exact h
  · obtain (h0 | ⟨_, h0, _⟩) | h0 := h0 <;> cases h0; exact h
  · exact ⟨ds, h0, h⟩
theorem s_list_seq (h0 : SeqD C d ds) (h : Q (.lst ds) C) : on1 pList1 [d] C Q := by
  show pList1 d C Q
  unfold pList1; split
  · obtain (h0 | ⟨_, h0, _⟩) | h0 := h0 <;> cases h0; exact h
  · obtain (h0 | ⟨_, h0, _⟩) | h0 := h0 <;> cases h0; exact h
  · exact ⟨ds, h0, h⟩
theorem s_it_seq (h0 : SeqD C d ds) (h : ∀ P : Cells → Prop, (∀ C', SeqD C' d ds → P C') → R ds P C) : pIter d C R := by
  unfold pIter; split
  · obtain (h0 | ⟨_, h0, _⟩) | h0 := h0 <;> cases h0; exact h _ fun _ _ => trivial
  · obtain (h0 | ⟨_, h0, _⟩) | h0 := h0 <;> cases h0; exact h _ fun _ _ => trivial
  · exact ⟨ds, h0, h _ fun _ h => h⟩
theorem s_en_seq (h0 : SeqD C d ds) (h : ∀ P : Cells → Prop, (∀ C', SeqD C' d ds → P C') → R (enumD 0 ds) P C) : pEnum d C R := by
  unfold pEnum; split
  · obtain (h0 | ⟨_, h0, _⟩) | h0 := h0 <;> cases h0; exact h _ fun _ _ => trivial
  · obtain (h0 | ⟨_, h0, _⟩) | h0 := h0 <;> cases h0; exact h _ fun _ _ => trivial
  · exact ⟨ds, h0, h _ fun _ h => h⟩
theorem s_all {bs : List Bool} (h : Q (.bl (bs.all id)) C) : on1 pAll1 [.lst (bs.map D.bl)] C Q := ⟨bs, rfl, h⟩
theorem s_any {bs : List Bool} (h : Q (.bl (bs.any id)) C) : on1 pAny1 [.lst (bs.map D.bl)] C Q := ⟨bs, rfl, h⟩
theorem s_allM {α : Type} {l : List α} {f : α → Bool} (h : Q (.bl (l.all f)) C) : on1 pAll1 [.lst (l.map fun a => D.bl (f a))] C Q :=
  ⟨l.map f, by rw [List.map_map]; rfl, by rw [List.all_map]; exact h⟩
theorem s_anyM {α : Type} {l : List α} {f : α → Bool} (h : Q (.bl (l.any f)) C) : on1 pAny1 [.lst (l.map fun a => D.bl (f a))] C Q :=
  ⟨l.map f, by rw [List.map_map]; rfl, by rw [List.any_map]; exact h⟩
theorem s_abs (h : Q (.int (if i < 0 then -i else i)) C) : on1 pAbs1 [.int i] C Q := h
theorem s_max (h : Q (.int (if j > i then j else i)) C) : on2 pMax2 [.int i, .int j] C Q := h
theorem s_isi {tv u : Value} (h1 : ClsD e u) (h2 : TyD K C d tv) (h3 : W.kitOne K tv u = some b) (h : Q (.bl b) C) : on2 (pIsI K) [d, e] C Q := .inl ⟨tv, u, b, h1, h2, h3, h⟩
theorem s_isiT {tv : Value} {us : List Value} (h1 : Paired ClsD ds us) (h2 : TyD K C d tv) (h3 : W.kitAny K tv us = some b) (h : Q (.bl b) C) : on2 (pIsI K) [d, .tup ds] C Q := .inr ⟨ds, tv, us, b, rfl, h1, h2, h3, h⟩
theorem s_repr (h1 : plainD d = true) (h2 : isDisplay (toPy d) = true) (h3 : ShowOk (toPy d)) (h4 : (toPy d).depth ≤ 60) (h5 : (toPy d).weight ≤ 7000) (h : ∀ r, r = reprD d → Q (.str r) C) : on1 pRepr1 [d] C Q := by
  show pRepr1 d C Q
  unfold pRepr1
  split
  · cases h2
  · cases h2
  · cases h2
  · cases h2
  · exact ⟨h1, h2, h3, h4, h5, h _ rfl⟩
theorem s_repr_str (hl : (reprText s).length ≤ 100000) (h : ∀ r, r = reprText s → Q (.str r) C) : on1 pRepr1 [.str s] C Q := ⟨hl, h _ rfl⟩
theorem s_repr_int (hl : i.natAbs.log2 < 1920) (h : ∀ r, r = (toString i : Str) → Q (.str r) C) : on1 pRepr1 [.int i] C Q := ⟨hl, h _ rfl⟩
theorem s_repr_bl (h : Q (.str (if b then "True" else "False")) C) : on1 pRepr1 [.bl b] C Q := h
theorem s_repr_non (h : Q (.str "None") C) : on1 pRepr1 [.non] C Q := h
theorem s_onStr {β : Sort _} {q : β} {kk : Str → Cells → β → Prop} (h : kk s C q) : onStr (.str s) kk C q := h
theorem s_split (h : (t.length == 0) = false ∧ s.length ≤ 100000 ∧ Q (.lst ((Txt.split s t).map D.str)) C) : pSplit s (.str t) C Q := h
theorem s_part (h : (t.length == 0) = false ∧ s.length ≤ 100000 ∧ Q (.tup [.str (Txt.partition s t).1, .str (Txt.partition s t).2.1, .str (Txt.partition s t).2.2]) C) : pPart s (.str t) C Q := h
theorem s_starts (h : Q (.bl (Txt.startswith s t)) C) : pStarts s (.str t) C Q := h
theorem s_join {zs : List Str} (h0 : SeqD C d (zs.map D.str)) (h : (zs.map (·.length)).sum + zs.length * s.length ≤ 100000 ∧ Q (.str (Txt.join s zs)) C) : pJoin s d C Q := ⟨zs, h0, h⟩
theorem s_fmt_str (h : s.length ≤ 100000 ∧ Q (.str s) C) : pFmt (.str s) C Q := h
theorem s_fmt_int (h : i.natAbs.log2 < 1920 ∧ Q (.str (toString i)) C) : pFmt (.int i) C Q := h
theorem s_app {a : Addr} (n : Nat) (h1 : C[n]? = some (a, .lst ds)) (h : ds.length < 100000 ∧ Q .non (C.set n (a, .lst (ds ++ [d])))) : pApp (.raw (.ref a)) d C Q := ⟨n, a, ds, rfl, h1, h⟩
theorem s_frz {a : Addr} {k : D → MB} {c : Cell} (n : Nat) (h1 : C[n]? = some (a, c)) (h : k c.toD (C.eraseIdx n)) : mFrz (.raw (.ref a)) k C := ⟨n, a, c, rfl, h1, h⟩
theorem s_isL {a : Addr} (h : LstD C (.raw (.ref a)) ds) : isL (.raw (.ref a)) C := by
  obtain h | ⟨z, h, hm⟩ := h
  · cases h
  · cases h; exact ⟨_, _, rfl, hm⟩
theorem s_pop {a : Addr} (n : Nat) (h1 : C[n]? = some (a, .lst (ds ++ [d]))) (h : Q d (C.set n (a, .lst ds))) : pPop (.raw (.ref a)) C Q := ⟨n, a, ds, d, rfl, h1, h⟩
theorem ite2M {c : Prop} [Decidable c] {A B : Prop} (h1 : c → A) (h2 : ¬ c → B) : if c then A else B := by
  by_cases h : c
  · rw [if_pos h]; exact h1 h
  · rw [if_neg h]; exact h2 h
theorem ifT {A B : Prop} (h : A) : if (true : Bool) = true then A else B := h
theorem q_bl {C : Cells} {Q : QE} {b b' : Bool} (q : Q (.bl b) C) (e : b = b') : Q (.bl b') C := e ▸ q
theorem q_int {C : Cells} {Q : QE} {b b' : Int} (q : Q (.int b) C) (e : b = b') : Q (.int b') C := e ▸ q
theorem q_str {C : Cells} {Q : QE} {b b' : Str} (q : Q (.str b) C) (e : b = b') : Q (.str b') C := e ▸ q
theorem ifPos {b : Bool} {A B : Prop} (e : b = true) (h : A) : if b = true then A else B := by rw [if_pos e]; exact h
theorem ifNeg {b : Bool} {A B : Prop} (e : b = false) (h : B) : if b = true then A else B := by rw [if_neg (by rw [e]; decide)]; exact h
theorem ifPosN {b : Bool} {A B : Prop} (e : b = false) (h : A) : if (!b) = true then A else B := by rw [if_pos (by rw [e]; rfl)]; exact h
theorem ifNegN {b : Bool} {A B : Prop} (e : b = true) (h : B) : if (!b) = true then A else B := by rw [if_neg (by rw [e]; decide)]; exact h
theorem ifF {A B : Prop} (h : B) : if (false : Bool) = true then A else B := by rw [if_neg (by decide)]; exact h
end
end Tr
namespace Tr
open PySem L2 PySem.Spec PyProof.Rows
theorem drop_id {C : Cells} {d : D} {Q : QE} (h : Q d C) : ∃ C' r, C.Perm (C' ++ r) ∧ Q d C' := ⟨C, [], by simp, h⟩
theorem drop_to {C : Cells} {d : D} {Q : QE} (C' r : Cells) (p : C.Perm (C' ++ r)) (h : Q d C') : ∃ C' r, C.Perm (C' ++ r) ∧ Q d C' := ⟨C', r, p, h⟩
theorem drop_one {a : Addr} {c : Cell} {C : Cells} {d : D} {Q : QE} (h : Q d C) : ∃ C' r, ((a, c) :: C).Perm (C' ++ r) ∧ Q d C' := ⟨C, [(a, c)], List.perm_append_comm (l₁ := [_]), h⟩
theorem partC_one {a : Addr} {c : Cell} {C : Cells} {m : MB} (h : m C) : mPart m ((a, c) :: C) := ⟨C, [(a, c)], List.perm_append_comm (l₁ := [_]), h⟩
end Tr
namespace Tr
open PySem L2 PySem.Spec PyProof.Rows
theorem if_val {b : Bool} {A B : ME} {C : Cells} {Q : QE} (v : D) (h1 : b = true → ∀ Q : QE, Q v C → A C Q) (h2 : b = false → ∀ Q : QE, Q v C → B C Q) (q : Q v C) : if b = true then A C Q else B C Q := by
  cases b with
  | true => exact h1 rfl _ q
  | false => exact h2 rfl _ q
theorem if_valC {b : Bool} {A B : ME} {C C' : Cells} {Q : QE} (v : D) (h1 : b = true → ∀ Q : QE, Q v C' → A C Q) (h2 : b = false → ∀ Q : QE, Q v C' → B C Q) (q : Q v C') : if b = true then A C Q else B C Q := by
  cases b with
  | true => exact h1 rfl _ q
  | false => exact h2 rfl _ q
/-! ### what is known of any values -/
def isStr : D → Bool
  | .str _ => true
  | _ => false
def strOf : D → Str
  | .str s => s
  | _ => Str.empty
structure AnyD (K : W.Frag) (C : Cells) (d : D) : Prop where
  ty : ∃ t, TyD K C d t ∧ W.kitOne K t (.type "str") = some (isStr d)
  ln : (strOf d).length ≤ 100000
/-- whether a value is a list or a tuple -/
def SqA (K : W.Frag) (C : Cells) (d : D) (b : Bool) : Prop := ∃ t, TyD K C d t ∧ W.kitAny K t [.type "list", .type "tuple"] = some b
theorem any_str {K : W.Frag} {C : Cells} {s : Str} (h : s.length ≤ 100000) : AnyD K C (.str s) := ⟨⟨_, .str s, kit_ty (show kitB "str" "str" = some true by decide +kernel)⟩, h⟩
theorem txt_join (s : Str) (ys : List Str) : Txt.join s ys = Str.join s ys := StrLaws.glued_eq_join s ys
theorem txt_join_len (s : Str) (ys : List Str) : (Txt.join s ys).length ≤ (ys.map (·.length)).sum + ys.length * s.length := by
  rw [txt_join]; exact StrLaws.join_length_le s ys
theorem str_len0 : Str.empty.length = 0 := rfl
theorem str_nil {s : Str} (h : s.length = 0) : s = "" := by
  obtain ⟨a⟩ := s
  have : a = #[] := Array.eq_empty_of_size_eq_zero h
  subst this
  rfl
theorem seq_ty {K : W.Frag} {C : Cells} {d : D} {xs : List D} (h : SeqD C d xs) : ∃ t, TyD K C d t ∧ W.kitAny K t [.type "list", .type "tuple"] = some true := by
  have kl : W.kitOne K (.type "list") (.type "list") = some true := kit_ty (by decide +kernel)
  have kt : W.kitOne K (.type "tuple") (.type "tuple") = some true := kit_ty (by decide +kernel)
  have klt : W.kitOne K (.type "tuple") (.type "list") = some false := kit_ty (by decide +kernel)
  rcases h with (rfl | ⟨a, rfl, hm⟩) | rfl
  · exact ⟨_, .lst _, kitAny_cons (b := true) kl (fun h => by cases h) (fun _ => rfl)⟩
  · exact ⟨_, .cl hm, kitAny_cons (b := true) kl (fun h => by cases h) (fun _ => rfl)⟩
  · exact ⟨_, .tup _, kitAny_cons (b := false) klt (fun _ => kitAny_cons (b := true) kt (fun h => by cases h) (fun _ => rfl)) (fun h => by cases h)⟩
theorem sq_seq {K : W.Frag} {C : Cells} {d : D} {xs : List D} (h : SeqD C d xs) : SqA K C d true := seq_ty h
theorem sq_ty {K : W.Frag} {C : Cells} {d : D} {t : String} {b : Bool} (h : TyD K C d (.type t)) (e : (kitB t "list" = some true ∧ b = true) ∨ (kitB t "list" = some false ∧ kitB t "tuple" = some b)) : SqA K C d b := by
  refine ⟨_, h, ?_⟩
  rcases e with ⟨e, rfl⟩ | ⟨e1, e2⟩
  · exact kitAny_cons (b := true) (kit_ty e) (fun h => by cases h) (fun _ => rfl)
  · cases b with
    | true => exact kitAny_cons (b := false) (kit_ty e1) (fun _ => kitAny_cons (b := true) (kit_ty e2) (fun h => by cases h) (fun _ => rfl)) (fun h => by cases h)
    | false => exact kitAny_cons (b := false) (kit_ty e1) (fun _ => kitAny_cons (b := false) (kit_ty e2) (fun _ => rfl) (fun h => by cases h)) (fun h => by cases h)
theorem s_isSq {K : W.Frag} {C : Cells} {d : D} {b : Bool} {Q : QE} (h : SqA K C d b) (q : Q (.bl b) C) : on2 (pIsI K) [d, .tup [.raw (.ty "list"), .raw (.ty "tuple")]] C Q :=
  let ⟨_, h1, h2⟩ := h
  s_isiT (.cons (.ty _) (.cons (.ty _) .nil)) h1 h2 q
theorem s_isStr {K : W.Frag} {C : Cells} {d : D} {Q : QE} (h : AnyD K C d) (q : Q (.bl (isStr d)) C) : on2 (pIsI K) [d, .raw (.ty "str")] C Q :=
  let ⟨_, h1, h2⟩ := h.ty
  s_isi (.ty _) h1 h2 q
theorem tyD_sub {K : W.Frag} {C C' : Cells} {d : D} {t : Value} (s : ∀ x ∈ C, x ∈ C') (h : TyD K C d t) : TyD K C' d t := by
  cases h with
  | non => exact .non
  | bl => exact .bl _
  | int => exact .int _
  | str => exact .str _
  | lst => exact .lst _
  | tup => exact .tup _
  | ins h => exact .ins h
  | cl h => exact .cl (s _ h)
  | ci h hc => exact .ci (s _ h) hc
theorem sqA_sub {K : W.Frag} {C C' : Cells} {d : D} {b : Bool} (s : ∀ x ∈ C, x ∈ C') (h : SqA K C d b) : SqA K C' d b := let ⟨t, h1, h2⟩ := h; ⟨t, tyD_sub s h1, h2⟩
theorem lstD_sub {C C' : Cells} {d : D} {xs : List D} (s : ∀ x ∈ C, x ∈ C') (h : LstD C d xs) : LstD C' d xs := by
  rcases h with h | ⟨a, h, hm⟩
  · exact .inl h
  · exact .inr ⟨a, h, s _ hm⟩
theorem seqD_sub {C C' : Cells} {d : D} {xs : List D} (s : ∀ x ∈ C, x ∈ C') (h : SeqD C d xs) : SeqD C' d xs := by
  rcases h with h | h
  · exact .inl (lstD_sub s h)
  · exact .inr h
theorem anyD_sub {K : W.Frag} {C C' : Cells} {d : D} (s : ∀ x ∈ C, x ∈ C') (h : AnyD K C d) : AnyD K C' d := ⟨let ⟨t, h1, h2⟩ := h.ty; ⟨t, tyD_sub s h1, h2⟩, h.ln⟩
theorem seqD_tail {C' : Cells} {z c : Addr} {ns : List Str} {fs : List D} {d : D} {xs : List D} (h : SeqD ((z, .ins c ns fs) :: C') d xs) : SeqD C' d xs := by
  rcases h with (h | ⟨a, h, hm⟩) | h
  · exact .inl (.inl h)
  · rcases List.mem_cons.mp hm with e | hm
    · cases e
    · exact .inl (.inr ⟨a, h, hm⟩)
  · exact .inr h
theorem seqD_ins {C' : Cells} {z c : Addr} {ns ns' : List Str} {fs fs' : List D} {d : D} {xs : List D} (h : SeqD ((z, .ins c ns fs) :: C') d xs) : SeqD ((z, .ins c ns' fs') :: C') d xs := seqD_sub (fun _ h => List.mem_cons_of_mem _ h) (seqD_tail h)
theorem atI_in {α : Type} {l : List α} {k : Int} (h0 : 0 ≤ k) (h1 : k < l.length) : ∃ d, atI l k = some d ∧ d ∈ l := by
  unfold atI ixN
  rw [if_pos h0, if_pos h1]
  have h : k.toNat < l.length := by omega
  exact ⟨l[k.toNat], by simp [h], List.getElem_mem h⟩
theorem atI_map {α β : Type} (f : α → β) {l : List α} {k : Int} {x : α} (h : atI l k = some x) : atI (l.map f) k = some (f x) := by
  unfold atI at h ⊢
  rw [List.length_map]
  cases e : ixN l.length k with
  | none => rw [e] at h; cases h
  | some j =>
    rw [e] at h
    have h' : l[j]? = some x := h
    show (l.map f)[j]? = some (f x)
    rw [List.getElem?_map, h']; rfl
theorem atI_head {α : Type} {l : List α} {c : α} (h : l.head? = some c) : atI l 0 = some c := by
  cases l with
  | nil => cases h
  | cons a l =>
    cases h
    unfold atI ixN
    simp
theorem atI_last {α : Type} {l : List α} {x : α} : atI (l ++ [x]) (-1) = some x := by
  unfold atI ixN
  rw [List.length_append, List.length_singleton, if_neg (by decide), if_pos (by omega)]
  show (l ++ [x])[((-1 : Int) + ((l.length + 1 : Nat) : Int)).toNat]? = some x
  rw [show ((-1 : Int) + ((l.length + 1 : Nat) : Int)).toNat = l.length by omega]
  simp
/-- an item at a drawn place -/
theorem s_ix_at {α : Type} {C : Cells} {Q : QE} {l : List α} {g : α → D} {k : Int} (h0 : 0 ≤ k) (h1 : k < l.length) (q : ∀ a ∈ l, Q (g a) C) : pIx (.lst (l.map g)) (.int k) C Q := by
  obtain ⟨a, e, hm⟩ := atI_in (l := l) h0 h1
  exact s_ix_lst (atI_map g e) (q a hm)
theorem s_ix_atT {α : Type} {C : Cells} {Q : QE} {l : List α} {g : α → D} {k : Int} (h0 : 0 ≤ k) (h1 : k < l.length) (q : ∀ a ∈ l, Q (g a) C) : pIx (.tup (l.map g)) (.int k) C Q := by
  obtain ⟨a, e, hm⟩ := atI_in (l := l) h0 h1
  exact s_ix_tup (atI_map g e) (q a hm)
/-- an own call by what it promises -/
theorem callN_all {F : FS} {ds : List D} {C : Cells} {Q : QE} (h : F ds C Q fun _ _ _ => False) : callN F ds C Q := ⟨C, [], by simp, by simpa using h⟩
theorem int_log {i : Int} (h0 : 0 ≤ i) (h1 : i < 1000000) : i.natAbs.log2 < 1920 := by
  obtain ⟨n, rfl⟩ := Int.eq_ofNat_of_zero_le h0
  show n.log2 < 1920
  have hn : n < 2 ^ 20 := by omega
  by_cases e : n = 0
  · subst e; decide
  · have := (Nat.log2_lt e).mpr hn
    omega
theorem int_len {i : Int} (h0 : 0 ≤ i) (h1 : i < 100) : (toString i : Str).length ≤ 2 := by
  obtain ⟨n, rfl⟩ := Int.eq_ofNat_of_zero_le h0
  have hn : n < 100 := by omega
  have all : ∀ n : _root_.Fin 100, (toString ((n.val : Nat) : Int) : Str).length ≤ 2 := by decide +kernel
  exact all ⟨n, hn⟩
end Tr
namespace Tr
open PySem L2 PySem.Spec PyProof.Rows
theorem lcB_mapD {C : Cells} {P : Cells → Prop} {f : D → ME} {Q : QE} {ds : List D} (h : D → D) (hp : P C) (hf : ∀ d ∈ ds, ∀ k : QE, k (h d) C → f d C k) (hl : ds.length ≤ 100000) (q : Q (.lst (ds.map h)) C) : lcB P f Q ds [] C := by
  have := lcB_map (P := P) (f := f) (Q := Q) (l := ds) id h hp hf hl q
  rwa [List.map_id] at this
end Tr
namespace Tr
open PySem L2 PySem.Spec PyProof.Rows
theorem if_join {b : Bool} {A B : ME} {C : Cells} {Q : QE} (J : QE) (h1 : b = true → ∀ Q : QE, (∀ d C', J d C' → Q d C') → A C Q) (h2 : b = false → ∀ Q : QE, (∀ d C', J d C' → Q d C') → B C Q) (q : ∀ d C', J d C' → Q d C') : if b = true then A C Q else B C Q := by
  cases b with
  | true => exact h1 rfl _ q
  | false => exact h2 rfl _ q
theorem lcB1_mapD {C : Cells} {P : Cells → Prop} {t : D → MT} {f : D → ME} {Q : QE} {ds : List D} (b : D → Bool) (hp : P C) (ht : ∀ d ∈ ds, ∀ k : QT, k (b d) C → t d C k) (hf : ∀ d ∈ ds, b d = true → ∀ k : QE, k d C → f d C k) (hl : ds.length ≤ 100000) (q : Q (.lst (ds.filter b)) C) : lcB1 P t f Q ds [] C := by
  have := lcB1_map (P := P) (t := t) (f := f) (Q := Q) (l := ds) id id b hp ht hf hl (by rw [List.map_id]; exact q)
  rwa [List.map_id] at this
theorem filter_all {p : D → Bool} : ∀ xs : List D, (xs.filter fun d => !p d).isEmpty = xs.all p
  | [] => rfl
  | x :: xs => by
    rw [List.filter_cons, List.all_cons]
    cases e : p x with
    | true => simpa using filter_all xs
    | false => simp
theorem lays {k : Nat} : ∀ {ds : List D}, (∀ d ∈ ds, plainD d = true ∧ (toPy d).canLay0 = true ∧ (toPy d).depth ≤ k) → plainDs ds = true ∧ PyData.canLayAll0 (toPys ds) = true ∧ PyData.depthAll (toPys ds) ≤ k
  | [], _ => ⟨rfl, rfl, Nat.zero_le _⟩
  | d :: ds, h => by
    obtain ⟨a, b, c⟩ := h d List.mem_cons_self
    obtain ⟨a2, b2, c2⟩ := lays fun d hd => h d (List.mem_cons_of_mem _ hd)
    refine ⟨by unfold plainDs; rw [a, a2]; rfl, by rw [toPys, PyData.canLayAll0, b, b2]; rfl, ?_⟩
    rw [toPys, PyData.depthAll]
    omega
theorem eqd_nil {C : Cells} {xs : List D} (h : ∀ d ∈ xs, plainD d = true ∧ (toPy d).canLay0 = true ∧ (toPy d).depth ≤ 30) : EqD C (.lst xs) (.lst []) xs.isEmpty := by
  obtain ⟨a, b, c⟩ := lays h
  refine ⟨.list (toPys xs), .list [], .inl ⟨a, rfl⟩, .inl ⟨rfl, rfl⟩, ?_, by decide +kernel, by cases xs <;> rfl⟩
  unfold SeqAt.shaped
  rw [PyData.canLay0, b, PyData.depth, Bool.true_and]
  exact decide_eq_true (by omega)
end Tr

set_option maxHeartbeats 4000000
namespace Kk
open PySem L2 PySem.Spec PyProof.Rows Tr
def small : Str := "abcdefghijklmnopqrstuvwxyz"
def barred : List Str := ["no", "yes", "do", "if", "and", "not", "then"]
def top (i : Nat) : Stmt := PySem.Challenge.pw_hastypage_k04_targets_told.main.body.getD i (.Pass ⟨0, 0, 0, 0⟩)
abbrev s__wall : Stmt := top 0
abbrev s_is_name : Stmt := top 9
abbrev s_is_sequence : Stmt := top 10
abbrev s_are_names : Stmt := top 11
abbrev s_is_targets : Stmt := top 13
abbrev s_are_kinds : Stmt := top 14
abbrev s_are_some : Stmt := top 15
abbrev s_is_book_line : Stmt := top 17
abbrev s_may_follow : Stmt := top 18
abbrev s__law_deal : Stmt := top 20
abbrev s__law_draw : Stmt := top 21
abbrev s__law_mixed : Stmt := top 22
abbrev s__law_words : Stmt := top 23
abbrev s__law_book : Stmt := top 24
abbrev s__law_any : Stmt := top 26
abbrev s__law_told : Stmt := top 27
abbrev s_law : Stmt := top 28
abbrev s_Book_init : Stmt := inClass (top 16) 0
abbrev s_Book_read : Stmt := inClass (top 16) 1
abbrev s_Book_need_kind : Stmt := inClass (top 16) 2
abbrev s_Book_target : Stmt := inClass (top 16) 3
abbrev s_Book_without : Stmt := inClass (top 16) 4
abbrev s_Book_eq : Stmt := inClass (top 16) 5
abbrev s_Book_str : Stmt := inClass (top 16) 6
theorem sc__wall : FnScope ["k"] ["k"] (defScope s__wall) := ⟨rfl, rfl, rfl, by decide +kernel, rfl, by decide +kernel, by decide +kernel⟩
abbrev FN__wall (P : Program) (w : World) (K : W.Frag) (mg : Str → Option Value) (base : Heap) (k : Nat) (f : Addr) (fd : FuncData) (F : FS) : Prop := FnG P w K mg base k f fd ["k"] F
theorem sc_is_name : FnScope ["value", "letter"] ["value"] (defScope s_is_name) := ⟨rfl, rfl, rfl, by decide +kernel, rfl, by decide +kernel, by decide +kernel⟩
abbrev FN_is_name (P : Program) (w : World) (K : W.Frag) (mg : Str → Option Value) (base : Heap) (k : Nat) (f : Addr) (fd : FuncData) (F : FS) : Prop := FnG P w K mg base k f fd ["value"] F
theorem sc_is_sequence : FnScope ["value"] ["value"] (defScope s_is_sequence) := ⟨rfl, rfl, rfl, by decide +kernel, rfl, by decide +kernel, by decide +kernel⟩
abbrev FN_is_sequence (P : Program) (w : World) (K : W.Frag) (mg : Str → Option Value) (base : Heap) (k : Nat) (f : Addr) (fd : FuncData) (F : FS) : Prop := FnG P w K mg base k f fd ["value"] F
theorem sc_are_names : FnScope ["value", "at", "name"] ["value"] (defScope s_are_names) := ⟨rfl, rfl, rfl, by decide +kernel, rfl, by decide +kernel, by decide +kernel⟩
abbrev FN_are_names (P : Program) (w : World) (K : W.Frag) (mg : Str → Option Value) (base : Heap) (k : Nat) (f : Addr) (fd : FuncData) (F : FS) : Prop := FnG P w K mg base k f fd ["value"] F
theorem sc_is_targets : FnScope ["value", "values", "one"] ["value", "values"] (defScope s_is_targets) := ⟨rfl, rfl, rfl, by decide +kernel, rfl, by decide +kernel, by decide +kernel⟩
abbrev FN_is_targets (P : Program) (w : World) (K : W.Frag) (mg : Str → Option Value) (base : Heap) (k : Nat) (f : Addr) (fd : FuncData) (F : FS) : Prop := FnG P w K mg base k f fd ["value", "values"] F
theorem sc_are_kinds : FnScope ["value", "values", "one"] ["value", "values"] (defScope s_are_kinds) := ⟨rfl, rfl, rfl, by decide +kernel, rfl, by decide +kernel, by decide +kernel⟩
abbrev FN_are_kinds (P : Program) (w : World) (K : W.Frag) (mg : Str → Option Value) (base : Heap) (k : Nat) (f : Addr) (fd : FuncData) (F : FS) : Prop := FnG P w K mg base k f fd ["value", "values"] F
theorem sc_are_some : FnScope ["value", "names", "name"] ["value", "names"] (defScope s_are_some) := ⟨rfl, rfl, rfl, by decide +kernel, rfl, by decide +kernel, by decide +kernel⟩
abbrev FN_are_some (P : Program) (w : World) (K : W.Frag) (mg : Str → Option Value) (base : Heap) (k : Nat) (f : Addr) (fd : FuncData) (F : FS) : Prop := FnG P w K mg base k f fd ["value", "names"] F
theorem sc_is_book_line : FnScope ["words", "word"] ["words"] (defScope s_is_book_line) := ⟨rfl, rfl, rfl, by decide +kernel, rfl, by decide +kernel, by decide +kernel⟩
abbrev FN_is_book_line (P : Program) (w : World) (K : W.Frag) (mg : Str → Option Value) (base : Heap) (k : Nat) (f : Addr) (fd : FuncData) (F : FS) : Prop := FnG P w K mg base k f fd ["words"] F
theorem sc_may_follow : FnScope ["word", "last", "places"] ["word", "last"] (defScope s_may_follow) := ⟨rfl, rfl, rfl, by decide +kernel, rfl, by decide +kernel, by decide +kernel⟩
abbrev FN_may_follow (P : Program) (w : World) (K : W.Frag) (mg : Str → Option Value) (base : Heap) (k : Nat) (f : Addr) (fd : FuncData) (F : FS) : Prop := FnG P w K mg base k f fd ["word", "last"] F
theorem sc__law_deal : FnScope ["_law_script", "_law_base", "_law_cells", "_law_blend", "_law_cell"] ["_law_script", "_law_base"] (defScope s__law_deal) := ⟨rfl, rfl, rfl, by decide +kernel, rfl, by decide +kernel, by decide +kernel⟩
abbrev FN__law_deal (P : Program) (w : World) (K : W.Frag) (mg : Str → Option Value) (base : Heap) (k : Nat) (f : Addr) (fd : FuncData) (F : FS) : Prop := FnG P w K mg base k f fd ["_law_script", "_law_base"] F
theorem sc__law_draw : FnScope ["_law_deal_here", "_law_amount", "_law_left"] ["_law_deal_here", "_law_amount"] (defScope s__law_draw) := ⟨rfl, rfl, rfl, by decide +kernel, rfl, by decide +kernel, by decide +kernel⟩
abbrev FN__law_draw (P : Program) (w : World) (K : W.Frag) (mg : Str → Option Value) (base : Heap) (k : Nat) (f : Addr) (fd : FuncData) (F : FS) : Prop := FnG P w K mg base k f fd ["_law_deal_here", "_law_amount"] F
theorem sc__law_mixed : FnScope ["_law_deal_here", "_law_some", "_law_left", "_law_found"] ["_law_deal_here", "_law_some"] (defScope s__law_mixed) := ⟨rfl, rfl, rfl, by decide +kernel, rfl, by decide +kernel, by decide +kernel⟩
abbrev FN__law_mixed (P : Program) (w : World) (K : W.Frag) (mg : Str → Option Value) (base : Heap) (k : Nat) (f : Addr) (fd : FuncData) (F : FS) : Prop := FnG P w K mg base k f fd ["_law_deal_here", "_law_some"] F
theorem sc__law_words : FnScope ["_law_deal_here", "_law_many", "_law_some"] ["_law_deal_here", "_law_many"] (defScope s__law_words) := ⟨rfl, rfl, rfl, by decide +kernel, rfl, by decide +kernel, by decide +kernel⟩
abbrev FN__law_words (P : Program) (w : World) (K : W.Frag) (mg : Str → Option Value) (base : Heap) (k : Nat) (f : Addr) (fd : FuncData) (F : FS) : Prop := FnG P w K mg base k f fd ["_law_deal_here", "_law_many"] F
theorem sc__law_book : FnScope ["_law_deal_here", "_law_most", "_law_some", "_law_names", "_law_kinds", "_law_name", "_law_loose", "_law_one"] ["_law_deal_here", "_law_most"] (defScope s__law_book) := ⟨rfl, rfl, rfl, by decide +kernel, rfl, by decide +kernel, by decide +kernel⟩
abbrev FN__law_book (P : Program) (w : World) (K : W.Frag) (mg : Str → Option Value) (base : Heap) (k : Nat) (f : Addr) (fd : FuncData) (F : FS) : Prop := FnG P w K mg base k f fd ["_law_deal_here", "_law_most"] F
theorem sc__law_any : FnScope ["_law_deal_here", "_law_deep", "_law_inner", "_law_some", "_law_turn"] ["_law_deal_here", "_law_deep"] (defScope s__law_any) := ⟨rfl, rfl, rfl, by decide +kernel, rfl, by decide +kernel, by decide +kernel⟩
abbrev FN__law_any (P : Program) (w : World) (K : W.Frag) (mg : Str → Option Value) (base : Heap) (k : Nat) (f : Addr) (fd : FuncData) (F : FS) : Prop := FnG P w K mg base k f fd ["_law_deal_here", "_law_deep"] F
theorem sc__law_told : FnScope ["_law_book_here", "_law_kind", "_law_value", "_law_found", "e"] ["_law_book_here", "_law_kind", "_law_value"] (defScope s__law_told) := ⟨rfl, rfl, rfl, by decide +kernel, rfl, by decide +kernel, by decide +kernel⟩
abbrev FN__law_told (P : Program) (w : World) (K : W.Frag) (mg : Str → Option Value) (base : Heap) (k : Nat) (f : Addr) (fd : FuncData) (F : FS) : Prop := FnG P w K mg base k f fd ["_law_book_here", "_law_kind", "_law_value"] F
theorem sc_law : FnScope ["_law_script", "_law_deal_here", "_law_turn", "_law_some", "_law_kinds", "_law_loose", "_law_others", "_law_made", "_law_names", "_law_name", "_law_targets", "_law_at", "_law_value", "_law_again", "_law_one", "_law_other"] ["_law_script"] (defScope s_law) := ⟨rfl, rfl, rfl, by decide +kernel, rfl, by decide +kernel, by decide +kernel⟩
abbrev FN_law (P : Program) (w : World) (K : W.Frag) (mg : Str → Option Value) (base : Heap) (k : Nat) (f : Addr) (fd : FuncData) (F : FS) : Prop := FnG P w K mg base k f fd ["_law_script"] F
theorem sc_Book_init : FnScope ["self", "choices", "kinds", "loose", "others", "name", "targets"] ["self", "choices", "kinds", "loose", "others"] (defScope s_Book_init) := ⟨rfl, rfl, rfl, by decide +kernel, rfl, by decide +kernel, by decide +kernel⟩
abbrev FN_Book_init (P : Program) (w : World) (K : W.Frag) (mg : Str → Option Value) (base : Heap) (k : Nat) (f : Addr) (fd : FuncData) (F : FS) : Prop := FnG P w K mg base k f fd ["self", "choices", "kinds", "loose", "others"] F
theorem sc_Book_read : FnScope ["cls", "text", "lines", "found", "last", "at", "line", "words", "word"] ["cls", "text"] (defScope s_Book_read) := ⟨rfl, rfl, rfl, by decide +kernel, rfl, by decide +kernel, by decide +kernel⟩
abbrev FN_Book_read (P : Program) (w : World) (K : W.Frag) (mg : Str → Option Value) (base : Heap) (k : Nat) (f : Addr) (fd : FuncData) (F : FS) : Prop := FnG P w K mg base k f fd ["cls", "text"] F
theorem sc_Book_need_kind : FnScope ["self", "kind"] ["self", "kind"] (defScope s_Book_need_kind) := ⟨rfl, rfl, rfl, by decide +kernel, rfl, by decide +kernel, by decide +kernel⟩
abbrev FN_Book_need_kind (P : Program) (w : World) (K : W.Frag) (mg : Str → Option Value) (base : Heap) (k : Nat) (f : Addr) (fd : FuncData) (F : FS) : Prop := FnG P w K mg base k f fd ["self", "kind"] F
theorem sc_Book_target : FnScope ["self", "kind", "value"] ["self", "kind", "value"] (defScope s_Book_target) := ⟨rfl, rfl, rfl, by decide +kernel, rfl, by decide +kernel, by decide +kernel⟩
abbrev FN_Book_target (P : Program) (w : World) (K : W.Frag) (mg : Str → Option Value) (base : Heap) (k : Nat) (f : Addr) (fd : FuncData) (F : FS) : Prop := FnG P w K mg base k f fd ["self", "kind", "value"] F
theorem sc_Book_without : FnScope ["self", "kind"] ["self", "kind"] (defScope s_Book_without) := ⟨rfl, rfl, rfl, by decide +kernel, rfl, by decide +kernel, by decide +kernel⟩
abbrev FN_Book_without (P : Program) (w : World) (K : W.Frag) (mg : Str → Option Value) (base : Heap) (k : Nat) (f : Addr) (fd : FuncData) (F : FS) : Prop := FnG P w K mg base k f fd ["self", "kind"] F
theorem sc_Book_eq : FnScope ["self", "other"] ["self", "other"] (defScope s_Book_eq) := ⟨rfl, rfl, rfl, by decide +kernel, rfl, by decide +kernel, by decide +kernel⟩
abbrev FN_Book_eq (P : Program) (w : World) (K : W.Frag) (mg : Str → Option Value) (base : Heap) (k : Nat) (f : Addr) (fd : FuncData) (F : FS) : Prop := FnG P w K mg base k f fd ["self", "other"] F
theorem sc_Book_str : FnScope ["self", "lines", "name", "one"] ["self"] (defScope s_Book_str) := ⟨rfl, rfl, rfl, by decide +kernel, rfl, by decide +kernel, by decide +kernel⟩
abbrev FN_Book_str (P : Program) (w : World) (K : W.Frag) (mg : Str → Option Value) (base : Heap) (k : Nat) (f : Addr) (fd : FuncData) (F : FS) : Prop := FnG P w K mg base k f fd ["self"] F
abbrev s_InvalidBook_init : Stmt := inClass (top 3) 0
abbrev s_InvalidText_init : Stmt := inClass (top 4) 0
abbrev s_NoKind_init : Stmt := inClass (top 5) 0
theorem sup_InvalidBook {P : Program} {K : W.Frag} {mg : Str → Option Value} {c_InvalidBook f_InvalidBook_init cda_InvalidBook cc_InvalidBook N_InvalidBook : Addr} {nm_InvalidBook qn_InvalidBook : Str} {bs_InvalidBook bm_InvalidBook sub_InvalidBook : List Value} {sn_InvalidBook : List Str} {ab_InvalidBook : Bool} {col_InvalidBook : Option Bool} {dd_InvalidBook od_InvalidBook an_InvalidBook cdd_InvalidBook cld_InvalidBook : Option Addr} {k0_InvalidBook k1_InvalidBook k2_InvalidBook k3_InvalidBook k5_InvalidBook : Option Value} {oc_InvalidBook kV_InvalidBook dc_InvalidBook pm_InvalidBook ct_InvalidBook ccl_InvalidBook cl0_InvalidBook : Value} {sl_InvalidBook ccs_InvalidBook csl_InvalidBook : Array (Option Value)} {vs_InvalidBook : Array Value} {file_InvalidBook : Str} {tf_InvalidBook : Tok}
    (lc : K.lookup c_InvalidBook = some (excClassObj nm_InvalidBook qn_InvalidBook c_InvalidBook N_InvalidBook bs_InvalidBook bm_InvalidBook true sn_InvalidBook sub_InvalidBook ab_InvalidBook col_InvalidBook dd_InvalidBook k0_InvalidBook k1_InvalidBook k2_InvalidBook k3_InvalidBook k5_InvalidBook "ValueError.__new__")) (rv : W.excTail [.type "ValueError", .type "Exception", .type "BaseException", .type "object"] bm_InvalidBook = true) (sa : W.findIn K (.ref c_InvalidBook) "__setattr__" = some (some (.builtin "object.__setattr__"))) (no : W.findIn K (.ref c_InvalidBook) "word" = some none)
    (lf : K.lookup f_InvalidBook_init = some ⟨oc_InvalidBook, od_InvalidBook, .func (W.ksFn "__init__" "InvalidBook.__init__" (defArgs s_InvalidBook_init) (defBody s_InvalidBook_init) (defScope s_InvalidBook_init) .none kV_InvalidBook dc_InvalidBook pm_InvalidBook an_InvalidBook (.ref cda_InvalidBook) ct_InvalidBook cc_InvalidBook), sl_InvalidBook⟩) (lcd : K.lookup cda_InvalidBook = some ⟨ccl_InvalidBook, cdd_InvalidBook, .fields vs_InvalidBook, ccs_InvalidBook⟩) (hv : vs_InvalidBook[2]? = some (.str file_InvalidBook tf_InvalidBook)) (hf : ((P.main.file : Str) == file_InvalidBook) = true) (ci : W.codeIn K (.ref cda_InvalidBook) "InvalidBook.__init__" = true)
    (lcc : K.lookup cc_InvalidBook = some ⟨cl0_InvalidBook, cld_InvalidBook, .cell (some (.ref c_InvalidBook)), csl_InvalidBook⟩) (zs : mg "super" = none) (zt : (P.main.scope.names.lookup ("super" : Str)).isSome = false) (za : W.nsIn K cStatics "thirdparty.any" = some none) (si : W.ks_superIn K c_InvalidBook c_InvalidBook "__init__" = some (some (.builtin "ValueError.__init__"))) (sv : W.subIn K (.ref c_InvalidBook) (.type "ValueError") = some true) :
    SupRun P K mg c_InvalidBook f_InvalidBook_init "word" := fun w A R hp g d t os mb a t0 v X hg hb hbb hlim hroom ha hKa hq =>
  sup_init (selfN := "self") (argN := "word") xf_ValueError X hg hb hbb hlim lc rv sa no lf lcd hv hf ci lcc zs (by rfl) (by rfl) (by rfl) (by rfl) (by rfl) (by decide) (by rfl) (by rfl) (by rfl) (by rfl) (by decide +kernel) (by rfl) (by rfl) (fun s => BindsTo.of_eq (by rfl)) zt za si sv (by rfl) hroom (fun _ => by rfl) (fun _ => by rfl) (fun _ => by rfl) _ (fun _ => by rfl) ha hKa hq
theorem sup_InvalidText {P : Program} {K : W.Frag} {mg : Str → Option Value} {c_InvalidText f_InvalidText_init cda_InvalidText cc_InvalidText N_InvalidText : Addr} {nm_InvalidText qn_InvalidText : Str} {bs_InvalidText bm_InvalidText sub_InvalidText : List Value} {sn_InvalidText : List Str} {ab_InvalidText : Bool} {col_InvalidText : Option Bool} {dd_InvalidText od_InvalidText an_InvalidText cdd_InvalidText cld_InvalidText : Option Addr} {k0_InvalidText k1_InvalidText k2_InvalidText k3_InvalidText k5_InvalidText : Option Value} {oc_InvalidText kV_InvalidText dc_InvalidText pm_InvalidText ct_InvalidText ccl_InvalidText cl0_InvalidText : Value} {sl_InvalidText ccs_InvalidText csl_InvalidText : Array (Option Value)} {vs_InvalidText : Array Value} {file_InvalidText : Str} {tf_InvalidText : Tok}
    (lc : K.lookup c_InvalidText = some (excClassObj nm_InvalidText qn_InvalidText c_InvalidText N_InvalidText bs_InvalidText bm_InvalidText true sn_InvalidText sub_InvalidText ab_InvalidText col_InvalidText dd_InvalidText k0_InvalidText k1_InvalidText k2_InvalidText k3_InvalidText k5_InvalidText "ValueError.__new__")) (rv : W.excTail [.type "ValueError", .type "Exception", .type "BaseException", .type "object"] bm_InvalidText = true) (sa : W.findIn K (.ref c_InvalidText) "__setattr__" = some (some (.builtin "object.__setattr__"))) (no : W.findIn K (.ref c_InvalidText) "at" = some none)
    (lf : K.lookup f_InvalidText_init = some ⟨oc_InvalidText, od_InvalidText, .func (W.ksFn "__init__" "InvalidText.__init__" (defArgs s_InvalidText_init) (defBody s_InvalidText_init) (defScope s_InvalidText_init) .none kV_InvalidText dc_InvalidText pm_InvalidText an_InvalidText (.ref cda_InvalidText) ct_InvalidText cc_InvalidText), sl_InvalidText⟩) (lcd : K.lookup cda_InvalidText = some ⟨ccl_InvalidText, cdd_InvalidText, .fields vs_InvalidText, ccs_InvalidText⟩) (hv : vs_InvalidText[2]? = some (.str file_InvalidText tf_InvalidText)) (hf : ((P.main.file : Str) == file_InvalidText) = true) (ci : W.codeIn K (.ref cda_InvalidText) "InvalidText.__init__" = true)
    (lcc : K.lookup cc_InvalidText = some ⟨cl0_InvalidText, cld_InvalidText, .cell (some (.ref c_InvalidText)), csl_InvalidText⟩) (zs : mg "super" = none) (zt : (P.main.scope.names.lookup ("super" : Str)).isSome = false) (za : W.nsIn K cStatics "thirdparty.any" = some none) (si : W.ks_superIn K c_InvalidText c_InvalidText "__init__" = some (some (.builtin "ValueError.__init__"))) (sv : W.subIn K (.ref c_InvalidText) (.type "ValueError") = some true) :
    SupRun P K mg c_InvalidText f_InvalidText_init "at" := fun w A R hp g d t os mb a t0 v X hg hb hbb hlim hroom ha hKa hq =>
  sup_init (selfN := "self") (argN := "at") xf_ValueError X hg hb hbb hlim lc rv sa no lf lcd hv hf ci lcc zs (by rfl) (by rfl) (by rfl) (by rfl) (by rfl) (by decide) (by rfl) (by rfl) (by rfl) (by rfl) (by decide +kernel) (by rfl) (by rfl) (fun s => BindsTo.of_eq (by rfl)) zt za si sv (by rfl) hroom (fun _ => by rfl) (fun _ => by rfl) (fun _ => by rfl) _ (fun _ => by rfl) ha hKa hq
theorem sup_NoKind {P : Program} {K : W.Frag} {mg : Str → Option Value} {c_NoKind f_NoKind_init cda_NoKind cc_NoKind N_NoKind : Addr} {nm_NoKind qn_NoKind : Str} {bs_NoKind bm_NoKind sub_NoKind : List Value} {sn_NoKind : List Str} {ab_NoKind : Bool} {col_NoKind : Option Bool} {dd_NoKind od_NoKind an_NoKind cdd_NoKind cld_NoKind : Option Addr} {k0_NoKind k1_NoKind k2_NoKind k3_NoKind k5_NoKind : Option Value} {oc_NoKind kV_NoKind dc_NoKind pm_NoKind ct_NoKind ccl_NoKind cl0_NoKind : Value} {sl_NoKind ccs_NoKind csl_NoKind : Array (Option Value)} {vs_NoKind : Array Value} {file_NoKind : Str} {tf_NoKind : Tok}
    (lc : K.lookup c_NoKind = some (excClassObj nm_NoKind qn_NoKind c_NoKind N_NoKind bs_NoKind bm_NoKind true sn_NoKind sub_NoKind ab_NoKind col_NoKind dd_NoKind k0_NoKind k1_NoKind k2_NoKind k3_NoKind k5_NoKind "LookupError.__new__")) (rv : W.excTail [.type "KeyError", .type "LookupError", .type "Exception", .type "BaseException", .type "object"] bm_NoKind = true) (sa : W.findIn K (.ref c_NoKind) "__setattr__" = some (some (.builtin "object.__setattr__"))) (no : W.findIn K (.ref c_NoKind) "name" = some none)
    (lf : K.lookup f_NoKind_init = some ⟨oc_NoKind, od_NoKind, .func (W.ksFn "__init__" "NoKind.__init__" (defArgs s_NoKind_init) (defBody s_NoKind_init) (defScope s_NoKind_init) .none kV_NoKind dc_NoKind pm_NoKind an_NoKind (.ref cda_NoKind) ct_NoKind cc_NoKind), sl_NoKind⟩) (lcd : K.lookup cda_NoKind = some ⟨ccl_NoKind, cdd_NoKind, .fields vs_NoKind, ccs_NoKind⟩) (hv : vs_NoKind[2]? = some (.str file_NoKind tf_NoKind)) (hf : ((P.main.file : Str) == file_NoKind) = true) (ci : W.codeIn K (.ref cda_NoKind) "NoKind.__init__" = true)
    (lcc : K.lookup cc_NoKind = some ⟨cl0_NoKind, cld_NoKind, .cell (some (.ref c_NoKind)), csl_NoKind⟩) (zs : mg "super" = none) (zt : (P.main.scope.names.lookup ("super" : Str)).isSome = false) (za : W.nsIn K cStatics "thirdparty.any" = some none) (si : W.ks_superIn K c_NoKind c_NoKind "__init__" = some (some (.builtin "KeyError.__init__"))) (sv : W.subIn K (.ref c_NoKind) (.type "KeyError") = some true) :
    SupRun P K mg c_NoKind f_NoKind_init "name" := fun w A R hp g d t os mb a t0 v X hg hb hbb hlim hroom ha hKa hq =>
  sup_init (selfN := "self") (argN := "name") xf_KeyError X hg hb hbb hlim lc rv sa no lf lcd hv hf ci lcc zs (by rfl) (by rfl) (by rfl) (by rfl) (by rfl) (by decide) (by rfl) (by rfl) (by rfl) (by rfl) (by decide +kernel) (by rfl) (by rfl) (fun s => BindsTo.of_eq (by rfl)) zt za si sv (by rfl) hroom (fun _ => by rfl) (fun _ => by rfl) (fun _ => by rfl) _ (fun _ => by rfl) ha hKa hq
/-- what the top has left -/
structure Tp (prog : Program) (K : W.Frag) (mg : Str → Option Value) where
  c_Book : Addr
  f__wall : Addr
  d__wall : FuncData
  f_is_name : Addr
  d_is_name : FuncData
  f_is_sequence : Addr
  d_is_sequence : FuncData
  f_are_names : Addr
  d_are_names : FuncData
  f_is_targets : Addr
  d_is_targets : FuncData
  f_are_kinds : Addr
  d_are_kinds : FuncData
  f_are_some : Addr
  d_are_some : FuncData
  f_is_book_line : Addr
  d_is_book_line : FuncData
  f_may_follow : Addr
  d_may_follow : FuncData
  f__law_deal : Addr
  d__law_deal : FuncData
  f__law_draw : Addr
  d__law_draw : FuncData
  f__law_mixed : Addr
  d__law_mixed : FuncData
  f__law_words : Addr
  d__law_words : FuncData
  f__law_book : Addr
  d__law_book : FuncData
  f__law_any : Addr
  d__law_any : FuncData
  f__law_told : Addr
  d__law_told : FuncData
  f_law : Addr
  d_law : FuncData
  f_Book_init : Addr
  d_Book_init : FuncData
  f_Book_read : Addr
  d_Book_read : FuncData
  f_Book_need_kind : Addr
  d_Book_need_kind : FuncData
  f_Book_target : Addr
  d_Book_target : FuncData
  f_Book_without : Addr
  d_Book_without : FuncData
  f_Book_eq : Addr
  d_Book_eq : FuncData
  f_Book_str : Addr
  d_Book_str : FuncData
  a_BARRED : Addr
  e_Book_init_0 : Addr
  e_Book_init_1 : Addr
  i_Book : ClsI K c_Book
  g_Book : mg "Book" = some (.ref c_Book)
  na_Book_choices : NoAttr K c_Book "choices"
  na_Book_kinds : NoAttr K c_Book "kinds"
  na_Book_targets : NoAttr K c_Book "targets"
  na_Book_loose : NoAttr K c_Book "loose"
  na_Book_others : NoAttr K c_Book "others"
  isi_Book_list : W.kitOne K (.type "list") (.ref c_Book) = some false
  isi_Book_tuple : W.kitOne K (.type "tuple") (.ref c_Book) = some false
  isi_Book_str : W.kitOne K (.type "str") (.ref c_Book) = some false
  isi_Book_int : W.kitOne K (.type "int") (.ref c_Book) = some false
  isi_Book_bool : W.kitOne K (.type "bool") (.ref c_Book) = some false
  isi_Book_NoneType : W.kitOne K (.type "NoneType") (.ref c_Book) = some false
  kin_Book_list : W.kitOne K (.ref c_Book) (.type "list") = some false
  kin_Book_tuple : W.kitOne K (.ref c_Book) (.type "tuple") = some false
  kin_Book_str : W.kitOne K (.ref c_Book) (.type "str") = some false
  kin_Book_int : W.kitOne K (.ref c_Book) (.type "int") = some false
  kin_Book_bool : W.kitOne K (.ref c_Book) (.type "bool") = some false
  nf_Book_Book : W.notFirst K c_Book (.ref c_Book) = true
  nf_Book_list : W.notFirst K c_Book (.type "list") = true
  nf_Book_tuple : W.notFirst K c_Book (.type "tuple") = true
  nf_Book_str : W.notFirst K c_Book (.type "str") = true
  nf_Book_int : W.notFirst K c_Book (.type "int") = true
  nf_Book_bool : W.notFirst K c_Book (.type "bool") = true
  nf_Book_NoneType : W.notFirst K c_Book (.type "NoneType") = true
  ne_Book : W.findIn K (.ref c_Book) "__ne__" = some (some (.builtin "object.__ne__"))
  g__wall : mg "_wall" = some (.ref f__wall)
  F__wall : FunD K "_wall" "_wall" (defArgs s__wall) (defBody s__wall) (defScope s__wall) [] [] f__wall d__wall
  b__wall : Binds K d__wall ["k"] []
  g_is_name : mg "is_name" = some (.ref f_is_name)
  F_is_name : FunD K "is_name" "is_name" (defArgs s_is_name) (defBody s_is_name) (defScope s_is_name) [] [] f_is_name d_is_name
  b_is_name : Binds K d_is_name ["value"] []
  g_is_sequence : mg "is_sequence" = some (.ref f_is_sequence)
  F_is_sequence : FunD K "is_sequence" "is_sequence" (defArgs s_is_sequence) (defBody s_is_sequence) (defScope s_is_sequence) [] [] f_is_sequence d_is_sequence
  b_is_sequence : Binds K d_is_sequence ["value"] []
  g_are_names : mg "are_names" = some (.ref f_are_names)
  F_are_names : FunD K "are_names" "are_names" (defArgs s_are_names) (defBody s_are_names) (defScope s_are_names) [] [] f_are_names d_are_names
  b_are_names : Binds K d_are_names ["value"] []
  g_is_targets : mg "is_targets" = some (.ref f_is_targets)
  F_is_targets : FunD K "is_targets" "is_targets" (defArgs s_is_targets) (defBody s_is_targets) (defScope s_is_targets) [] [] f_is_targets d_is_targets
  b_is_targets : Binds K d_is_targets ["value", "values"] []
  g_are_kinds : mg "are_kinds" = some (.ref f_are_kinds)
  F_are_kinds : FunD K "are_kinds" "are_kinds" (defArgs s_are_kinds) (defBody s_are_kinds) (defScope s_are_kinds) [] [] f_are_kinds d_are_kinds
  b_are_kinds : Binds K d_are_kinds ["value", "values"] []
  g_are_some : mg "are_some" = some (.ref f_are_some)
  F_are_some : FunD K "are_some" "are_some" (defArgs s_are_some) (defBody s_are_some) (defScope s_are_some) [] [] f_are_some d_are_some
  b_are_some : Binds K d_are_some ["value", "names"] []
  g_is_book_line : mg "is_book_line" = some (.ref f_is_book_line)
  F_is_book_line : FunD K "is_book_line" "is_book_line" (defArgs s_is_book_line) (defBody s_is_book_line) (defScope s_is_book_line) [] [] f_is_book_line d_is_book_line
  b_is_book_line : Binds K d_is_book_line ["words"] []
  g_may_follow : mg "may_follow" = some (.ref f_may_follow)
  F_may_follow : FunD K "may_follow" "may_follow" (defArgs s_may_follow) (defBody s_may_follow) (defScope s_may_follow) [] [] f_may_follow d_may_follow
  b_may_follow : Binds K d_may_follow ["word", "last"] []
  g__law_deal : mg "_law_deal" = some (.ref f__law_deal)
  F__law_deal : FunD K "_law_deal" "_law_deal" (defArgs s__law_deal) (defBody s__law_deal) (defScope s__law_deal) [] [] f__law_deal d__law_deal
  b__law_deal : Binds K d__law_deal ["_law_script", "_law_base"] []
  g__law_draw : mg "_law_draw" = some (.ref f__law_draw)
  F__law_draw : FunD K "_law_draw" "_law_draw" (defArgs s__law_draw) (defBody s__law_draw) (defScope s__law_draw) [] [] f__law_draw d__law_draw
  b__law_draw : Binds K d__law_draw ["_law_deal_here", "_law_amount"] []
  g__law_mixed : mg "_law_mixed" = some (.ref f__law_mixed)
  F__law_mixed : FunD K "_law_mixed" "_law_mixed" (defArgs s__law_mixed) (defBody s__law_mixed) (defScope s__law_mixed) [] [] f__law_mixed d__law_mixed
  b__law_mixed : Binds K d__law_mixed ["_law_deal_here", "_law_some"] []
  g__law_words : mg "_law_words" = some (.ref f__law_words)
  F__law_words : FunD K "_law_words" "_law_words" (defArgs s__law_words) (defBody s__law_words) (defScope s__law_words) [] [] f__law_words d__law_words
  b__law_words : Binds K d__law_words ["_law_deal_here", "_law_many"] []
  g__law_book : mg "_law_book" = some (.ref f__law_book)
  F__law_book : FunD K "_law_book" "_law_book" (defArgs s__law_book) (defBody s__law_book) (defScope s__law_book) [] [] f__law_book d__law_book
  b__law_book : Binds K d__law_book ["_law_deal_here", "_law_most"] []
  g__law_any : mg "_law_any" = some (.ref f__law_any)
  F__law_any : FunD K "_law_any" "_law_any" (defArgs s__law_any) (defBody s__law_any) (defScope s__law_any) [] [] f__law_any d__law_any
  b__law_any : Binds K d__law_any ["_law_deal_here", "_law_deep"] []
  g__law_told : mg "_law_told" = some (.ref f__law_told)
  F__law_told : FunD K "_law_told" "_law_told" (defArgs s__law_told) (defBody s__law_told) (defScope s__law_told) [] [] f__law_told d__law_told
  b__law_told : Binds K d__law_told ["_law_book_here", "_law_kind", "_law_value"] []
  g_law : mg "law" = some (.ref f_law)
  F_law : FunD K "law" "law" (defArgs s_law) (defBody s_law) (defScope s_law) [] [] f_law d_law
  b_law : Binds K d_law ["_law_script"] []
  mk_Book : Mk K c_Book f_Book_init
  F_Book_init : FunD K "__init__" "Book.__init__" (defArgs s_Book_init) (defBody s_Book_init) (defScope s_Book_init) [.ref e_Book_init_0, .ref e_Book_init_1] [] f_Book_init d_Book_init
  b_Book_init : Binds K d_Book_init ["self", "choices", "kinds", "loose", "others"] []
  b0_Book_init : ∃ ds, Vals [.ref e_Book_init_0, .ref e_Book_init_1] ds ∧ Binds K d_Book_init ["self", "choices", "kinds", "loose", "others"] ds
  b1_Book_init : ∃ ds, Vals [.ref e_Book_init_1] ds ∧ Binds K d_Book_init ["self", "choices", "kinds", "loose", "others"] ds
  m_Book_read : CMetT K c_Book "read" f_Book_read
  F_Book_read : FunD K "read" "Book.read" (defArgs s_Book_read) (defBody s_Book_read) (defScope s_Book_read) [] [] f_Book_read d_Book_read
  b_Book_read : Binds K d_Book_read ["cls", "text"] []
  m_Book_need_kind : Meth K c_Book "need_kind" f_Book_need_kind
  F_Book_need_kind : FunD K "need_kind" "Book.need_kind" (defArgs s_Book_need_kind) (defBody s_Book_need_kind) (defScope s_Book_need_kind) [] [] f_Book_need_kind d_Book_need_kind
  b_Book_need_kind : Binds K d_Book_need_kind ["self", "kind"] []
  m_Book_target : Meth K c_Book "target" f_Book_target
  F_Book_target : FunD K "target" "Book.target" (defArgs s_Book_target) (defBody s_Book_target) (defScope s_Book_target) [] [] f_Book_target d_Book_target
  b_Book_target : Binds K d_Book_target ["self", "kind", "value"] []
  m_Book_without : Meth K c_Book "without" f_Book_without
  F_Book_without : FunD K "without" "Book.without" (defArgs s_Book_without) (defBody s_Book_without) (defScope s_Book_without) [] [] f_Book_without d_Book_without
  b_Book_without : Binds K d_Book_without ["self", "kind"] []
  m_Book_eq : W.findIn K (.ref c_Book) "__eq__" = some (some (.ref f_Book_eq))
  n_Book_eq : W.isFn K (.ref f_Book_eq) = true
  F_Book_eq : FunD K "__eq__" "Book.__eq__" (defArgs s_Book_eq) (defBody s_Book_eq) (defScope s_Book_eq) [] [] f_Book_eq d_Book_eq
  b_Book_eq : Binds K d_Book_eq ["self", "other"] []
  m_Book_str : W.findIn K (.ref c_Book) "__str__" = some (some (.ref f_Book_str))
  n_Book_str : W.isFn K (.ref f_Book_str) = true
  F_Book_str : FunD K "__str__" "Book.__str__" (defArgs s_Book_str) (defBody s_Book_str) (defScope s_Book_str) [] [] f_Book_str d_Book_str
  b_Book_str : Binds K d_Book_str ["self"] []
  c_HastyError : Addr
  g_HastyError : mg "HastyError" = some (.ref c_HastyError)
  c_InvalidBook : Addr
  g_InvalidBook : mg "InvalidBook" = some (.ref c_InvalidBook)
  xf_InvalidBook : XfC K c_InvalidBook
  xc_InvalidBook : ExcC K c_InvalidBook
  na_InvalidBook_word : W.findIn K (.ref c_InvalidBook) "word" = some none
  x_InvalidBook : XCls prog K mg c_InvalidBook "word"
  c_InvalidText : Addr
  g_InvalidText : mg "InvalidText" = some (.ref c_InvalidText)
  xf_InvalidText : XfC K c_InvalidText
  xc_InvalidText : ExcC K c_InvalidText
  na_InvalidText_at : W.findIn K (.ref c_InvalidText) "at" = some none
  x_InvalidText : XCls prog K mg c_InvalidText "at"
  c_NoKind : Addr
  g_NoKind : mg "NoKind" = some (.ref c_NoKind)
  isx_NoKind_KeyError : W.kitOne K (.ref c_NoKind) (.type "KeyError") = some true
  xf_NoKind : XfC K c_NoKind
  xc_NoKind : ExcC K c_NoKind
  na_NoKind_name : W.findIn K (.ref c_NoKind) "name" = some none
  x_NoKind : XCls prog K mg c_NoKind "name"
  exm_NoKind_NoKind : W.exmOne K (.ref c_NoKind) (.ref c_NoKind) = some true
  isx_NoKind_NoKind : W.kitOne K (.ref c_NoKind) (.ref c_NoKind) = some true
  isx_NoKind_HastyError : W.kitOne K (.ref c_NoKind) (.ref c_HastyError) = some false
  z_abs : mg "abs" = none
  z_all : mg "all" = none
  z_enumerate : mg "enumerate" = none
  z_int : mg "int" = none
  z_isinstance : mg "isinstance" = none
  z_len : mg "len" = none
  z_list : mg "list" = none
  z_range : mg "range" = none
  z_repr : mg "repr" = none
  z_str : mg "str" = none
  z_tuple : mg "tuple" = none
  z_KeyError : mg "KeyError" = none
  g_SMALL : ∃ t, mg "SMALL" = some (.str "abcdefghijklmnopqrstuvwxyz" t)
  g_BARRED : mg "BARRED" = some (.ref a_BARRED)
  r_BARRED : ∀ H : Hp, Rep K H (.tup (barred.map D.str)) (.ref a_BARRED)
  re_Book_init_0 : ∀ H : Hp, Rep K H (.tup []) (.ref e_Book_init_0)
  re_Book_init_1 : ∀ H : Hp, Rep K H (.tup []) (.ref e_Book_init_1)
theorem tp_mk {P : Program} {K : W.Frag} {h : Heap} {mg : Str → Option Value} (X : K.In h) (G : h.Ns mainGlobals mg) {c_Book f__wall f_is_name f_is_sequence f_are_names f_is_targets f_are_kinds f_are_some f_is_book_line f_may_follow f__law_deal f__law_draw f__law_mixed f__law_words f__law_book f__law_any f__law_told f_law f_Book_init f_Book_read f_Book_need_kind f_Book_target f_Book_without f_Book_eq f_Book_str tD_Book_init a_BARRED e_Book_init_0 e_Book_init_1 : Addr} {od__wall od_is_name od_is_sequence od_are_names od_is_targets od_are_kinds od_are_some od_is_book_line od_may_follow od__law_deal od__law_draw od__law_mixed od__law_words od__law_book od__law_any od__law_told od_law od_Book_init od_Book_read od_Book_need_kind od_Book_target od_Book_without od_Book_eq od_Book_str an__wall an_is_name an_is_sequence an_are_names an_is_targets an_are_kinds an_are_some an_is_book_line an_may_follow an__law_deal an__law_draw an__law_mixed an__law_words an__law_book an__law_any an__law_told an_law an_Book_init an_Book_read an_Book_need_kind an_Book_target an_Book_without an_Book_eq an_Book_str dT_Book_init oda_BARRED ode_Book_init_0 ode_Book_init_1 : Option Addr} {sl__wall sl_is_name sl_is_sequence sl_are_names sl_is_targets sl_are_kinds sl_are_some sl_is_book_line sl_may_follow sl__law_deal sl__law_draw sl__law_mixed sl__law_words sl__law_book sl__law_any sl__law_told sl_law sl_Book_init sl_Book_read sl_Book_need_kind sl_Book_target sl_Book_without sl_Book_eq sl_Book_str sT_Book_init sa_BARRED se_Book_init_0 se_Book_init_1 : Array (Option Value)} {oc__wall kV__wall dc__wall pm__wall cd__wall ct__wall oc_is_name kV_is_name dc_is_name pm_is_name cd_is_name ct_is_name oc_is_sequence kV_is_sequence dc_is_sequence pm_is_sequence cd_is_sequence ct_is_sequence oc_are_names kV_are_names dc_are_names pm_are_names cd_are_names ct_are_names oc_is_targets kV_is_targets dc_is_targets pm_is_targets cd_is_targets ct_is_targets oc_are_kinds kV_are_kinds dc_are_kinds pm_are_kinds cd_are_kinds ct_are_kinds oc_are_some kV_are_some dc_are_some pm_are_some cd_are_some ct_are_some oc_is_book_line kV_is_book_line dc_is_book_line pm_is_book_line cd_is_book_line ct_is_book_line oc_may_follow kV_may_follow dc_may_follow pm_may_follow cd_may_follow ct_may_follow oc__law_deal kV__law_deal dc__law_deal pm__law_deal cd__law_deal ct__law_deal oc__law_draw kV__law_draw dc__law_draw pm__law_draw cd__law_draw ct__law_draw oc__law_mixed kV__law_mixed dc__law_mixed pm__law_mixed cd__law_mixed ct__law_mixed oc__law_words kV__law_words dc__law_words pm__law_words cd__law_words ct__law_words oc__law_book kV__law_book dc__law_book pm__law_book cd__law_book ct__law_book oc__law_any kV__law_any dc__law_any pm__law_any cd__law_any ct__law_any oc__law_told kV__law_told dc__law_told pm__law_told cd__law_told ct__law_told oc_law kV_law dc_law pm_law cd_law ct_law oc_Book_init kV_Book_init dc_Book_init pm_Book_init cd_Book_init ct_Book_init oc_Book_read kV_Book_read dc_Book_read pm_Book_read cd_Book_read ct_Book_read oc_Book_need_kind kV_Book_need_kind dc_Book_need_kind pm_Book_need_kind cd_Book_need_kind ct_Book_need_kind oc_Book_target kV_Book_target dc_Book_target pm_Book_target cd_Book_target ct_Book_target oc_Book_without kV_Book_without dc_Book_without pm_Book_without cd_Book_without ct_Book_without oc_Book_eq kV_Book_eq dc_Book_eq pm_Book_eq cd_Book_eq ct_Book_eq oc_Book_str kV_Book_str dc_Book_str pm_Book_str cd_Book_str ct_Book_str oT_Book_init : Value} {nT_Book_init na_BARRED ne_Book_init_0 ne_Book_init_1 : Nat} {cd_Book : ClassData} {tk_SMALL tk_BARRED_0 tk_BARRED_1 tk_BARRED_2 tk_BARRED_3 tk_BARRED_4 tk_BARRED_5 tk_BARRED_6 : Tok} {c_HastyError c_InvalidBook N_InvalidBook c_InvalidText N_InvalidText c_NoKind N_NoKind cda_InvalidBook cc_InvalidBook cda_InvalidText cc_InvalidText cda_NoKind cc_NoKind f_InvalidBook_init f_InvalidText_init f_NoKind_init : Addr} {nm_InvalidBook qn_InvalidBook nm_InvalidText qn_InvalidText nm_NoKind qn_NoKind file_InvalidBook file_InvalidText file_NoKind : Str} {bs_InvalidBook bm_InvalidBook sub_InvalidBook bs_InvalidText bm_InvalidText sub_InvalidText bs_NoKind bm_NoKind sub_NoKind : List Value} {sn_InvalidBook sn_InvalidText sn_NoKind : List Str} {ab_InvalidBook ab_InvalidText ab_NoKind : Bool} {col_InvalidBook col_InvalidText col_NoKind : Option Bool} {dd_InvalidBook dd_InvalidText dd_NoKind od_InvalidBook an_InvalidBook cdd_InvalidBook cld_InvalidBook od_InvalidText an_InvalidText cdd_InvalidText cld_InvalidText od_NoKind an_NoKind cdd_NoKind cld_NoKind : Option Addr} {k0_InvalidBook k1_InvalidBook k2_InvalidBook k3_InvalidBook k5_InvalidBook k0_InvalidText k1_InvalidText k2_InvalidText k3_InvalidText k5_InvalidText k0_NoKind k1_NoKind k2_NoKind k3_NoKind k5_NoKind : Option Value} {oc_InvalidBook kV_InvalidBook dc_InvalidBook pm_InvalidBook ct_InvalidBook ccl_InvalidBook cl0_InvalidBook oc_InvalidText kV_InvalidText dc_InvalidText pm_InvalidText ct_InvalidText ccl_InvalidText cl0_InvalidText oc_NoKind kV_NoKind dc_NoKind pm_NoKind ct_NoKind ccl_NoKind cl0_NoKind : Value} {sl_InvalidBook ccs_InvalidBook csl_InvalidBook sl_InvalidText ccs_InvalidText csl_InvalidText sl_NoKind ccs_NoKind csl_NoKind : Array (Option Value)} {vs_InvalidBook vs_InvalidText vs_NoKind : Array Value} {tf_InvalidBook tf_InvalidText tf_NoKind : Tok} {cd_HastyError : ClassData} {cp_Book_read : Addr} {rs_Book_read : List Value}
    (cnn : W.specialIn K (.builtin "object.__class__") "__get__" = some (some (.builtin "getset_descriptor.__get__"))) (ctt : W.takesIn K (.builtin "object.__class__") = some true)
    (a_Book : W.nsIn K mainGlobals "Book" = some (some (.ref c_Book)))
    (pg_Book : W.plainGet K c_Book Str.empty = true)
    (hd_Book : W.hasDictIn K c_Book = true)
    (po_Book : W.plainOver K c_Book = true)
    (sa_Book : W.findIn K (.ref c_Book) "__setattr__" = some (some (.builtin "object.__setattr__")))
    (ca_Book : W.findIn K (.ref c_Book) "__class__" = some (some (.builtin "object.__class__")))
    (cm_Book : W.mroIn K c_Book (.type "object") = some true)
    (na_Book_choices : W.findIn K (.ref c_Book) "choices" = some none)
    (na_Book_kinds : W.findIn K (.ref c_Book) "kinds" = some none)
    (na_Book_targets : W.findIn K (.ref c_Book) "targets" = some none)
    (na_Book_loose : W.findIn K (.ref c_Book) "loose" = some none)
    (na_Book_others : W.findIn K (.ref c_Book) "others" = some none)
    (ss_Book_list : W.subIn K (.type "list") (.ref c_Book) = some false)
    (ss_Book_tuple : W.subIn K (.type "tuple") (.ref c_Book) = some false)
    (ss_Book_str : W.subIn K (.type "str") (.ref c_Book) = some false)
    (ss_Book_int : W.subIn K (.type "int") (.ref c_Book) = some false)
    (ss_Book_bool : W.subIn K (.type "bool") (.ref c_Book) = some false)
    (ss_Book_NoneType : W.subIn K (.type "NoneType") (.ref c_Book) = some false)
    (sk_Book_list : W.subIn K (.ref c_Book) (.type "list") = some false)
    (sk_Book_tuple : W.subIn K (.ref c_Book) (.type "tuple") = some false)
    (sk_Book_str : W.subIn K (.ref c_Book) (.type "str") = some false)
    (sk_Book_int : W.subIn K (.ref c_Book) (.type "int") = some false)
    (sk_Book_bool : W.subIn K (.ref c_Book) (.type "bool") = some false)
    (cl_Book : W.clsIn K c_Book = some cd_Book)
    (ty_Book : W.typeIn K (.ref c_Book) = some (.type "type"))
    (nf_Book_Book : W.notFirst K c_Book (.ref c_Book) = true)
    (nf_Book_list : W.notFirst K c_Book (.type "list") = true)
    (nf_Book_tuple : W.notFirst K c_Book (.type "tuple") = true)
    (nf_Book_str : W.notFirst K c_Book (.type "str") = true)
    (nf_Book_int : W.notFirst K c_Book (.type "int") = true)
    (nf_Book_bool : W.notFirst K c_Book (.type "bool") = true)
    (nf_Book_NoneType : W.notFirst K c_Book (.type "NoneType") = true)
    (ne_Book : W.findIn K (.ref c_Book) "__ne__" = some (some (.builtin "object.__ne__")))
    (a__wall : W.nsIn K mainGlobals "_wall" = some (some (.ref f__wall)))
    (l__wall : K.lookup f__wall = some ⟨oc__wall, od__wall, .func (W.fnOf "_wall" "_wall" (defArgs s__wall) (defBody s__wall) (defScope s__wall) .none kV__wall dc__wall pm__wall an__wall cd__wall ct__wall), sl__wall⟩)
    (cc__wall : W.codeIn K cd__wall "_wall" = true)
    (k__wall : W.keepIn K (.ref f__wall) = true)
    (a_is_name : W.nsIn K mainGlobals "is_name" = some (some (.ref f_is_name)))
    (l_is_name : K.lookup f_is_name = some ⟨oc_is_name, od_is_name, .func (W.fnOf "is_name" "is_name" (defArgs s_is_name) (defBody s_is_name) (defScope s_is_name) .none kV_is_name dc_is_name pm_is_name an_is_name cd_is_name ct_is_name), sl_is_name⟩)
    (cc_is_name : W.codeIn K cd_is_name "is_name" = true)
    (k_is_name : W.keepIn K (.ref f_is_name) = true)
    (a_is_sequence : W.nsIn K mainGlobals "is_sequence" = some (some (.ref f_is_sequence)))
    (l_is_sequence : K.lookup f_is_sequence = some ⟨oc_is_sequence, od_is_sequence, .func (W.fnOf "is_sequence" "is_sequence" (defArgs s_is_sequence) (defBody s_is_sequence) (defScope s_is_sequence) .none kV_is_sequence dc_is_sequence pm_is_sequence an_is_sequence cd_is_sequence ct_is_sequence), sl_is_sequence⟩)
    (cc_is_sequence : W.codeIn K cd_is_sequence "is_sequence" = true)
    (k_is_sequence : W.keepIn K (.ref f_is_sequence) = true)
    (a_are_names : W.nsIn K mainGlobals "are_names" = some (some (.ref f_are_names)))
    (l_are_names : K.lookup f_are_names = some ⟨oc_are_names, od_are_names, .func (W.fnOf "are_names" "are_names" (defArgs s_are_names) (defBody s_are_names) (defScope s_are_names) .none kV_are_names dc_are_names pm_are_names an_are_names cd_are_names ct_are_names), sl_are_names⟩)
    (cc_are_names : W.codeIn K cd_are_names "are_names" = true)
    (k_are_names : W.keepIn K (.ref f_are_names) = true)
    (a_is_targets : W.nsIn K mainGlobals "is_targets" = some (some (.ref f_is_targets)))
    (l_is_targets : K.lookup f_is_targets = some ⟨oc_is_targets, od_is_targets, .func (W.fnOf "is_targets" "is_targets" (defArgs s_is_targets) (defBody s_is_targets) (defScope s_is_targets) .none kV_is_targets dc_is_targets pm_is_targets an_is_targets cd_is_targets ct_is_targets), sl_is_targets⟩)
    (cc_is_targets : W.codeIn K cd_is_targets "is_targets" = true)
    (k_is_targets : W.keepIn K (.ref f_is_targets) = true)
    (a_are_kinds : W.nsIn K mainGlobals "are_kinds" = some (some (.ref f_are_kinds)))
    (l_are_kinds : K.lookup f_are_kinds = some ⟨oc_are_kinds, od_are_kinds, .func (W.fnOf "are_kinds" "are_kinds" (defArgs s_are_kinds) (defBody s_are_kinds) (defScope s_are_kinds) .none kV_are_kinds dc_are_kinds pm_are_kinds an_are_kinds cd_are_kinds ct_are_kinds), sl_are_kinds⟩)
    (cc_are_kinds : W.codeIn K cd_are_kinds "are_kinds" = true)
    (k_are_kinds : W.keepIn K (.ref f_are_kinds) = true)
    (a_are_some : W.nsIn K mainGlobals "are_some" = some (some (.ref f_are_some)))
    (l_are_some : K.lookup f_are_some = some ⟨oc_are_some, od_are_some, .func (W.fnOf "are_some" "are_some" (defArgs s_are_some) (defBody s_are_some) (defScope s_are_some) .none kV_are_some dc_are_some pm_are_some an_are_some cd_are_some ct_are_some), sl_are_some⟩)
    (cc_are_some : W.codeIn K cd_are_some "are_some" = true)
    (k_are_some : W.keepIn K (.ref f_are_some) = true)
    (a_is_book_line : W.nsIn K mainGlobals "is_book_line" = some (some (.ref f_is_book_line)))
    (l_is_book_line : K.lookup f_is_book_line = some ⟨oc_is_book_line, od_is_book_line, .func (W.fnOf "is_book_line" "is_book_line" (defArgs s_is_book_line) (defBody s_is_book_line) (defScope s_is_book_line) .none kV_is_book_line dc_is_book_line pm_is_book_line an_is_book_line cd_is_book_line ct_is_book_line), sl_is_book_line⟩)
    (cc_is_book_line : W.codeIn K cd_is_book_line "is_book_line" = true)
    (k_is_book_line : W.keepIn K (.ref f_is_book_line) = true)
    (a_may_follow : W.nsIn K mainGlobals "may_follow" = some (some (.ref f_may_follow)))
    (l_may_follow : K.lookup f_may_follow = some ⟨oc_may_follow, od_may_follow, .func (W.fnOf "may_follow" "may_follow" (defArgs s_may_follow) (defBody s_may_follow) (defScope s_may_follow) .none kV_may_follow dc_may_follow pm_may_follow an_may_follow cd_may_follow ct_may_follow), sl_may_follow⟩)
    (cc_may_follow : W.codeIn K cd_may_follow "may_follow" = true)
    (k_may_follow : W.keepIn K (.ref f_may_follow) = true)
    (a__law_deal : W.nsIn K mainGlobals "_law_deal" = some (some (.ref f__law_deal)))
    (l__law_deal : K.lookup f__law_deal = some ⟨oc__law_deal, od__law_deal, .func (W.fnOf "_law_deal" "_law_deal" (defArgs s__law_deal) (defBody s__law_deal) (defScope s__law_deal) .none kV__law_deal dc__law_deal pm__law_deal an__law_deal cd__law_deal ct__law_deal), sl__law_deal⟩)
    (cc__law_deal : W.codeIn K cd__law_deal "_law_deal" = true)
    (k__law_deal : W.keepIn K (.ref f__law_deal) = true)
    (a__law_draw : W.nsIn K mainGlobals "_law_draw" = some (some (.ref f__law_draw)))
    (l__law_draw : K.lookup f__law_draw = some ⟨oc__law_draw, od__law_draw, .func (W.fnOf "_law_draw" "_law_draw" (defArgs s__law_draw) (defBody s__law_draw) (defScope s__law_draw) .none kV__law_draw dc__law_draw pm__law_draw an__law_draw cd__law_draw ct__law_draw), sl__law_draw⟩)
    (cc__law_draw : W.codeIn K cd__law_draw "_law_draw" = true)
    (k__law_draw : W.keepIn K (.ref f__law_draw) = true)
    (a__law_mixed : W.nsIn K mainGlobals "_law_mixed" = some (some (.ref f__law_mixed)))
    (l__law_mixed : K.lookup f__law_mixed = some ⟨oc__law_mixed, od__law_mixed, .func (W.fnOf "_law_mixed" "_law_mixed" (defArgs s__law_mixed) (defBody s__law_mixed) (defScope s__law_mixed) .none kV__law_mixed dc__law_mixed pm__law_mixed an__law_mixed cd__law_mixed ct__law_mixed), sl__law_mixed⟩)
    (cc__law_mixed : W.codeIn K cd__law_mixed "_law_mixed" = true)
    (k__law_mixed : W.keepIn K (.ref f__law_mixed) = true)
    (a__law_words : W.nsIn K mainGlobals "_law_words" = some (some (.ref f__law_words)))
    (l__law_words : K.lookup f__law_words = some ⟨oc__law_words, od__law_words, .func (W.fnOf "_law_words" "_law_words" (defArgs s__law_words) (defBody s__law_words) (defScope s__law_words) .none kV__law_words dc__law_words pm__law_words an__law_words cd__law_words ct__law_words), sl__law_words⟩)
    (cc__law_words : W.codeIn K cd__law_words "_law_words" = true)
    (k__law_words : W.keepIn K (.ref f__law_words) = true)
    (a__law_book : W.nsIn K mainGlobals "_law_book" = some (some (.ref f__law_book)))
    (l__law_book : K.lookup f__law_book = some ⟨oc__law_book, od__law_book, .func (W.fnOf "_law_book" "_law_book" (defArgs s__law_book) (defBody s__law_book) (defScope s__law_book) .none kV__law_book dc__law_book pm__law_book an__law_book cd__law_book ct__law_book), sl__law_book⟩)
    (cc__law_book : W.codeIn K cd__law_book "_law_book" = true)
    (k__law_book : W.keepIn K (.ref f__law_book) = true)
    (a__law_any : W.nsIn K mainGlobals "_law_any" = some (some (.ref f__law_any)))
    (l__law_any : K.lookup f__law_any = some ⟨oc__law_any, od__law_any, .func (W.fnOf "_law_any" "_law_any" (defArgs s__law_any) (defBody s__law_any) (defScope s__law_any) .none kV__law_any dc__law_any pm__law_any an__law_any cd__law_any ct__law_any), sl__law_any⟩)
    (cc__law_any : W.codeIn K cd__law_any "_law_any" = true)
    (k__law_any : W.keepIn K (.ref f__law_any) = true)
    (a__law_told : W.nsIn K mainGlobals "_law_told" = some (some (.ref f__law_told)))
    (l__law_told : K.lookup f__law_told = some ⟨oc__law_told, od__law_told, .func (W.fnOf "_law_told" "_law_told" (defArgs s__law_told) (defBody s__law_told) (defScope s__law_told) .none kV__law_told dc__law_told pm__law_told an__law_told cd__law_told ct__law_told), sl__law_told⟩)
    (cc__law_told : W.codeIn K cd__law_told "_law_told" = true)
    (k__law_told : W.keepIn K (.ref f__law_told) = true)
    (a_law : W.nsIn K mainGlobals "law" = some (some (.ref f_law)))
    (l_law : K.lookup f_law = some ⟨oc_law, od_law, .func (W.fnOf "law" "law" (defArgs s_law) (defBody s_law) (defScope s_law) .none kV_law dc_law pm_law an_law cd_law ct_law), sl_law⟩)
    (cc_law : W.codeIn K cd_law "law" = true)
    (k_law : W.keepIn K (.ref f_law) = true)
    (a_Book_init : W.findIn K (.ref c_Book) "__init__" = some (some (.ref f_Book_init)))
    (n_Book_init : W.isFn K (.ref f_Book_init) = true)
    (mm_Book : W.makesIn K c_Book = true)
    (kc_Book : W.keepIn K (.ref c_Book) = true)
    (l_Book_init : K.lookup f_Book_init = some ⟨oc_Book_init, od_Book_init, .func (W.fnOf "__init__" "Book.__init__" (defArgs s_Book_init) (defBody s_Book_init) (defScope s_Book_init) (.ref tD_Book_init) kV_Book_init dc_Book_init pm_Book_init an_Book_init cd_Book_init ct_Book_init), sl_Book_init⟩)
    (lT_Book_init : K.lookup tD_Book_init = some ⟨oT_Book_init, dT_Book_init, .seq #[.ref e_Book_init_0, .ref e_Book_init_1] nT_Book_init, sT_Book_init⟩)
    (cc_Book_init : W.codeIn K cd_Book_init "Book.__init__" = true)
    (k_Book_init : W.keepIn K (.ref f_Book_init) = true)
    (cr_Book_read : W.readsIn K c_Book (.type "type") = true)
    (cg_Book_read : W.specialIn K (.ref c_Book) "__getattribute__" = some (some (.builtin "type.__getattribute__")))
    (ca_Book_read : W.findCls K (.ref c_Book) (.type "type") "read" = some (.get (.builtin "classmethod.__get__") (.ref cp_Book_read) .none (.ref c_Book)))
    (rc_Book_read : W.recIn K cp_Book_read "classmethod" = some (.ref f_Book_read :: rs_Book_read))
    (fi_Book_read : W.fnIn K f_Book_read = true)
    (l_Book_read : K.lookup f_Book_read = some ⟨oc_Book_read, od_Book_read, .func (W.fnOf "read" "Book.read" (defArgs s_Book_read) (defBody s_Book_read) (defScope s_Book_read) .none kV_Book_read dc_Book_read pm_Book_read an_Book_read cd_Book_read ct_Book_read), sl_Book_read⟩)
    (cc_Book_read : W.codeIn K cd_Book_read "Book.read" = true)
    (k_Book_read : W.keepIn K (.ref f_Book_read) = true)
    (a_Book_need_kind : W.findIn K (.ref c_Book) "need_kind" = some (some (.ref f_Book_need_kind)))
    (n_Book_need_kind : W.isFn K (.ref f_Book_need_kind) = true)
    (l_Book_need_kind : K.lookup f_Book_need_kind = some ⟨oc_Book_need_kind, od_Book_need_kind, .func (W.fnOf "need_kind" "Book.need_kind" (defArgs s_Book_need_kind) (defBody s_Book_need_kind) (defScope s_Book_need_kind) .none kV_Book_need_kind dc_Book_need_kind pm_Book_need_kind an_Book_need_kind cd_Book_need_kind ct_Book_need_kind), sl_Book_need_kind⟩)
    (cc_Book_need_kind : W.codeIn K cd_Book_need_kind "Book.need_kind" = true)
    (k_Book_need_kind : W.keepIn K (.ref f_Book_need_kind) = true)
    (a_Book_target : W.findIn K (.ref c_Book) "target" = some (some (.ref f_Book_target)))
    (n_Book_target : W.isFn K (.ref f_Book_target) = true)
    (l_Book_target : K.lookup f_Book_target = some ⟨oc_Book_target, od_Book_target, .func (W.fnOf "target" "Book.target" (defArgs s_Book_target) (defBody s_Book_target) (defScope s_Book_target) .none kV_Book_target dc_Book_target pm_Book_target an_Book_target cd_Book_target ct_Book_target), sl_Book_target⟩)
    (cc_Book_target : W.codeIn K cd_Book_target "Book.target" = true)
    (k_Book_target : W.keepIn K (.ref f_Book_target) = true)
    (a_Book_without : W.findIn K (.ref c_Book) "without" = some (some (.ref f_Book_without)))
    (n_Book_without : W.isFn K (.ref f_Book_without) = true)
    (l_Book_without : K.lookup f_Book_without = some ⟨oc_Book_without, od_Book_without, .func (W.fnOf "without" "Book.without" (defArgs s_Book_without) (defBody s_Book_without) (defScope s_Book_without) .none kV_Book_without dc_Book_without pm_Book_without an_Book_without cd_Book_without ct_Book_without), sl_Book_without⟩)
    (cc_Book_without : W.codeIn K cd_Book_without "Book.without" = true)
    (k_Book_without : W.keepIn K (.ref f_Book_without) = true)
    (a_Book_eq : W.findIn K (.ref c_Book) "__eq__" = some (some (.ref f_Book_eq)))
    (n_Book_eq : W.isFn K (.ref f_Book_eq) = true)
    (l_Book_eq : K.lookup f_Book_eq = some ⟨oc_Book_eq, od_Book_eq, .func (W.fnOf "__eq__" "Book.__eq__" (defArgs s_Book_eq) (defBody s_Book_eq) (defScope s_Book_eq) .none kV_Book_eq dc_Book_eq pm_Book_eq an_Book_eq cd_Book_eq ct_Book_eq), sl_Book_eq⟩)
    (cc_Book_eq : W.codeIn K cd_Book_eq "Book.__eq__" = true)
    (k_Book_eq : W.keepIn K (.ref f_Book_eq) = true)
    (a_Book_str : W.findIn K (.ref c_Book) "__str__" = some (some (.ref f_Book_str)))
    (n_Book_str : W.isFn K (.ref f_Book_str) = true)
    (l_Book_str : K.lookup f_Book_str = some ⟨oc_Book_str, od_Book_str, .func (W.fnOf "__str__" "Book.__str__" (defArgs s_Book_str) (defBody s_Book_str) (defScope s_Book_str) .none kV_Book_str dc_Book_str pm_Book_str an_Book_str cd_Book_str ct_Book_str), sl_Book_str⟩)
    (cc_Book_str : W.codeIn K cd_Book_str "Book.__str__" = true)
    (k_Book_str : W.keepIn K (.ref f_Book_str) = true)
    (a_HastyError : W.nsIn K mainGlobals "HastyError" = some (some (.ref c_HastyError)))
    (cl_HastyError : W.clsIn K c_HastyError = some cd_HastyError)
    (ty_HastyError : W.typeIn K (.ref c_HastyError) = some (.type "type"))
    (zt_super : (P.main.scope.names.lookup ("super" : Str)).isSome = false)
    (zz_super : W.nsIn K mainGlobals "super" = some none)
    (zz_any : W.nsIn K cStatics "thirdparty.any" = some none)
    (a_InvalidBook : W.nsIn K mainGlobals "InvalidBook" = some (some (.ref c_InvalidBook)))
    (lc_InvalidBook : K.lookup c_InvalidBook = some (excClassObj nm_InvalidBook qn_InvalidBook c_InvalidBook N_InvalidBook bs_InvalidBook bm_InvalidBook true sn_InvalidBook sub_InvalidBook ab_InvalidBook col_InvalidBook dd_InvalidBook k0_InvalidBook k1_InvalidBook k2_InvalidBook k3_InvalidBook k5_InvalidBook "ValueError.__new__"))
    (rv_InvalidBook : W.excTail [.type "ValueError", .type "Exception", .type "BaseException", .type "object"] bm_InvalidBook = true)
    (sa_InvalidBook : W.findIn K (.ref c_InvalidBook) "__setattr__" = some (some (.builtin "object.__setattr__")))
    (ex_InvalidBook : W.subIn K (.ref c_InvalidBook) (.type "BaseException") = some true)
    (ty_InvalidBook : W.typeIn K (.ref c_InvalidBook) = some (.type "type"))
    (kc_InvalidBook : W.keepIn K (.ref c_InvalidBook) = true)
    (ga_InvalidBook : W.findIn K (.ref c_InvalidBook) "__getattribute__" = some (some (.builtin "BaseException.__getattribute__")))
    (gg_InvalidBook : W.findIn K (.ref c_InvalidBook) "__getattr__" = some none)
    (hd_InvalidBook : W.hasDictIn K c_InvalidBook = true)
    (ca_InvalidBook : W.findIn K (.ref c_InvalidBook) "__class__" = some (some (.builtin "object.__class__")))
    (cm_InvalidBook : W.mroIn K c_InvalidBook (.type "object") = some true)
    (na_InvalidBook_word : W.findIn K (.ref c_InvalidBook) "word" = some none)
    (ai_InvalidBook : W.findIn K (.ref c_InvalidBook) "__init__" = some (some (.ref f_InvalidBook_init)))
    (ti_InvalidBook : W.typeIn K (.ref f_InvalidBook_init) = some (.type "function"))
    (lf_InvalidBook : K.lookup f_InvalidBook_init = some ⟨oc_InvalidBook, od_InvalidBook, .func (W.ksFn "__init__" "InvalidBook.__init__" (defArgs s_InvalidBook_init) (defBody s_InvalidBook_init) (defScope s_InvalidBook_init) .none kV_InvalidBook dc_InvalidBook pm_InvalidBook an_InvalidBook (.ref cda_InvalidBook) ct_InvalidBook cc_InvalidBook), sl_InvalidBook⟩)
    (ld_InvalidBook : K.lookup cda_InvalidBook = some ⟨ccl_InvalidBook, cdd_InvalidBook, .fields vs_InvalidBook, ccs_InvalidBook⟩)
    (hv_InvalidBook : vs_InvalidBook[2]? = some (.str file_InvalidBook tf_InvalidBook))
    (hf_InvalidBook : ((P.main.file : Str) == file_InvalidBook) = true)
    (ci_InvalidBook : W.codeIn K (.ref cda_InvalidBook) "InvalidBook.__init__" = true)
    (lk_InvalidBook : K.lookup cc_InvalidBook = some ⟨cl0_InvalidBook, cld_InvalidBook, .cell (some (.ref c_InvalidBook)), csl_InvalidBook⟩)
    (si_InvalidBook : W.ks_superIn K c_InvalidBook c_InvalidBook "__init__" = some (some (.builtin "ValueError.__init__")))
    (sv_InvalidBook : W.subIn K (.ref c_InvalidBook) (.type "ValueError") = some true)
    (a_InvalidText : W.nsIn K mainGlobals "InvalidText" = some (some (.ref c_InvalidText)))
    (lc_InvalidText : K.lookup c_InvalidText = some (excClassObj nm_InvalidText qn_InvalidText c_InvalidText N_InvalidText bs_InvalidText bm_InvalidText true sn_InvalidText sub_InvalidText ab_InvalidText col_InvalidText dd_InvalidText k0_InvalidText k1_InvalidText k2_InvalidText k3_InvalidText k5_InvalidText "ValueError.__new__"))
    (rv_InvalidText : W.excTail [.type "ValueError", .type "Exception", .type "BaseException", .type "object"] bm_InvalidText = true)
    (sa_InvalidText : W.findIn K (.ref c_InvalidText) "__setattr__" = some (some (.builtin "object.__setattr__")))
    (ex_InvalidText : W.subIn K (.ref c_InvalidText) (.type "BaseException") = some true)
    (ty_InvalidText : W.typeIn K (.ref c_InvalidText) = some (.type "type"))
    (kc_InvalidText : W.keepIn K (.ref c_InvalidText) = true)
    (ga_InvalidText : W.findIn K (.ref c_InvalidText) "__getattribute__" = some (some (.builtin "BaseException.__getattribute__")))
    (gg_InvalidText : W.findIn K (.ref c_InvalidText) "__getattr__" = some none)
    (hd_InvalidText : W.hasDictIn K c_InvalidText = true)
    (ca_InvalidText : W.findIn K (.ref c_InvalidText) "__class__" = some (some (.builtin "object.__class__")))
    (cm_InvalidText : W.mroIn K c_InvalidText (.type "object") = some true)
    (na_InvalidText_at : W.findIn K (.ref c_InvalidText) "at" = some none)
    (ai_InvalidText : W.findIn K (.ref c_InvalidText) "__init__" = some (some (.ref f_InvalidText_init)))
    (ti_InvalidText : W.typeIn K (.ref f_InvalidText_init) = some (.type "function"))
    (lf_InvalidText : K.lookup f_InvalidText_init = some ⟨oc_InvalidText, od_InvalidText, .func (W.ksFn "__init__" "InvalidText.__init__" (defArgs s_InvalidText_init) (defBody s_InvalidText_init) (defScope s_InvalidText_init) .none kV_InvalidText dc_InvalidText pm_InvalidText an_InvalidText (.ref cda_InvalidText) ct_InvalidText cc_InvalidText), sl_InvalidText⟩)
    (ld_InvalidText : K.lookup cda_InvalidText = some ⟨ccl_InvalidText, cdd_InvalidText, .fields vs_InvalidText, ccs_InvalidText⟩)
    (hv_InvalidText : vs_InvalidText[2]? = some (.str file_InvalidText tf_InvalidText))
    (hf_InvalidText : ((P.main.file : Str) == file_InvalidText) = true)
    (ci_InvalidText : W.codeIn K (.ref cda_InvalidText) "InvalidText.__init__" = true)
    (lk_InvalidText : K.lookup cc_InvalidText = some ⟨cl0_InvalidText, cld_InvalidText, .cell (some (.ref c_InvalidText)), csl_InvalidText⟩)
    (si_InvalidText : W.ks_superIn K c_InvalidText c_InvalidText "__init__" = some (some (.builtin "ValueError.__init__")))
    (sv_InvalidText : W.subIn K (.ref c_InvalidText) (.type "ValueError") = some true)
    (a_NoKind : W.nsIn K mainGlobals "NoKind" = some (some (.ref c_NoKind)))
    (lc_NoKind : K.lookup c_NoKind = some (excClassObj nm_NoKind qn_NoKind c_NoKind N_NoKind bs_NoKind bm_NoKind true sn_NoKind sub_NoKind ab_NoKind col_NoKind dd_NoKind k0_NoKind k1_NoKind k2_NoKind k3_NoKind k5_NoKind "LookupError.__new__"))
    (rv_NoKind : W.excTail [.type "KeyError", .type "LookupError", .type "Exception", .type "BaseException", .type "object"] bm_NoKind = true)
    (sa_NoKind : W.findIn K (.ref c_NoKind) "__setattr__" = some (some (.builtin "object.__setattr__")))
    (ex_NoKind : W.subIn K (.ref c_NoKind) (.type "BaseException") = some true)
    (ty_NoKind : W.typeIn K (.ref c_NoKind) = some (.type "type"))
    (kc_NoKind : W.keepIn K (.ref c_NoKind) = true)
    (ga_NoKind : W.findIn K (.ref c_NoKind) "__getattribute__" = some (some (.builtin "BaseException.__getattribute__")))
    (gg_NoKind : W.findIn K (.ref c_NoKind) "__getattr__" = some none)
    (hd_NoKind : W.hasDictIn K c_NoKind = true)
    (ca_NoKind : W.findIn K (.ref c_NoKind) "__class__" = some (some (.builtin "object.__class__")))
    (cm_NoKind : W.mroIn K c_NoKind (.type "object") = some true)
    (su_NoKind_KeyError : W.subIn K (.ref c_NoKind) (.type "KeyError") = some true)
    (na_NoKind_name : W.findIn K (.ref c_NoKind) "name" = some none)
    (ai_NoKind : W.findIn K (.ref c_NoKind) "__init__" = some (some (.ref f_NoKind_init)))
    (ti_NoKind : W.typeIn K (.ref f_NoKind_init) = some (.type "function"))
    (lf_NoKind : K.lookup f_NoKind_init = some ⟨oc_NoKind, od_NoKind, .func (W.ksFn "__init__" "NoKind.__init__" (defArgs s_NoKind_init) (defBody s_NoKind_init) (defScope s_NoKind_init) .none kV_NoKind dc_NoKind pm_NoKind an_NoKind (.ref cda_NoKind) ct_NoKind cc_NoKind), sl_NoKind⟩)
    (ld_NoKind : K.lookup cda_NoKind = some ⟨ccl_NoKind, cdd_NoKind, .fields vs_NoKind, ccs_NoKind⟩)
    (hv_NoKind : vs_NoKind[2]? = some (.str file_NoKind tf_NoKind))
    (hf_NoKind : ((P.main.file : Str) == file_NoKind) = true)
    (ci_NoKind : W.codeIn K (.ref cda_NoKind) "NoKind.__init__" = true)
    (lk_NoKind : K.lookup cc_NoKind = some ⟨cl0_NoKind, cld_NoKind, .cell (some (.ref c_NoKind)), csl_NoKind⟩)
    (si_NoKind : W.ks_superIn K c_NoKind c_NoKind "__init__" = some (some (.builtin "KeyError.__init__")))
    (sv_NoKind : W.subIn K (.ref c_NoKind) (.type "KeyError") = some true)
    (su_NoKind_NoKind : W.subIn K (.ref c_NoKind) (.ref c_NoKind) = some true)
    (su_NoKind_HastyError : W.subIn K (.ref c_NoKind) (.ref c_HastyError) = some false)
    (nq_NoKind_HastyError : ((.ref c_NoKind : Value) == .ref c_HastyError) = false)
    (z_abs : W.nsIn K mainGlobals "abs" = some none)
    (z_all : W.nsIn K mainGlobals "all" = some none)
    (z_enumerate : W.nsIn K mainGlobals "enumerate" = some none)
    (z_int : W.nsIn K mainGlobals "int" = some none)
    (z_isinstance : W.nsIn K mainGlobals "isinstance" = some none)
    (z_len : W.nsIn K mainGlobals "len" = some none)
    (z_list : W.nsIn K mainGlobals "list" = some none)
    (z_range : W.nsIn K mainGlobals "range" = some none)
    (z_repr : W.nsIn K mainGlobals "repr" = some none)
    (z_str : W.nsIn K mainGlobals "str" = some none)
    (z_tuple : W.nsIn K mainGlobals "tuple" = some none)
    (z_KeyError : W.nsIn K mainGlobals "KeyError" = some none)
    (a_nSMALL : W.nsIn K mainGlobals "SMALL" = some (some (.str "abcdefghijklmnopqrstuvwxyz" tk_SMALL)))
    (a_nBARRED : W.nsIn K mainGlobals "BARRED" = some (some (.ref a_BARRED)))
    (l_BARRED : K.lookup a_BARRED = some ⟨.type "tuple", oda_BARRED, .seq (#[.str "no" tk_BARRED_0, .str "yes" tk_BARRED_1, .str "do" tk_BARRED_2, .str "if" tk_BARRED_3, .str "and" tk_BARRED_4, .str "not" tk_BARRED_5, .str "then" tk_BARRED_6] : Array Value) na_BARRED, sa_BARRED⟩)
    (le_Book_init_0 : K.lookup e_Book_init_0 = some ⟨.type "tuple", ode_Book_init_0, .seq (#[] : Array Value) ne_Book_init_0, se_Book_init_0⟩)
    (le_Book_init_1 : K.lookup e_Book_init_1 = some ⟨.type "tuple", ode_Book_init_1, .seq (#[] : Array Value) ne_Book_init_1, se_Book_init_1⟩)
    : Nonempty (Tp P K mg) :=
  ⟨{ c_Book := c_Book, c_HastyError := c_HastyError, c_InvalidBook := c_InvalidBook, c_InvalidText := c_InvalidText, c_NoKind := c_NoKind, f__wall := f__wall, f_is_name := f_is_name, f_is_sequence := f_is_sequence, f_are_names := f_are_names, f_is_targets := f_is_targets, f_are_kinds := f_are_kinds, f_are_some := f_are_some, f_is_book_line := f_is_book_line, f_may_follow := f_may_follow, f__law_deal := f__law_deal, f__law_draw := f__law_draw, f__law_mixed := f__law_mixed, f__law_words := f__law_words, f__law_book := f__law_book, f__law_any := f__law_any, f__law_told := f__law_told, f_law := f_law, f_Book_init := f_Book_init, f_Book_read := f_Book_read, f_Book_need_kind := f_Book_need_kind, f_Book_target := f_Book_target, f_Book_without := f_Book_without, f_Book_eq := f_Book_eq, f_Book_str := f_Book_str, d__wall := W.fnOf "_wall" "_wall" (defArgs s__wall) (defBody s__wall) (defScope s__wall) .none kV__wall dc__wall pm__wall an__wall cd__wall ct__wall, d_is_name := W.fnOf "is_name" "is_name" (defArgs s_is_name) (defBody s_is_name) (defScope s_is_name) .none kV_is_name dc_is_name pm_is_name an_is_name cd_is_name ct_is_name, d_is_sequence := W.fnOf "is_sequence" "is_sequence" (defArgs s_is_sequence) (defBody s_is_sequence) (defScope s_is_sequence) .none kV_is_sequence dc_is_sequence pm_is_sequence an_is_sequence cd_is_sequence ct_is_sequence, d_are_names := W.fnOf "are_names" "are_names" (defArgs s_are_names) (defBody s_are_names) (defScope s_are_names) .none kV_are_names dc_are_names pm_are_names an_are_names cd_are_names ct_are_names, d_is_targets := W.fnOf "is_targets" "is_targets" (defArgs s_is_targets) (defBody s_is_targets) (defScope s_is_targets) .none kV_is_targets dc_is_targets pm_is_targets an_is_targets cd_is_targets ct_is_targets, d_are_kinds := W.fnOf "are_kinds" "are_kinds" (defArgs s_are_kinds) (defBody s_are_kinds) (defScope s_are_kinds) .none kV_are_kinds dc_are_kinds pm_are_kinds an_are_kinds cd_are_kinds ct_are_kinds, d_are_some := W.fnOf "are_some" "are_some" (defArgs s_are_some) (defBody s_are_some) (defScope s_are_some) .none kV_are_some dc_are_some pm_are_some an_are_some cd_are_some ct_are_some, d_is_book_line := W.fnOf "is_book_line" "is_book_line" (defArgs s_is_book_line) (defBody s_is_book_line) (defScope s_is_book_line) .none kV_is_book_line dc_is_book_line pm_is_book_line an_is_book_line cd_is_book_line ct_is_book_line, d_may_follow := W.fnOf "may_follow" "may_follow" (defArgs s_may_follow) (defBody s_may_follow) (defScope s_may_follow) .none kV_may_follow dc_may_follow pm_may_follow an_may_follow cd_may_follow ct_may_follow, d__law_deal := W.fnOf "_law_deal" "_law_deal" (defArgs s__law_deal) (defBody s__law_deal) (defScope s__law_deal) .none kV__law_deal dc__law_deal pm__law_deal an__law_deal cd__law_deal ct__law_deal, d__law_draw := W.fnOf "_law_draw" "_law_draw" (defArgs s__law_draw) (defBody s__law_draw) (defScope s__law_draw) .none kV__law_draw dc__law_draw pm__law_draw an__law_draw cd__law_draw ct__law_draw, d__law_mixed := W.fnOf "_law_mixed" "_law_mixed" (defArgs s__law_mixed) (defBody s__law_mixed) (defScope s__law_mixed) .none kV__law_mixed dc__law_mixed pm__law_mixed an__law_mixed cd__law_mixed ct__law_mixed, d__law_words := W.fnOf "_law_words" "_law_words" (defArgs s__law_words) (defBody s__law_words) (defScope s__law_words) .none kV__law_words dc__law_words pm__law_words an__law_words cd__law_words ct__law_words, d__law_book := W.fnOf "_law_book" "_law_book" (defArgs s__law_book) (defBody s__law_book) (defScope s__law_book) .none kV__law_book dc__law_book pm__law_book an__law_book cd__law_book ct__law_book, d__law_any := W.fnOf "_law_any" "_law_any" (defArgs s__law_any) (defBody s__law_any) (defScope s__law_any) .none kV__law_any dc__law_any pm__law_any an__law_any cd__law_any ct__law_any, d__law_told := W.fnOf "_law_told" "_law_told" (defArgs s__law_told) (defBody s__law_told) (defScope s__law_told) .none kV__law_told dc__law_told pm__law_told an__law_told cd__law_told ct__law_told, d_law := W.fnOf "law" "law" (defArgs s_law) (defBody s_law) (defScope s_law) .none kV_law dc_law pm_law an_law cd_law ct_law, d_Book_init := W.fnOf "__init__" "Book.__init__" (defArgs s_Book_init) (defBody s_Book_init) (defScope s_Book_init) (.ref tD_Book_init) kV_Book_init dc_Book_init pm_Book_init an_Book_init cd_Book_init ct_Book_init, d_Book_read := W.fnOf "read" "Book.read" (defArgs s_Book_read) (defBody s_Book_read) (defScope s_Book_read) .none kV_Book_read dc_Book_read pm_Book_read an_Book_read cd_Book_read ct_Book_read, d_Book_need_kind := W.fnOf "need_kind" "Book.need_kind" (defArgs s_Book_need_kind) (defBody s_Book_need_kind) (defScope s_Book_need_kind) .none kV_Book_need_kind dc_Book_need_kind pm_Book_need_kind an_Book_need_kind cd_Book_need_kind ct_Book_need_kind, d_Book_target := W.fnOf "target" "Book.target" (defArgs s_Book_target) (defBody s_Book_target) (defScope s_Book_target) .none kV_Book_target dc_Book_target pm_Book_target an_Book_target cd_Book_target ct_Book_target, d_Book_without := W.fnOf "without" "Book.without" (defArgs s_Book_without) (defBody s_Book_without) (defScope s_Book_without) .none kV_Book_without dc_Book_without pm_Book_without an_Book_without cd_Book_without ct_Book_without, d_Book_eq := W.fnOf "__eq__" "Book.__eq__" (defArgs s_Book_eq) (defBody s_Book_eq) (defScope s_Book_eq) .none kV_Book_eq dc_Book_eq pm_Book_eq an_Book_eq cd_Book_eq ct_Book_eq, d_Book_str := W.fnOf "__str__" "Book.__str__" (defArgs s_Book_str) (defBody s_Book_str) (defScope s_Book_str) .none kV_Book_str dc_Book_str pm_Book_str an_Book_str cd_Book_str ct_Book_str, a_BARRED := a_BARRED, e_Book_init_0 := e_Book_init_0, e_Book_init_1 := e_Book_init_1,
       i_Book := ⟨⟨pg_Book, hd_Book, po_Book, sa_Book⟩, ca_Book, cnn, ctt, cm_Book⟩,
       g_Book := W.mg_of X G a_Book,
       na_Book_choices := na_Book_choices,
       na_Book_kinds := na_Book_kinds,
       na_Book_targets := na_Book_targets,
       na_Book_loose := na_Book_loose,
       na_Book_others := na_Book_others,
       isi_Book_list := kit_ref cl_Book ty_Book ss_Book_list (by first | rfl | decide | (exact bne_of (by decide))),
       isi_Book_tuple := kit_ref cl_Book ty_Book ss_Book_tuple (by first | rfl | decide | (exact bne_of (by decide))),
       isi_Book_str := kit_ref cl_Book ty_Book ss_Book_str (by first | rfl | decide | (exact bne_of (by decide))),
       isi_Book_int := kit_ref cl_Book ty_Book ss_Book_int (by first | rfl | decide | (exact bne_of (by decide))),
       isi_Book_bool := kit_ref cl_Book ty_Book ss_Book_bool (by first | rfl | decide | (exact bne_of (by decide))),
       isi_Book_NoneType := kit_ref cl_Book ty_Book ss_Book_NoneType (by first | rfl | decide | (exact bne_of (by decide))),
       kin_Book_list := kit_tyF sk_Book_list (by decide +kernel),
       kin_Book_tuple := kit_tyF sk_Book_tuple (by decide +kernel),
       kin_Book_str := kit_tyF sk_Book_str (by decide +kernel),
       kin_Book_int := kit_tyF sk_Book_int (by decide +kernel),
       kin_Book_bool := kit_tyF sk_Book_bool (by decide +kernel),
       nf_Book_Book := nf_Book_Book,
       nf_Book_list := nf_Book_list,
       nf_Book_tuple := nf_Book_tuple,
       nf_Book_str := nf_Book_str,
       nf_Book_int := nf_Book_int,
       nf_Book_bool := nf_Book_bool,
       nf_Book_NoneType := nf_Book_NoneType,
       ne_Book := ne_Book,
       g__wall := W.mg_of X G a__wall,
       F__wall := funD0 l__wall cc__wall k__wall,
       b__wall := (funD0 l__wall cc__wall k__wall).bindsN fun _ _ _ _ _ _ us hl => match us, hl with | [_], _ => rfl,
       g_is_name := W.mg_of X G a_is_name,
       F_is_name := funD0 l_is_name cc_is_name k_is_name,
       b_is_name := (funD0 l_is_name cc_is_name k_is_name).bindsN fun _ _ _ _ _ _ us hl => match us, hl with | [_], _ => rfl,
       g_is_sequence := W.mg_of X G a_is_sequence,
       F_is_sequence := funD0 l_is_sequence cc_is_sequence k_is_sequence,
       b_is_sequence := (funD0 l_is_sequence cc_is_sequence k_is_sequence).bindsN fun _ _ _ _ _ _ us hl => match us, hl with | [_], _ => rfl,
       g_are_names := W.mg_of X G a_are_names,
       F_are_names := funD0 l_are_names cc_are_names k_are_names,
       b_are_names := (funD0 l_are_names cc_are_names k_are_names).bindsN fun _ _ _ _ _ _ us hl => match us, hl with | [_], _ => rfl,
       g_is_targets := W.mg_of X G a_is_targets,
       F_is_targets := funD0 l_is_targets cc_is_targets k_is_targets,
       b_is_targets := (funD0 l_is_targets cc_is_targets k_is_targets).bindsN fun _ _ _ _ _ _ us hl => match us, hl with | [_, _], _ => rfl,
       g_are_kinds := W.mg_of X G a_are_kinds,
       F_are_kinds := funD0 l_are_kinds cc_are_kinds k_are_kinds,
       b_are_kinds := (funD0 l_are_kinds cc_are_kinds k_are_kinds).bindsN fun _ _ _ _ _ _ us hl => match us, hl with | [_, _], _ => rfl,
       g_are_some := W.mg_of X G a_are_some,
       F_are_some := funD0 l_are_some cc_are_some k_are_some,
       b_are_some := (funD0 l_are_some cc_are_some k_are_some).bindsN fun _ _ _ _ _ _ us hl => match us, hl with | [_, _], _ => rfl,
       g_is_book_line := W.mg_of X G a_is_book_line,
       F_is_book_line := funD0 l_is_book_line cc_is_book_line k_is_book_line,
       b_is_book_line := (funD0 l_is_book_line cc_is_book_line k_is_book_line).bindsN fun _ _ _ _ _ _ us hl => match us, hl with | [_], _ => rfl,
       g_may_follow := W.mg_of X G a_may_follow,
       F_may_follow := funD0 l_may_follow cc_may_follow k_may_follow,
       b_may_follow := (funD0 l_may_follow cc_may_follow k_may_follow).bindsN fun _ _ _ _ _ _ us hl => match us, hl with | [_, _], _ => rfl,
       g__law_deal := W.mg_of X G a__law_deal,
       F__law_deal := funD0 l__law_deal cc__law_deal k__law_deal,
       b__law_deal := (funD0 l__law_deal cc__law_deal k__law_deal).bindsN fun _ _ _ _ _ _ us hl => match us, hl with | [_, _], _ => rfl,
       g__law_draw := W.mg_of X G a__law_draw,
       F__law_draw := funD0 l__law_draw cc__law_draw k__law_draw,
       b__law_draw := (funD0 l__law_draw cc__law_draw k__law_draw).bindsN fun _ _ _ _ _ _ us hl => match us, hl with | [_, _], _ => rfl,
       g__law_mixed := W.mg_of X G a__law_mixed,
       F__law_mixed := funD0 l__law_mixed cc__law_mixed k__law_mixed,
       b__law_mixed := (funD0 l__law_mixed cc__law_mixed k__law_mixed).bindsN fun _ _ _ _ _ _ us hl => match us, hl with | [_, _], _ => rfl,
       g__law_words := W.mg_of X G a__law_words,
       F__law_words := funD0 l__law_words cc__law_words k__law_words,
       b__law_words := (funD0 l__law_words cc__law_words k__law_words).bindsN fun _ _ _ _ _ _ us hl => match us, hl with | [_, _], _ => rfl,
       g__law_book := W.mg_of X G a__law_book,
       F__law_book := funD0 l__law_book cc__law_book k__law_book,
       b__law_book := (funD0 l__law_book cc__law_book k__law_book).bindsN fun _ _ _ _ _ _ us hl => match us, hl with | [_, _], _ => rfl,
       g__law_any := W.mg_of X G a__law_any,
       F__law_any := funD0 l__law_any cc__law_any k__law_any,
       b__law_any := (funD0 l__law_any cc__law_any k__law_any).bindsN fun _ _ _ _ _ _ us hl => match us, hl with | [_, _], _ => rfl,
       g__law_told := W.mg_of X G a__law_told,
       F__law_told := funD0 l__law_told cc__law_told k__law_told,
       b__law_told := (funD0 l__law_told cc__law_told k__law_told).bindsN fun _ _ _ _ _ _ us hl => match us, hl with | [_, _, _], _ => rfl,
       g_law := W.mg_of X G a_law,
       F_law := funD0 l_law cc_law k_law,
       b_law := (funD0 l_law cc_law k_law).bindsN fun _ _ _ _ _ _ us hl => match us, hl with | [_], _ => rfl,
       mk_Book := ⟨mm_Book, a_Book_init, n_Book_init, kc_Book⟩,
       F_Book_init := funD1 l_Book_init cc_Book_init k_Book_init lT_Book_init (show Vals [V.ref e_Book_init_0, V.ref e_Book_init_1] [Value.ref e_Book_init_0, Value.ref e_Book_init_1] from (.cons rfl (.cons rfl .nil))) (by simp),
       b_Book_init := binds_all (ps := ["self", "choices", "kinds", "loose", "others"]) (funD1 l_Book_init cc_Book_init k_Book_init lT_Book_init (show Vals [V.ref e_Book_init_0, V.ref e_Book_init_1] [Value.ref e_Book_init_0, Value.ref e_Book_init_1] from (.cons rfl (.cons rfl .nil))) (by simp)) 5 rfl (by simp) fun _ _ _ _ _ _ _ us its hu hi => match us, its, hu, hi with | [_, _, _, _, _], [_, _], _, _ => ⟨_, rfl, rfl⟩,
       b0_Book_init := (funD1 l_Book_init cc_Book_init k_Book_init lT_Book_init (show Vals [V.ref e_Book_init_0, V.ref e_Book_init_1] [Value.ref e_Book_init_0, Value.ref e_Book_init_1] from (.cons rfl (.cons rfl .nil))) (by simp)).binds1 (ps := ["self", "choices", "kinds", "loose", "others"]) 3 0 (by simp) rfl fun _ _ _ _ _ _ _ us its hu hi => match us, its, hu, hi with | [_, _, _], [_, _], _, _ => ⟨_, rfl, rfl⟩,
       b1_Book_init := (funD1 l_Book_init cc_Book_init k_Book_init lT_Book_init (show Vals [V.ref e_Book_init_0, V.ref e_Book_init_1] [Value.ref e_Book_init_0, Value.ref e_Book_init_1] from (.cons rfl (.cons rfl .nil))) (by simp)).binds1 (ps := ["self", "choices", "kinds", "loose", "others"]) 4 1 (by simp) rfl fun _ _ _ _ _ _ _ us its hu hi => match us, its, hu, hi with | [_, _, _, _], [_, _], _, _ => ⟨_, rfl, rfl⟩,
       m_Book_read := ⟨_, _, ⟨cr_Book_read, cg_Book_read⟩, ca_Book_read, ⟨_, rc_Book_read⟩, fi_Book_read⟩,
       F_Book_read := funD0 l_Book_read cc_Book_read k_Book_read,
       b_Book_read := (funD0 l_Book_read cc_Book_read k_Book_read).bindsN fun _ _ _ _ _ _ us hl => match us, hl with | [_, _], _ => rfl,
       m_Book_need_kind := ⟨a_Book_need_kind, n_Book_need_kind, k_Book_need_kind⟩,
       F_Book_need_kind := funD0 l_Book_need_kind cc_Book_need_kind k_Book_need_kind,
       b_Book_need_kind := (funD0 l_Book_need_kind cc_Book_need_kind k_Book_need_kind).bindsN fun _ _ _ _ _ _ us hl => match us, hl with | [_, _], _ => rfl,
       m_Book_target := ⟨a_Book_target, n_Book_target, k_Book_target⟩,
       F_Book_target := funD0 l_Book_target cc_Book_target k_Book_target,
       b_Book_target := (funD0 l_Book_target cc_Book_target k_Book_target).bindsN fun _ _ _ _ _ _ us hl => match us, hl with | [_, _, _], _ => rfl,
       m_Book_without := ⟨a_Book_without, n_Book_without, k_Book_without⟩,
       F_Book_without := funD0 l_Book_without cc_Book_without k_Book_without,
       b_Book_without := (funD0 l_Book_without cc_Book_without k_Book_without).bindsN fun _ _ _ _ _ _ us hl => match us, hl with | [_, _], _ => rfl,
       m_Book_eq := a_Book_eq,
       n_Book_eq := n_Book_eq,
       F_Book_eq := funD0 l_Book_eq cc_Book_eq k_Book_eq,
       b_Book_eq := (funD0 l_Book_eq cc_Book_eq k_Book_eq).bindsN fun _ _ _ _ _ _ us hl => match us, hl with | [_, _], _ => rfl,
       m_Book_str := a_Book_str,
       n_Book_str := n_Book_str,
       F_Book_str := funD0 l_Book_str cc_Book_str k_Book_str,
       b_Book_str := (funD0 l_Book_str cc_Book_str k_Book_str).bindsN fun _ _ _ _ _ _ us hl => match us, hl with | [_], _ => rfl,
       g_HastyError := W.mg_of X G a_HastyError,
       g_InvalidBook := W.mg_of X G a_InvalidBook,
       xf_InvalidBook := ⟨ga_InvalidBook, gg_InvalidBook, ex_InvalidBook, hd_InvalidBook⟩,
       xc_InvalidBook := ⟨ga_InvalidBook, gg_InvalidBook, ex_InvalidBook, hd_InvalidBook, ca_InvalidBook, cnn, ctt, cm_InvalidBook⟩,
       na_InvalidBook_word := na_InvalidBook_word,
       x_InvalidBook := ⟨⟨_, _, _, _, xf_ValueError, ⟨⟨_, _, _, _, _, _, _, _, _, _, _, _, _, _, _, lc_InvalidBook, rv_InvalidBook⟩, sa_InvalidBook, ex_InvalidBook, ty_InvalidBook, kc_InvalidBook⟩⟩, _, ai_InvalidBook, ti_InvalidBook, sup_InvalidBook lc_InvalidBook rv_InvalidBook sa_InvalidBook na_InvalidBook_word lf_InvalidBook ld_InvalidBook hv_InvalidBook hf_InvalidBook ci_InvalidBook lk_InvalidBook (W.mg_none_of X G zz_super) zt_super zz_any si_InvalidBook sv_InvalidBook⟩,
       g_InvalidText := W.mg_of X G a_InvalidText,
       xf_InvalidText := ⟨ga_InvalidText, gg_InvalidText, ex_InvalidText, hd_InvalidText⟩,
       xc_InvalidText := ⟨ga_InvalidText, gg_InvalidText, ex_InvalidText, hd_InvalidText, ca_InvalidText, cnn, ctt, cm_InvalidText⟩,
       na_InvalidText_at := na_InvalidText_at,
       x_InvalidText := ⟨⟨_, _, _, _, xf_ValueError, ⟨⟨_, _, _, _, _, _, _, _, _, _, _, _, _, _, _, lc_InvalidText, rv_InvalidText⟩, sa_InvalidText, ex_InvalidText, ty_InvalidText, kc_InvalidText⟩⟩, _, ai_InvalidText, ti_InvalidText, sup_InvalidText lc_InvalidText rv_InvalidText sa_InvalidText na_InvalidText_at lf_InvalidText ld_InvalidText hv_InvalidText hf_InvalidText ci_InvalidText lk_InvalidText (W.mg_none_of X G zz_super) zt_super zz_any si_InvalidText sv_InvalidText⟩,
       g_NoKind := W.mg_of X G a_NoKind,
       isx_NoKind_KeyError := kit_tyF su_NoKind_KeyError (by decide +kernel),
       xf_NoKind := ⟨ga_NoKind, gg_NoKind, ex_NoKind, hd_NoKind⟩,
       xc_NoKind := ⟨ga_NoKind, gg_NoKind, ex_NoKind, hd_NoKind, ca_NoKind, cnn, ctt, cm_NoKind⟩,
       na_NoKind_name := na_NoKind_name,
       x_NoKind := ⟨⟨_, _, _, _, xf_KeyError, ⟨⟨_, _, _, _, _, _, _, _, _, _, _, _, _, _, _, lc_NoKind, rv_NoKind⟩, sa_NoKind, ex_NoKind, ty_NoKind, kc_NoKind⟩⟩, _, ai_NoKind, ti_NoKind, sup_NoKind lc_NoKind rv_NoKind sa_NoKind na_NoKind_name lf_NoKind ld_NoKind hv_NoKind hf_NoKind ci_NoKind lk_NoKind (W.mg_none_of X G zz_super) zt_super zz_any si_NoKind sv_NoKind⟩,
       exm_NoKind_NoKind := W.exm_ref ex_NoKind hd_NoKind ty_NoKind su_NoKind_NoKind,
       isx_NoKind_NoKind := kit_self,
       isx_NoKind_HastyError := kit_ref cl_HastyError ty_HastyError su_NoKind_HastyError nq_NoKind_HastyError,
       z_abs := W.mg_none_of X G z_abs,
       z_all := W.mg_none_of X G z_all,
       z_enumerate := W.mg_none_of X G z_enumerate,
       z_int := W.mg_none_of X G z_int,
       z_isinstance := W.mg_none_of X G z_isinstance,
       z_len := W.mg_none_of X G z_len,
       z_list := W.mg_none_of X G z_list,
       z_range := W.mg_none_of X G z_range,
       z_repr := W.mg_none_of X G z_repr,
       z_str := W.mg_none_of X G z_str,
       z_tuple := W.mg_none_of X G z_tuple,
       z_KeyError := W.mg_none_of X G z_KeyError,
       g_SMALL := ⟨tk_SMALL, W.mg_of X G a_nSMALL⟩,
       g_BARRED := W.mg_of X G a_nBARRED,
       r_BARRED := fun H => rep_ktup (vs := barred.map V.str) l_BARRED (by simp) (.cons ⟨_, rfl⟩ (.cons ⟨_, rfl⟩ (.cons ⟨_, rfl⟩ (.cons ⟨_, rfl⟩ (.cons ⟨_, rfl⟩ (.cons ⟨_, rfl⟩ (.cons ⟨_, rfl⟩ .nil))))))) (Reps.strs barred),
       re_Book_init_0 := fun H => rep_ktup le_Book_init_0 (by simp) .nil Reps.nil,
       re_Book_init_1 := fun H => rep_ktup le_Book_init_1 (by simp) .nil Reps.nil
     }⟩
theorem tp_fa {P : Program} {K : W.Frag} {mg : Str → Option Value} {fa : Addr} (h : mg "law" = some (.ref fa)) (T : Nonempty (Tp P K mg)) : ∃ T : Tp P K mg, T.f_law = fa := by
  obtain ⟨T⟩ := T
  refine ⟨T, ?_⟩
  have e := h.symm.trans T.g_law
  cases e
  rfl
theorem law_binds {P : Program} {K : W.Frag} {mg : Str → Option Value} (T : Tp P K mg) (s : Shared) (u : Value) : BindsTo s T.d_law ⟨[u], []⟩ [("_law_script", u)] := T.F_law.bindsA (ps := ["_law_script"]) (fun _ _ _ _ _ _ us hl => match us, hl with | [_], _ => rfl) s [u] rfl
end Kk

set_option maxHeartbeats 4000000
namespace Kk
open PySem L2 PySem.Spec PyProof.Rows Tr
set_option hygiene false
local macro_rules | `(tactic| walk_at "le") => `(tactic| repeat (first | exact LeR.nil | refine LeR.keep ?_ | refine LeR.drop ?_))
section
variable {P : Program} {w : World} {K : W.Frag} {mg : Str → Option Value} {base : Heap}
def w__law_deal_a2 (T : Tp P K mg) (x_cells : D) (Qx : QX) (Q : QE) (s1 : D) : MB := mRet (eDrop (eArgs (aCons (eApp (eLc1 (iApp (eVal x_cells) pIter) (fun x_cell1 => (tBin (eVal x_cell1) (eBin (eVal (.int 10)) (eVal (.int 18)) oPow) oGe)) (fun x_cell1 => (eVal x_cell1))) pRevC) (aCons (eVal s1) aNil)) pLstC)) Q
def w__law_deal_l1 (T : Tp P K mg)  (Qx : QX) (Q : QE) (d1 : D) (s1 : D) (nx1 : (D) → MB) (bk1 : (D) → MB) : MB := mSet (eBin (eArgs (aCons (eBin (eBin (eVal s1) (eVal (.int 16807)) oMul) (eBin (eArgs (aCons (eVal d1) aNil) (on1 pInt1)) (eVal (.int 2147483629)) oMod) oAdd) aNil) (on1 pInt1)) (eVal (.int 2147483647)) oMod) fun x_blend1 => mPart (nx1 x_blend1)
def w__law_deal (T : Tp P K mg) (x_script x_base : D) (Qx : QX) (Q : QE) : MB := mSet (eLc (iApp (eSl (eVal x_script) (oSome (eVal x_base)) (oSome (eVal (.int 63)))) pIter) (fun x_cell => (eArgs (aCons (eVal x_cell) aNil) (on1 pAbs1)))) fun x_cells => mSet (eBin (eVal (.int 15485863)) (eBin (eVal (.int 11)) (eVal x_base) oMul) oAdd) fun x_blend => mFor (α := D) (iApp (eVal x_cells) pIter) (w__law_deal_l1 T Qx Q) x_blend (w__law_deal_a2 T x_cells Qx Q)
def fw__law_deal (T : Tp P K mg) : FS := fun ds C Q Qx => match ds with
  | [x_script, x_base] => w__law_deal T x_script x_base Qx Q C
  | _ => False
theorem cl__law_deal (T : Tp P K mg) {x_script x_base : D} {Qx : QX} {C : Cells} {Q : QE} (h : w__law_deal T x_script x_base Qx Q C) : callW (fw__law_deal T) Qx [x_script, x_base] C Q := call_all h
theorem ok__law_deal (T : Tp P K mg) : FnG P w K mg base 1 T.f__law_deal T.d__law_deal ["_law_script", "_law_base"] (fw__law_deal T) := by
  refine fnT T.F__law_deal sc__law_deal (fun ds C Q Qx h => ?_) (fun cdv A outer s H E X ds C Q hr h => ?_)
  · unfold fw__law_deal at h; split at h
    · rfl
    · exact h.elim
  · unfold fw__law_deal at h; split at h
    rotate_left
    · exact h.elim
    have hN := sc__law_deal.nd
    have hu := hu_G hr
    have hg := hr.gd
    rename_i x_script x_base
    generalize hQx : (fun cls fs C' => ∀ ρ, X.XQ cls fs ρ C' : QX) = Qx at h
    have hX : ∀ ρ cls fs C, Qx cls fs C → X.XQ cls fs ρ C := by subst hQx; exact fun ρ cls fs C h => h ρ
    clear hQx
    revert h; revert C
    show SB X _ [some x_script, some x_base, none, none, none] (w__law_deal T x_script x_base Qx Q) _
    unfold w__law_deal
    first | refine sb_setLc (r := fun x_cells => [some x_script, some x_base, some x_cells, none, none]) [("_law_cell", 4)] (.one 4) 2 rfl hN rfl rfl (sw_true rfl rfl rfl rfl) (blkOk_by rfl) (fun _ _ _ _ _ => pg_name (i := 4) hN rfl (by first | exact .inl rfl | exact .inr rfl)) (by decide) (si_iter (se_slice (se_var 0 rfl (pv 0)) (so_some (se_var 1 rfl (pv 1))) (so_some se_int))) (bd_one (r := fun x_cell => [some x_script, some x_base, none, none, some x_cell]) (fun _ => rfl) (fun x_cell _ _ _ _ _ => (se_callB (id := "abs") rfl T.z_abs (by decide +kernel) (sa_cons (se_var 4 rfl (pv 4)) sa_nil) pAbs_ok))) (fun _ => rfl) (fun x_cells => ?_) | refine sb_set (r := fun x_cells => [some x_script, some x_base, some x_cells, none, none]) 2 hN rfl (by first | exact .inl rfl | exact .inr rfl) (fun _ => rfl) (se_lc [("_law_cell", 4)] (.one 4) rfl hN (blkOk_by rfl) (fun _ _ _ _ _ => pg_name (i := 4) hN rfl (by first | exact .inl rfl | exact .inr rfl)) (by decide) (si_iter (se_slice (se_var 0 rfl (pv 0)) (so_some (se_var 1 rfl (pv 1))) (so_some se_int))) (bd_one (r := fun x_cell => [some x_script, some x_base, none, none, some x_cell]) (fun _ => rfl) (fun x_cell _ _ _ _ _ => (se_callB (id := "abs") rfl T.z_abs (by decide +kernel) (sa_cons (se_var 4 rfl (pv 4)) sa_nil) pAbs_ok)))) (fun x_cells => ?_)
    refine sb_set (r := fun x_blend => [some x_script, some x_base, some x_cells, some x_blend, none]) 3 hN rfl (by first | exact .inl rfl | exact .inr rfl) (fun _ => rfl) (se_bin se_int (se_bin se_int (se_var 1 rfl (pv 1)) oMul_ok) oAdd_ok) (fun x_blend => ?_)
    refine sb_for (α := D) (fun s1 => [some x_script, some x_base, some x_cells, some s1, none]) rfl (si_iter (se_var 2 rfl (pv 2))) (by walk_at "le") (fun d1 s1 nx1 bk1 W V hW1 hV1 => ?_) (fun s1 => ?_)
    · unfold w__law_deal_l1
      refine sg_name (r := [some x_script, some x_base, some x_cells, some s1, some d1]) 4 rfl ?_ (pg_name (i := 4) hN rfl (by first | exact .inl rfl | exact .inr rfl))
      refine sb_set (r := fun x_blend1 => [some x_script, some x_base, some x_cells, some x_blend1, some d1]) 3 hN rfl (by first | exact .inl rfl | exact .inr rfl) (fun _ => rfl) (se_bin (se_callTy (id := "int") rfl T.z_int (by decide +kernel) (sa_cons (se_bin (se_bin (se_var 3 rfl (pv 3)) se_int oMul_ok) (se_bin (se_callTy (id := "int") rfl T.z_int (by decide +kernel) (sa_cons (se_var 4 rfl (pv 4)) sa_nil) pInt_ok) se_int oMod_ok) oAdd_ok) sa_nil) pInt_ok) se_int oMod_ok) (fun x_blend1 => ?_)
      refine sb_part ?_
      exact sb_le hW1 (by walk_at "le")
    · unfold w__law_deal_a2
      exact sb_ret (se_drop (se_lstC (sa_cons (se_revC (se_lc1 [("_law_cell", 4)] (.one 4) rfl hN (blkOk_by rfl) (fun _ _ _ _ _ => pg_name (i := 4) hN rfl (by first | exact .inl rfl | exact .inr rfl)) (by decide) (si_iter (se_var 2 rfl (pv 2))) (bdT_one (r := fun x_cell1 => [some x_script, some x_base, some x_cells, some s1, some x_cell1]) (fun _ => rfl) (fun x_cell1 _ _ _ _ _ => (st_cmp (se_var 4 rfl (pv 4)) (se_bin se_int se_int oPow_ok) oGe_ok))) (bd_one (r := fun x_cell1 => [some x_script, some x_base, some x_cells, some s1, some x_cell1]) (fun _ => rfl) (fun x_cell1 _ _ _ _ _ => (se_var 4 rfl (pv 4)))))) (sa_cons (se_var 3 rfl (pv 3)) sa_nil)))) (fun _ _ h => h)
def w__law_draw_t1 (T : Tp P K mg) (x_deal_here : D) (Qx : QX) (Q : QE) (s1 : Unit) : MT := (tAnd (tBin (eBin (eVal x_deal_here) (eVal (.int 0)) pIx) (eArgs aNil pLst) (oNe noOwn)) (tBin (eBin (eBin (eVal x_deal_here) (eVal (.int 0)) pIx) (eApp (eVal (.int 1)) pNeg) pIx) (eVal (.int 0)) (oEq noOwn)))
def w__law_draw_a3 (T : Tp P K mg) (x_deal_here : D) (x_amount : D) (Qx : QX) (Q : QE) (s1 : Unit) : MB := mIf (tBin (eBin (eVal x_deal_here) (eVal (.int 0)) pIx) (eArgs aNil pLst) (oNe noOwn)) (mSet (eApp (eBin (eVal x_deal_here) (eVal (.int 0)) pIx) pPop) fun x_left => mExp (eL1 (eBin (eVal x_deal_here) (eVal (.int 0)) pIx) (eBin (eVal x_left) (eVal x_amount) oFdiv) pApp) (mRet (eBin (eArgs (aCons (eVal x_left) aNil) (on1 pInt1)) (eVal x_amount) oMod) Q)) (mSet (eBin (eArgs (aCons (eBin (eBin (eBin (eVal x_deal_here) (eVal (.int 1)) pIx) (eVal (.int 48271)) oMul) (eVal (.int 11)) oAdd) aNil) (on1 pInt1)) (eVal (.int 2147483647)) oMod) fun x_d => mSub (eVal x_deal_here) (eVal (.int 1)) x_d (mRet (eBin (eArgs (aCons (eBin (eBin (eVal x_deal_here) (eVal (.int 1)) pIx) (eVal (.int 8)) oFdiv) aNil) (on1 pInt1)) (eVal x_amount) oMod) Q))
def w__law_draw_l2 (T : Tp P K mg) (x_deal_here : D) (Qx : QX) (Q : QE) (s1 : Unit) (nx1 : (Unit) → MB) (bk1 : (Unit) → MB) : MB := mExp (eApp (eBin (eVal x_deal_here) (eVal (.int 0)) pIx) pPop) (mPart (nx1 ()))
def w__law_draw (T : Tp P K mg) (x_deal_here x_amount : D) (Qx : QX) (Q : QE) : MB := mWhile (α := Unit) (w__law_draw_t1 T x_deal_here Qx Q) (w__law_draw_l2 T x_deal_here Qx Q) () (w__law_draw_a3 T x_deal_here x_amount Qx Q)
def fw__law_draw (T : Tp P K mg) : FS := fun ds C Q Qx => match ds with
  | [x_deal_here, x_amount] => w__law_draw T x_deal_here x_amount Qx Q C
  | _ => False
theorem cl__law_draw (T : Tp P K mg) {x_deal_here x_amount : D} {Qx : QX} {C : Cells} {Q : QE} (h : w__law_draw T x_deal_here x_amount Qx Q C) : callW (fw__law_draw T) Qx [x_deal_here, x_amount] C Q := call_all h
theorem ok__law_draw (T : Tp P K mg) : FnG P w K mg base 1 T.f__law_draw T.d__law_draw ["_law_deal_here", "_law_amount"] (fw__law_draw T) := by
  refine fnT T.F__law_draw sc__law_draw (fun ds C Q Qx h => ?_) (fun cdv A outer s H E X ds C Q hr h => ?_)
  · unfold fw__law_draw at h; split at h
    · rfl
    · exact h.elim
  · unfold fw__law_draw at h; split at h
    rotate_left
    · exact h.elim
    have hN := sc__law_draw.nd
    have hu := hu_G hr
    have hg := hr.gd
    rename_i x_deal_here x_amount
    generalize hQx : (fun cls fs C' => ∀ ρ, X.XQ cls fs ρ C' : QX) = Qx at h
    have hX : ∀ ρ cls fs C, Qx cls fs C → X.XQ cls fs ρ C := by subst hQx; exact fun ρ cls fs C h => h ρ
    clear hQx
    revert h; revert C
    show SB X _ [some x_deal_here, some x_amount, none] (w__law_draw T x_deal_here x_amount Qx Q) _
    unfold w__law_draw
    refine sb_while (α := Unit) (fun s1 => [some x_deal_here, some x_amount, none]) (by walk_at "le") (fun s1 => ?_) (fun s1 nx1 bk1 W V hW1 hV1 => ?_) (fun s1 => ?_)
    · unfold w__law_draw_t1
      exact (st_p (sp_and (st_cmp (se_ix (se_var 0 rfl (pv 0)) se_int) (se_lst sa_nil) (oNe_ok hu noOwn_ok)) (sp_and1 (st_cmp (se_ix (se_ix (se_var 0 rfl (pv 0)) se_int) (se_neg se_int)) se_int (oEq_ok hu noOwn_ok)))))
    · unfold w__law_draw_l2
      refine sb_exp (se_pop (se_ix (se_var 0 rfl (pv 0)) se_int)) ?_
      refine sb_part ?_
      exact sb_le hW1 (by walk_at "le")
    · unfold w__law_draw_a3
      refine sb_if (st_cmp (se_ix (se_var 0 rfl (pv 0)) se_int) (se_lst sa_nil) (oNe_ok hu noOwn_ok)) ?_ ?_
      · refine sb_set (r := fun x_left => [some x_deal_here, some x_amount, some x_left]) 2 hN rfl (by first | exact .inl rfl | exact .inr rfl) (fun _ => rfl) (se_pop (se_ix (se_var 0 rfl (pv 0)) se_int)) (fun x_left => ?_)
        refine sb_exp (se_append (se_ix (se_var 0 rfl (pv 0)) se_int) (se_bin (se_var 2 rfl (pv 2)) (se_var 1 rfl (pv 1)) oFdiv_ok)) ?_
        exact sb_ret (se_bin (se_callTy (id := "int") rfl T.z_int (by decide +kernel) (sa_cons (se_var 2 rfl (pv 2)) sa_nil) pInt_ok) (se_var 1 rfl (pv 1)) oMod_ok) (fun _ _ h => h)
      · refine sb_more ?_
        refine sb_asg (se_bin (se_callTy (id := "int") rfl T.z_int (by decide +kernel) (sa_cons (se_bin (se_bin (se_ix (se_var 0 rfl (pv 0)) se_int) se_int oMul_ok) se_int oAdd_ok) sa_nil) pInt_ok) se_int oMod_ok) (fun x_d => ?_)
        refine sg_sub (se_var 0 rfl (pv 0)) se_int ?_
        exact sb_ret (se_bin (se_callTy (id := "int") rfl T.z_int (by decide +kernel) (sa_cons (se_bin (se_ix (se_var 0 rfl (pv 0)) se_int) se_int oFdiv_ok) sa_nil) pInt_ok) (se_var 1 rfl (pv 1)) oMod_ok) (fun _ _ h => h)
def w__law_mixed_t1 (T : Tp P K mg) (x_left : D) (Qx : QX) (Q : QE) (s1 : Unit) : MT := (tBin (eVal x_left) (eArgs aNil pLst) (oNe noOwn))
def w__law_mixed_a3 (T : Tp P K mg) (x_found : D) (Qx : QX) (Q : QE) (s1 : Unit) : MB := mFrz x_found fun x_found1 => mRet (eDrop (eVal x_found1)) Q
def w__law_mixed_l2 (T : Tp P K mg) (x_deal_here : D) (x_left : D) (x_found : D) (Qx : QX) (Q : QE) (s1 : Unit) (nx1 : (Unit) → MB) (bk1 : (Unit) → MB) : MB := mExp (eL1 (eVal x_found) (eL1 (eVal x_left) (eArgs (aCons (eVal x_deal_here) (aCons (eArgs (aCons (eVal x_left) aNil) (on1 (pLen1 no1))) aNil)) fun ds => callW (fw__law_draw T) Qx (ds ++ [])) pPopAt) pApp) (mPart (nx1 ()))
def w__law_mixed (T : Tp P K mg) (x_deal_here x_some : D) (Qx : QX) (Q : QE) : MB := mSet (eArgs (aCons (eVal x_some) aNil) (on1 pListC1)) fun x_left => mSet (eArgs aNil pLstC) fun x_found => mWhile (α := Unit) (w__law_mixed_t1 T x_left Qx Q) (w__law_mixed_l2 T x_deal_here x_left x_found Qx Q) () (w__law_mixed_a3 T x_found Qx Q)
def fw__law_mixed (T : Tp P K mg) : FS := fun ds C Q Qx => match ds with
  | [x_deal_here, x_some] => w__law_mixed T x_deal_here x_some Qx Q C
  | _ => False
theorem cl__law_mixed (T : Tp P K mg) {x_deal_here x_some : D} {Qx : QX} {C : Cells} {Q : QE} (h : w__law_mixed T x_deal_here x_some Qx Q C) : callW (fw__law_mixed T) Qx [x_deal_here, x_some] C Q := call_all h
theorem ok__law_mixed (T : Tp P K mg) : FnG P w K mg base 2 T.f__law_mixed T.d__law_mixed ["_law_deal_here", "_law_some"] (fw__law_mixed T) := by
  refine fnT T.F__law_mixed sc__law_mixed (fun ds C Q Qx h => ?_) (fun cdv A outer s H E X ds C Q hr h => ?_)
  · unfold fw__law_mixed at h; split at h
    · rfl
    · exact h.elim
  · unfold fw__law_mixed at h; split at h
    rotate_left
    · exact h.elim
    have hN := sc__law_mixed.nd
    have hu := hu_G hr
    have hg := hr.gd
    rename_i x_deal_here x_some
    generalize hQx : (fun cls fs C' => ∀ ρ, X.XQ cls fs ρ C' : QX) = Qx at h
    have hX : ∀ ρ cls fs C, Qx cls fs C → X.XQ cls fs ρ C := by subst hQx; exact fun ρ cls fs C h => h ρ
    clear hQx
    revert h; revert C
    show SB X _ [some x_deal_here, some x_some, none, none] (w__law_mixed T x_deal_here x_some Qx Q) _
    unfold w__law_mixed
    refine sb_par (r := fun x_left x_found => [some x_deal_here, some x_some, some x_left, some x_found]) 2 3 hN rfl rfl (by decide) rfl rfl rfl (se_callTy (id := "list") rfl T.z_list (by decide +kernel) (sa_cons (se_var 1 rfl (pv 1)) sa_nil) pListC_ok) (se_lstC sa_nil) (fun _ _ => rfl) (fun x_left x_found => ?_)
    refine sb_while (α := Unit) (fun s1 => [some x_deal_here, some x_some, some x_left, some x_found]) (by walk_at "le") (fun s1 => ?_) (fun s1 nx1 bk1 W V hW1 hV1 => ?_) (fun s1 => ?_)
    · unfold w__law_mixed_t1
      exact (st_cmp (se_var 2 rfl (pv 2)) (se_lst sa_nil) (oNe_ok hu noOwn_ok))
    · unfold w__law_mixed_l2
      refine sb_exp (se_append (se_var 3 rfl (pv 3)) (se_popAt (se_var 2 rfl (pv 2)) (se_call (dds := []) (ok__law_draw T) (hr.mono (by omega)) rfl T.g__law_draw T.F__law_draw.kp T.b__law_draw .nil (fun _ => Reps.nil) (hX _) (sa_cons (se_var 0 rfl (pv 0)) (sa_cons (se_callB (id := "len") rfl T.z_len (by decide +kernel) (sa_cons (se_var 2 rfl (pv 2)) sa_nil) (pLen_ok no1_ok)) sa_nil))))) ?_
      refine sb_part ?_
      exact sb_le hW1 (by walk_at "le")
    · unfold w__law_mixed_a3
      refine sb_frz (r := fun x_found1 => [some x_deal_here, some x_some, some x_left, some x_found1]) 3 rfl (fun _ => rfl) (fun x_found1 => ?_)
      exact sb_ret (se_drop (se_var 3 rfl (pv 3))) (fun _ _ h => h)
def w__law_words (T : Tp P K mg) (x_deal_here x_many : D) (Qx : QX) (Q : QE) : MB := mSet (eArgs (aCons (eVal (.str "on")) (aCons (eVal (.str "off")) (aCons (eVal (.str "a")) (aCons (eVal (.str "b")) (aCons (eVal (.str "like")) (aCons (eVal (.str "zzzz")) (aCons (eVal (.str "list")) (aCons (eVal (.str "old")) (aCons (eVal (.str "all")) (aCons (eVal (.str "open")) (aCons (eVal (.str "take")) (aCons (eVal (.str "drop")) (aCons (eVal (.str "kind")) (aCons (eVal (.str "abc")) aNil)))))))))))))) pLst) fun x_some => mSet (eBin (eVal x_some) (eArgs (aCons (eVal (.str "xyz")) (aCons (eVal (.str "mv")) (aCons (eVal (.str "gh")) (aCons (eVal (.str "w")) (aCons (eVal (.str "tri")) (aCons (eVal (.str "nu")) (aCons (eVal (.str "pqrs")) (aCons (eVal (.str "ej")) aNil)))))))) pLst) oAdd) fun x_some1 => mRet (eSl (eArgs (aCons (eVal x_deal_here) (aCons (eVal x_some1) aNil)) fun ds => callW (fw__law_mixed T) Qx (ds ++ [])) oNone (oSome (eVal x_many))) Q
def fw__law_words (T : Tp P K mg) : FS := fun ds C Q Qx => match ds with
  | [x_deal_here, x_many] => w__law_words T x_deal_here x_many Qx Q C
  | _ => False
theorem cl__law_words (T : Tp P K mg) {x_deal_here x_many : D} {Qx : QX} {C : Cells} {Q : QE} (h : w__law_words T x_deal_here x_many Qx Q C) : callW (fw__law_words T) Qx [x_deal_here, x_many] C Q := call_all h
theorem ok__law_words (T : Tp P K mg) : FnG P w K mg base 3 T.f__law_words T.d__law_words ["_law_deal_here", "_law_many"] (fw__law_words T) := by
  refine fnT T.F__law_words sc__law_words (fun ds C Q Qx h => ?_) (fun cdv A outer s H E X ds C Q hr h => ?_)
  · unfold fw__law_words at h; split at h
    · rfl
    · exact h.elim
  · unfold fw__law_words at h; split at h
    rotate_left
    · exact h.elim
    have hN := sc__law_words.nd
    have hu := hu_G hr
    have hg := hr.gd
    rename_i x_deal_here x_many
    generalize hQx : (fun cls fs C' => ∀ ρ, X.XQ cls fs ρ C' : QX) = Qx at h
    have hX : ∀ ρ cls fs C, Qx cls fs C → X.XQ cls fs ρ C := by subst hQx; exact fun ρ cls fs C h => h ρ
    clear hQx
    revert h; revert C
    show SB X _ [some x_deal_here, some x_many, none] (w__law_words T x_deal_here x_many Qx Q) _
    unfold w__law_words
    refine sb_set (r := fun x_some => [some x_deal_here, some x_many, some x_some]) 2 hN rfl (by first | exact .inl rfl | exact .inr rfl) (fun _ => rfl) (se_lst (sa_cons se_str (sa_cons se_str (sa_cons se_str (sa_cons se_str (sa_cons se_str (sa_cons se_str (sa_cons se_str (sa_cons se_str (sa_cons se_str (sa_cons se_str (sa_cons se_str (sa_cons se_str (sa_cons se_str (sa_cons se_str sa_nil))))))))))))))) (fun x_some => ?_)
    refine sb_set (r := fun x_some1 => [some x_deal_here, some x_many, some x_some1]) 2 hN rfl (by first | exact .inl rfl | exact .inr rfl) (fun _ => rfl) (se_bin (se_var 2 rfl (pv 2)) (se_lst (sa_cons se_str (sa_cons se_str (sa_cons se_str (sa_cons se_str (sa_cons se_str (sa_cons se_str (sa_cons se_str (sa_cons se_str sa_nil))))))))) oAdd_ok) (fun x_some1 => ?_)
    exact sb_ret (se_slice (se_call (dds := []) (ok__law_mixed T) (hr.mono (by omega)) rfl T.g__law_mixed T.F__law_mixed.kp T.b__law_mixed .nil (fun _ => Reps.nil) (hX _) (sa_cons (se_var 0 rfl (pv 0)) (sa_cons (se_var 2 rfl (pv 2)) sa_nil))) so_none (so_some (se_var 1 rfl (pv 1)))) (fun _ _ h => h)
def w__law_book_a2 (T : Tp P K mg) (x_deal_here : D) (x_some : D) (x_names : D) (x_kinds : D) (Qx : QX) (Q : QE) (s1 : Unit) : MB := mSet (eSl (eArgs (aCons (eVal x_deal_here) (aCons (eVal x_names) aNil)) fun ds => callW (fw__law_mixed T) Qx (ds ++ [])) oNone (oSome (eArgs (aCons (eVal x_deal_here) (aCons (eBin (eArgs (aCons (eVal x_names) aNil) (on1 (pLen1 no1))) (eVal (.int 1)) oAdd) aNil)) fun ds => callW (fw__law_draw T) Qx (ds ++ [])))) fun x_loose => mFrz x_kinds fun x_kinds1 => mRet (eDrop (eArgs (aCons (eVal x_some) (aCons (eVal x_kinds1) (aCons (eVal x_loose) (aCons (eSl (eArgs (aCons (eVal x_deal_here) (aCons (eVal x_names) aNil)) fun ds => callW (fw__law_mixed T) Qx (ds ++ [])) oNone (oSome (eArgs (aCons (eVal x_deal_here) (aCons (eBin (eArgs (aCons (eVal x_names) aNil) (on1 (pLen1 no1))) (eVal (.int 1)) oAdd) aNil)) fun ds => callW (fw__law_draw T) Qx (ds ++ [])))) aNil)))) pTup)) Q
def w__law_book_l1 (T : Tp P K mg) (x_deal_here : D) (x_some : D) (x_kinds : D) (Qx : QX) (Q : QE) (d1 : D) (s1 : Unit) (nx1 : (Unit) → MB) (bk1 : (Unit) → MB) : MB := mExp (eL1 (eVal x_kinds) (eArgs (aCons (eVal d1) (aCons (eLc (iApp (eVal x_some) pIter) (fun x_one => (eBin (eBin (eVal x_some) (eArgs (aCons (eVal .non) aNil) pLst) oAdd) (eArgs (aCons (eVal x_deal_here) (aCons (eBin (eArgs (aCons (eVal x_some) aNil) (on1 (pLen1 no1))) (eVal (.int 1)) oAdd) aNil)) fun ds => callW (fw__law_draw T) (fun _ _ _ => False) (ds ++ [])) pIx))) aNil)) pTup) pApp) (mPart (nx1 ()))
def w__law_book (T : Tp P K mg) (x_deal_here x_most : D) (Qx : QX) (Q : QE) : MB := mSet (eArgs (aCons (eVal x_deal_here) (aCons (eBin (eVal (.int 1)) (eArgs (aCons (eVal x_deal_here) (aCons (eVal x_most) aNil)) fun ds => callW (fw__law_draw T) Qx (ds ++ [])) oAdd) aNil)) fun ds => callW (fw__law_words T) Qx (ds ++ [])) fun x_some => mSet (eArgs (aCons (eVal x_deal_here) (aCons (eArgs (aCons (eVal x_deal_here) (aCons (eBin (eVal x_most) (eVal (.int 1)) oAdd) aNil)) fun ds => callW (fw__law_draw T) Qx (ds ++ [])) aNil)) fun ds => callW (fw__law_words T) Qx (ds ++ [])) fun x_names => mSet (eArgs aNil pLstC) fun x_kinds => mFor (α := Unit) (iApp (eVal x_names) pIter) (w__law_book_l1 T x_deal_here x_some x_kinds Qx Q) () (w__law_book_a2 T x_deal_here x_some x_names x_kinds Qx Q)
def fw__law_book (T : Tp P K mg) : FS := fun ds C Q Qx => match ds with
  | [x_deal_here, x_most] => w__law_book T x_deal_here x_most Qx Q C
  | _ => False
theorem cl__law_book (T : Tp P K mg) {x_deal_here x_most : D} {Qx : QX} {C : Cells} {Q : QE} (h : w__law_book T x_deal_here x_most Qx Q C) : callW (fw__law_book T) Qx [x_deal_here, x_most] C Q := call_all h
theorem ok__law_book (T : Tp P K mg) : FnG P w K mg base 4 T.f__law_book T.d__law_book ["_law_deal_here", "_law_most"] (fw__law_book T) := by
  refine fnT T.F__law_book sc__law_book (fun ds C Q Qx h => ?_) (fun cdv A outer s H E X ds C Q hr h => ?_)
  · unfold fw__law_book at h; split at h
    · rfl
    · exact h.elim
  · unfold fw__law_book at h; split at h
    rotate_left
    · exact h.elim
    have hN := sc__law_book.nd
    have hu := hu_G hr
    have hg := hr.gd
    rename_i x_deal_here x_most
    generalize hQx : (fun cls fs C' => ∀ ρ, X.XQ cls fs ρ C' : QX) = Qx at h
    have hX : ∀ ρ cls fs C, Qx cls fs C → X.XQ cls fs ρ C := by subst hQx; exact fun ρ cls fs C h => h ρ
    clear hQx
    revert h; revert C
    show SB X _ [some x_deal_here, some x_most, none, none, none, none, none, none] (w__law_book T x_deal_here x_most Qx Q) _
    unfold w__law_book
    refine sb_set (r := fun x_some => [some x_deal_here, some x_most, some x_some, none, none, none, none, none]) 2 hN rfl (by first | exact .inl rfl | exact .inr rfl) (fun _ => rfl) (se_call (dds := []) (ok__law_words T) (hr.mono (by omega)) rfl T.g__law_words T.F__law_words.kp T.b__law_words .nil (fun _ => Reps.nil) (hX _) (sa_cons (se_var 0 rfl (pv 0)) (sa_cons (se_bin se_int (se_call (dds := []) (ok__law_draw T) (hr.mono (by omega)) rfl T.g__law_draw T.F__law_draw.kp T.b__law_draw .nil (fun _ => Reps.nil) (hX _) (sa_cons (se_var 0 rfl (pv 0)) (sa_cons (se_var 1 rfl (pv 1)) sa_nil))) oAdd_ok) sa_nil))) (fun x_some => ?_)
    refine sb_set (r := fun x_names => [some x_deal_here, some x_most, some x_some, some x_names, none, none, none, none]) 3 hN rfl (by first | exact .inl rfl | exact .inr rfl) (fun _ => rfl) (se_call (dds := []) (ok__law_words T) (hr.mono (by omega)) rfl T.g__law_words T.F__law_words.kp T.b__law_words .nil (fun _ => Reps.nil) (hX _) (sa_cons (se_var 0 rfl (pv 0)) (sa_cons (se_call (dds := []) (ok__law_draw T) (hr.mono (by omega)) rfl T.g__law_draw T.F__law_draw.kp T.b__law_draw .nil (fun _ => Reps.nil) (hX _) (sa_cons (se_var 0 rfl (pv 0)) (sa_cons (se_bin (se_var 1 rfl (pv 1)) se_int oAdd_ok) sa_nil))) sa_nil))) (fun x_names => ?_)
    refine sb_set (r := fun x_kinds => [some x_deal_here, some x_most, some x_some, some x_names, some x_kinds, none, none, none]) 4 hN rfl (by first | exact .inl rfl | exact .inr rfl) (fun _ => rfl) (se_lstC sa_nil) (fun x_kinds => ?_)
    refine sb_for (α := Unit) (fun s1 => [some x_deal_here, some x_most, some x_some, some x_names, some x_kinds, none, none, none]) rfl (si_iter (se_var 3 rfl (pv 3))) (by walk_at "le") (fun d1 s1 nx1 bk1 W V hW1 hV1 => ?_) (fun s1 => ?_)
    · unfold w__law_book_l1
      refine sg_name (r := [some x_deal_here, some x_most, some x_some, some x_names, some x_kinds, some d1, none, none]) 5 rfl ?_ (pg_name (i := 5) hN rfl (by first | exact .inl rfl | exact .inr rfl))
      refine sb_exp (se_append (se_var 4 rfl (pv 4)) (se_tup (sa_cons (se_var 5 rfl (pv 5)) (sa_cons (se_lc [("_law_one", 7)] (.one 7) rfl hN (blkOk_by rfl) (fun _ _ _ _ _ => pg_name (i := 7) hN rfl (by first | exact .inl rfl | exact .inr rfl)) (by decide) (si_iter (se_var 2 rfl (pv 2))) (bd_one (r := fun x_one => [some x_deal_here, some x_most, some x_some, some x_names, some x_kinds, some d1, none, some x_one]) (fun _ => rfl) (fun x_one _ _ _ _ _ => (se_ix (se_bin (se_var 2 rfl (pv 2)) (se_lst (sa_cons se_non sa_nil)) oAdd_ok) (se_call (dds := []) (ok__law_draw T) (hr.mono (by omega)) rfl T.g__law_draw T.F__law_draw.kp T.b__law_draw .nil (fun _ => Reps.nil) (fun _ _ _ h => h.elim) (sa_cons (se_var 0 rfl (pv 0)) (sa_cons (se_bin (se_callB (id := "len") rfl T.z_len (by decide +kernel) (sa_cons (se_var 2 rfl (pv 2)) sa_nil) (pLen_ok no1_ok)) se_int oAdd_ok) sa_nil))))))) sa_nil)))) ?_
      refine sb_part ?_
      exact sb_le hW1 (by walk_at "le")
    · unfold w__law_book_a2
      refine sb_set (r := fun x_loose => [some x_deal_here, some x_most, some x_some, some x_names, some x_kinds, none, some x_loose, none]) 6 hN rfl (by first | exact .inl rfl | exact .inr rfl) (fun _ => rfl) (se_slice (se_call (dds := []) (ok__law_mixed T) (hr.mono (by omega)) rfl T.g__law_mixed T.F__law_mixed.kp T.b__law_mixed .nil (fun _ => Reps.nil) (hX _) (sa_cons (se_var 0 rfl (pv 0)) (sa_cons (se_var 3 rfl (pv 3)) sa_nil))) so_none (so_some (se_call (dds := []) (ok__law_draw T) (hr.mono (by omega)) rfl T.g__law_draw T.F__law_draw.kp T.b__law_draw .nil (fun _ => Reps.nil) (hX _) (sa_cons (se_var 0 rfl (pv 0)) (sa_cons (se_bin (se_callB (id := "len") rfl T.z_len (by decide +kernel) (sa_cons (se_var 3 rfl (pv 3)) sa_nil) (pLen_ok no1_ok)) se_int oAdd_ok) sa_nil))))) (fun x_loose => ?_)
      refine sb_frz (r := fun x_kinds1 => [some x_deal_here, some x_most, some x_some, some x_names, some x_kinds1, none, some x_loose, none]) 4 rfl (fun _ => rfl) (fun x_kinds1 => ?_)
      exact sb_ret (se_drop (se_tup (sa_cons (se_var 2 rfl (pv 2)) (sa_cons (se_var 4 rfl (pv 4)) (sa_cons (se_var 6 rfl (pv 6)) (sa_cons (se_slice (se_call (dds := []) (ok__law_mixed T) (hr.mono (by omega)) rfl T.g__law_mixed T.F__law_mixed.kp T.b__law_mixed .nil (fun _ => Reps.nil) (hX _) (sa_cons (se_var 0 rfl (pv 0)) (sa_cons (se_var 3 rfl (pv 3)) sa_nil))) so_none (so_some (se_call (dds := []) (ok__law_draw T) (hr.mono (by omega)) rfl T.g__law_draw T.F__law_draw.kp T.b__law_draw .nil (fun _ => Reps.nil) (hX _) (sa_cons (se_var 0 rfl (pv 0)) (sa_cons (se_bin (se_callB (id := "len") rfl T.z_len (by decide +kernel) (sa_cons (se_var 3 rfl (pv 3)) sa_nil) (pLen_ok no1_ok)) se_int oAdd_ok) sa_nil))))) sa_nil)))))) (fun _ _ h => h)
def w_is_sequence (T : Tp P K mg) (x_value : D) (Qx : QX) (Q : QE) : MB := mRet (eArgs (aCons (eVal x_value) (aCons (eArgs (aCons (eVal (.raw (.ty "list"))) (aCons (eVal (.raw (.ty "tuple"))) aNil)) pTup) aNil)) (on2 (pIsI K))) Q
def fw_is_sequence (T : Tp P K mg) : FS := fun ds C Q Qx => match ds with
  | [x_value] => w_is_sequence T x_value Qx Q C
  | _ => False
theorem cl_is_sequence (T : Tp P K mg) {x_value : D} {Qx : QX} {C : Cells} {Q : QE} (h : w_is_sequence T x_value Qx Q C) : callW (fw_is_sequence T) Qx [x_value] C Q := call_all h
theorem ok_is_sequence (T : Tp P K mg) : FnG P w K mg base 1 T.f_is_sequence T.d_is_sequence ["value"] (fw_is_sequence T) := by
  refine fnT T.F_is_sequence sc_is_sequence (fun ds C Q Qx h => ?_) (fun cdv A outer s H E X ds C Q hr h => ?_)
  · unfold fw_is_sequence at h; split at h
    · rfl
    · exact h.elim
  · unfold fw_is_sequence at h; split at h
    rotate_left
    · exact h.elim
    have hN := sc_is_sequence.nd
    have hu := hu_G hr
    have hg := hr.gd
    rename_i x_value
    generalize hQx : (fun cls fs C' => ∀ ρ, X.XQ cls fs ρ C' : QX) = Qx at h
    have hX : ∀ ρ cls fs C, Qx cls fs C → X.XQ cls fs ρ C := by subst hQx; exact fun ρ cls fs C h => h ρ
    clear hQx
    revert h; revert C
    show SB X _ [some x_value] (w_is_sequence T x_value Qx Q) _
    unfold w_is_sequence
    exact sb_ret (se_callB (id := "isinstance") rfl T.z_isinstance (by decide +kernel) (sa_cons (se_var 0 rfl (pv 0)) (sa_cons (se_tup (sa_cons (se_ty rfl T.z_list (by decide +kernel)) (sa_cons (se_ty rfl T.z_tuple (by decide +kernel)) sa_nil))) sa_nil)) pIsI_ok) (fun _ _ h => h)
def w_is_name (T : Tp P K mg) (x_value : D) (Qx : QX) (Q : QE) : MB := mIf (tOr (tNot (tVal (eArgs (aCons (eVal x_value) (aCons (eVal (.raw (.ty "str"))) aNil)) (on2 (pIsI K))))) (tOr (tNot (tChain (eVal (.int 1)) (eArgs (aCons (eVal x_value) aNil) (on1 (pLen1 no1))) (eVal (.int 4)) oLe oLe)) (tBin (eVal x_value) (eVal (.tup (barred.map D.str))) oIn))) (mRet (eVal (.bl false)) Q) (mRet (eArgs (aCons (eLc (iApp (eVal x_value) pIterS) (fun x_letter => (eBin (eVal x_letter) (eVal (.str small)) oIn))) aNil) (on1 pAll1)) Q)
def fw_is_name (T : Tp P K mg) : FS := fun ds C Q Qx => match ds with
  | [x_value] => w_is_name T x_value Qx Q C
  | _ => False
theorem cl_is_name (T : Tp P K mg) {x_value : D} {Qx : QX} {C : Cells} {Q : QE} (h : w_is_name T x_value Qx Q C) : callW (fw_is_name T) Qx [x_value] C Q := call_all h
theorem ok_is_name (T : Tp P K mg) : FnG P w K mg base 1 T.f_is_name T.d_is_name ["value"] (fw_is_name T) := by
  refine fnT T.F_is_name sc_is_name (fun ds C Q Qx h => ?_) (fun cdv A outer s H E X ds C Q hr h => ?_)
  · unfold fw_is_name at h; split at h
    · rfl
    · exact h.elim
  · unfold fw_is_name at h; split at h
    rotate_left
    · exact h.elim
    have hN := sc_is_name.nd
    have hu := hu_G hr
    have hg := hr.gd
    rename_i x_value
    generalize hQx : (fun cls fs C' => ∀ ρ, X.XQ cls fs ρ C' : QX) = Qx at h
    have hX : ∀ ρ cls fs C, Qx cls fs C → X.XQ cls fs ρ C := by subst hQx; exact fun ρ cls fs C h => h ρ
    clear hQx
    revert h; revert C
    show SB X _ [some x_value, none] (w_is_name T x_value Qx Q) _
    unfold w_is_name
    refine sb_if (st_p (sp_or (st_not (st_val (se_callB (id := "isinstance") rfl T.z_isinstance (by decide +kernel) (sa_cons (se_var 0 rfl (pv 0)) (sa_cons (se_ty rfl T.z_str (by decide +kernel)) sa_nil)) pIsI_ok))) (sp_or (st_not (st_chain se_int (se_callB (id := "len") rfl T.z_len (by decide +kernel) (sa_cons (se_var 0 rfl (pv 0)) sa_nil) (pLen_ok no1_ok)) se_int oLe_ok oLe_ok)) (sp_or1 (st_cmp (se_var 0 rfl (pv 0)) (se_glob (d := .tup (barred.map D.str)) (pe_glob (v := .ref T.a_BARRED) rfl T.g_BARRED rfl) T.r_BARRED) oIn_ok))))) ?_ ?_
    · exact sb_ret se_bl (fun _ _ h => h)
    · refine sb_more ?_
      exact sb_ret (se_callB (id := "all") rfl T.z_all (by decide +kernel) (sa_cons (se_lc [("letter", 1)] (.one 1) rfl hN (blkOk_by rfl) (fun _ _ _ _ _ => pg_name (i := 1) hN rfl (by first | exact .inl rfl | exact .inr rfl)) (by decide) (si_iterS (se_var 0 rfl (pv 0))) (bd_one (r := fun x_letter => [some x_value, some x_letter]) (fun _ => rfl) (fun x_letter _ _ _ _ _ => (se_cmp (se_var 1 rfl (pv 1)) (se_globS rfl T.g_SMALL) oIn_ok)))) sa_nil) (pAll_ok rfl)) (fun _ _ h => h)
def w_are_names (T : Tp P K mg) (x_value : D) (Qx : QX) (Q : QE) : MB := mIf (tNot (tVal (eArgs (aCons (eVal x_value) aNil) fun ds => callW (fw_is_sequence T) Qx (ds ++ [])))) (mRet (eVal (.bl false)) Q) (mRet (eArgs (aCons (eLc (iApp (eVal x_value) pEnum) (fun d => un2 d fun x_at x_name => (eAnd (eArgs (aCons (eVal x_name) aNil) fun ds => callW (fw_is_name T) (fun _ _ _ => False) (ds ++ [])) (eBin (eVal x_name) (eSl (eVal x_value) oNone (oSome (eVal x_at))) oNotIn)))) aNil) (on1 pAll1)) Q)
def fw_are_names (T : Tp P K mg) : FS := fun ds C Q Qx => match ds with
  | [x_value] => w_are_names T x_value Qx Q C
  | _ => False
theorem cl_are_names (T : Tp P K mg) {x_value : D} {Qx : QX} {C : Cells} {Q : QE} (h : w_are_names T x_value Qx Q C) : callW (fw_are_names T) Qx [x_value] C Q := call_all h
theorem ok_are_names (T : Tp P K mg) : FnG P w K mg base 2 T.f_are_names T.d_are_names ["value"] (fw_are_names T) := by
  refine fnT T.F_are_names sc_are_names (fun ds C Q Qx h => ?_) (fun cdv A outer s H E X ds C Q hr h => ?_)
  · unfold fw_are_names at h; split at h
    · rfl
    · exact h.elim
  · unfold fw_are_names at h; split at h
    rotate_left
    · exact h.elim
    have hN := sc_are_names.nd
    have hu := hu_G hr
    have hg := hr.gd
    rename_i x_value
    generalize hQx : (fun cls fs C' => ∀ ρ, X.XQ cls fs ρ C' : QX) = Qx at h
    have hX : ∀ ρ cls fs C, Qx cls fs C → X.XQ cls fs ρ C := by subst hQx; exact fun ρ cls fs C h => h ρ
    clear hQx
    revert h; revert C
    show SB X _ [some x_value, none, none] (w_are_names T x_value Qx Q) _
    unfold w_are_names
    refine sb_if (st_not (st_val (se_call (dds := []) (ok_is_sequence T) (hr.mono (by omega)) rfl T.g_is_sequence T.F_is_sequence.kp T.b_is_sequence .nil (fun _ => Reps.nil) (hX _) (sa_cons (se_var 0 rfl (pv 0)) sa_nil)))) ?_ ?_
    · exact sb_ret se_bl (fun _ _ h => h)
    · refine sb_more ?_
      exact sb_ret (se_callB (id := "all") rfl T.z_all (by decide +kernel) (sa_cons (se_lc [("at", 1), ("name", 2)] (.tup [1, 2]) rfl hN (blkOk_by rfl) (fun _ _ _ _ _ => pg_tup rfl (pgs_cons (pg_name (i := 1) hN rfl (by first | exact .inl rfl | exact .inr rfl)) (pgs_cons (pg_name (i := 2) hN rfl (by first | exact .inl rfl | exact .inr rfl)) pgs_nil))) (by decide) (si_enum rfl T.z_enumerate (se_var 0 rfl (pv 0))) (bd_two (r := fun x_at x_name => [some x_value, some x_at, some x_name]) (fun _ _ => rfl) (fun x_at x_name _ _ _ _ _ => (se_and (se_call (dds := []) (ok_is_name T) (hr.mono (by omega)) rfl T.g_is_name T.F_is_name.kp T.b_is_name .nil (fun _ => Reps.nil) (fun _ _ _ h => h.elim) (sa_cons (se_var 2 rfl (pv 2)) sa_nil)) (se_one (se_cmp (se_var 2 rfl (pv 2)) (se_slice (se_var 0 rfl (pv 0)) so_none (so_some (se_var 1 rfl (pv 1)))) oNotIn_ok)))))) sa_nil) (pAll_ok rfl)) (fun _ _ h => h)
def w_is_targets (T : Tp P K mg) (x_value x_values : D) (Qx : QX) (Q : QE) : MB := mIf (tOr (tNot (tVal (eArgs (aCons (eVal x_value) aNil) fun ds => callW (fw_is_sequence T) Qx (ds ++ [])))) (tBin (eArgs (aCons (eVal x_value) aNil) (on1 (pLen1 no1))) (eArgs (aCons (eVal x_values) aNil) (on1 (pLen1 no1))) (oNe noOwn))) (mRet (eVal (.bl false)) Q) (mRet (eArgs (aCons (eLc (iApp (eVal x_value) pIter) (fun x_one => (eOr (eBin (eVal x_one) (eVal .non) oIs) (eAnd (eArgs (aCons (eVal x_one) aNil) fun ds => callW (fw_is_name T) (fun _ _ _ => False) (ds ++ [])) (eBin (eVal x_one) (eVal x_values) oIn))))) aNil) (on1 pAll1)) Q)
def fw_is_targets (T : Tp P K mg) : FS := fun ds C Q Qx => match ds with
  | [x_value, x_values] => w_is_targets T x_value x_values Qx Q C
  | _ => False
theorem cl_is_targets (T : Tp P K mg) {x_value x_values : D} {Qx : QX} {C : Cells} {Q : QE} (h : w_is_targets T x_value x_values Qx Q C) : callW (fw_is_targets T) Qx [x_value, x_values] C Q := call_all h
theorem ok_is_targets (T : Tp P K mg) : FnG P w K mg base 2 T.f_is_targets T.d_is_targets ["value", "values"] (fw_is_targets T) := by
  refine fnT T.F_is_targets sc_is_targets (fun ds C Q Qx h => ?_) (fun cdv A outer s H E X ds C Q hr h => ?_)
  · unfold fw_is_targets at h; split at h
    · rfl
    · exact h.elim
  · unfold fw_is_targets at h; split at h
    rotate_left
    · exact h.elim
    have hN := sc_is_targets.nd
    have hu := hu_G hr
    have hg := hr.gd
    rename_i x_value x_values
    generalize hQx : (fun cls fs C' => ∀ ρ, X.XQ cls fs ρ C' : QX) = Qx at h
    have hX : ∀ ρ cls fs C, Qx cls fs C → X.XQ cls fs ρ C := by subst hQx; exact fun ρ cls fs C h => h ρ
    clear hQx
    revert h; revert C
    show SB X _ [some x_value, some x_values, none] (w_is_targets T x_value x_values Qx Q) _
    unfold w_is_targets
    refine sb_if (st_p (sp_or (st_not (st_val (se_call (dds := []) (ok_is_sequence T) (hr.mono (by omega)) rfl T.g_is_sequence T.F_is_sequence.kp T.b_is_sequence .nil (fun _ => Reps.nil) (hX _) (sa_cons (se_var 0 rfl (pv 0)) sa_nil)))) (sp_or1 (st_cmp (se_callB (id := "len") rfl T.z_len (by decide +kernel) (sa_cons (se_var 0 rfl (pv 0)) sa_nil) (pLen_ok no1_ok)) (se_callB (id := "len") rfl T.z_len (by decide +kernel) (sa_cons (se_var 1 rfl (pv 1)) sa_nil) (pLen_ok no1_ok)) (oNe_ok hu noOwn_ok))))) ?_ ?_
    · exact sb_ret se_bl (fun _ _ h => h)
    · refine sb_more ?_
      exact sb_ret (se_callB (id := "all") rfl T.z_all (by decide +kernel) (sa_cons (se_lc [("one", 2)] (.one 2) rfl hN (blkOk_by rfl) (fun _ _ _ _ _ => pg_name (i := 2) hN rfl (by first | exact .inl rfl | exact .inr rfl)) (by decide) (si_iter (se_var 0 rfl (pv 0))) (bd_one (r := fun x_one => [some x_value, some x_values, some x_one]) (fun _ => rfl) (fun x_one _ _ _ _ _ => (se_or (se_cmp (se_var 2 rfl (pv 2)) se_non oIs_ok) (se_one (se_and (se_call (dds := []) (ok_is_name T) (hr.mono (by omega)) rfl T.g_is_name T.F_is_name.kp T.b_is_name .nil (fun _ => Reps.nil) (fun _ _ _ h => h.elim) (sa_cons (se_var 2 rfl (pv 2)) sa_nil)) (se_one (se_cmp (se_var 2 rfl (pv 2)) (se_var 1 rfl (pv 1)) oIn_ok)))))))) sa_nil) (pAll_ok rfl)) (fun _ _ h => h)
def w_are_kinds (T : Tp P K mg) (x_value x_values : D) (Qx : QX) (Q : QE) : MB := mIf (tOr (tNot (tVal (eArgs (aCons (eVal x_value) aNil) fun ds => callW (fw_is_sequence T) Qx (ds ++ [])))) (tNot (tVal (eArgs (aCons (eLc (iApp (eVal x_value) pIter) (fun x_one => (eAnd (eArgs (aCons (eVal x_one) (aCons (eVal (.raw (.ty "tuple"))) aNil)) (on2 (pIsI K))) (eBin (eArgs (aCons (eVal x_one) aNil) (on1 (pLen1 no1))) (eVal (.int 2)) (oEq noOwn))))) aNil) (on1 pAll1))))) (mRet (eVal (.bl false)) Q) (mRet (eAnd (eArgs (aCons (eLc (iApp (eVal x_value) pIter) (fun x_one1 => (eBin (eVal x_one1) (eVal (.int 0)) pIx))) aNil) fun ds => callW (fw_are_names T) Qx (ds ++ [])) (eArgs (aCons (eLc (iApp (eVal x_value) pIter) (fun x_one2 => (eArgs (aCons (eBin (eVal x_one2) (eVal (.int 1)) pIx) (aCons (eVal x_values) aNil)) fun ds => callW (fw_is_targets T) (fun _ _ _ => False) (ds ++ [])))) aNil) (on1 pAll1))) Q)
def fw_are_kinds (T : Tp P K mg) : FS := fun ds C Q Qx => match ds with
  | [x_value, x_values] => w_are_kinds T x_value x_values Qx Q C
  | _ => False
theorem cl_are_kinds (T : Tp P K mg) {x_value x_values : D} {Qx : QX} {C : Cells} {Q : QE} (h : w_are_kinds T x_value x_values Qx Q C) : callW (fw_are_kinds T) Qx [x_value, x_values] C Q := call_all h
theorem ok_are_kinds (T : Tp P K mg) : FnG P w K mg base 3 T.f_are_kinds T.d_are_kinds ["value", "values"] (fw_are_kinds T) := by
  refine fnT T.F_are_kinds sc_are_kinds (fun ds C Q Qx h => ?_) (fun cdv A outer s H E X ds C Q hr h => ?_)
  · unfold fw_are_kinds at h; split at h
    · rfl
    · exact h.elim
  · unfold fw_are_kinds at h; split at h
    rotate_left
    · exact h.elim
    have hN := sc_are_kinds.nd
    have hu := hu_G hr
    have hg := hr.gd
    rename_i x_value x_values
    generalize hQx : (fun cls fs C' => ∀ ρ, X.XQ cls fs ρ C' : QX) = Qx at h
    have hX : ∀ ρ cls fs C, Qx cls fs C → X.XQ cls fs ρ C := by subst hQx; exact fun ρ cls fs C h => h ρ
    clear hQx
    revert h; revert C
    show SB X _ [some x_value, some x_values, none] (w_are_kinds T x_value x_values Qx Q) _
    unfold w_are_kinds
    refine sb_if (st_p (sp_or (st_not (st_val (se_call (dds := []) (ok_is_sequence T) (hr.mono (by omega)) rfl T.g_is_sequence T.F_is_sequence.kp T.b_is_sequence .nil (fun _ => Reps.nil) (hX _) (sa_cons (se_var 0 rfl (pv 0)) sa_nil)))) (sp_or1 (st_not (st_val (se_callB (id := "all") rfl T.z_all (by decide +kernel) (sa_cons (se_lc [("one", 2)] (.one 2) rfl hN (blkOk_by rfl) (fun _ _ _ _ _ => pg_name (i := 2) hN rfl (by first | exact .inl rfl | exact .inr rfl)) (by decide) (si_iter (se_var 0 rfl (pv 0))) (bd_one (r := fun x_one => [some x_value, some x_values, some x_one]) (fun _ => rfl) (fun x_one _ _ _ _ _ => (se_and (se_callB (id := "isinstance") rfl T.z_isinstance (by decide +kernel) (sa_cons (se_var 2 rfl (pv 2)) (sa_cons (se_ty rfl T.z_tuple (by decide +kernel)) sa_nil)) pIsI_ok) (se_one (se_cmp (se_callB (id := "len") rfl T.z_len (by decide +kernel) (sa_cons (se_var 2 rfl (pv 2)) sa_nil) (pLen_ok no1_ok)) se_int (oEq_ok hu noOwn_ok))))))) sa_nil) (pAll_ok rfl))))))) ?_ ?_
    · exact sb_ret se_bl (fun _ _ h => h)
    · refine sb_more ?_
      exact sb_ret (se_and (se_call (dds := []) (ok_are_names T) (hr.mono (by omega)) rfl T.g_are_names T.F_are_names.kp T.b_are_names .nil (fun _ => Reps.nil) (hX _) (sa_cons (se_lc [("one", 2)] (.one 2) rfl hN (blkOk_by rfl) (fun _ _ _ _ _ => pg_name (i := 2) hN rfl (by first | exact .inl rfl | exact .inr rfl)) (by decide) (si_iter (se_var 0 rfl (pv 0))) (bd_one (r := fun x_one1 => [some x_value, some x_values, some x_one1]) (fun _ => rfl) (fun x_one1 _ _ _ _ _ => (se_ix (se_var 2 rfl (pv 2)) se_int)))) sa_nil)) (se_one (se_callB (id := "all") rfl T.z_all (by decide +kernel) (sa_cons (se_lc [("one", 2)] (.one 2) rfl hN (blkOk_by rfl) (fun _ _ _ _ _ => pg_name (i := 2) hN rfl (by first | exact .inl rfl | exact .inr rfl)) (by decide) (si_iter (se_var 0 rfl (pv 0))) (bd_one (r := fun x_one2 => [some x_value, some x_values, some x_one2]) (fun _ => rfl) (fun x_one2 _ _ _ _ _ => (se_call (dds := []) (ok_is_targets T) (hr.mono (by omega)) rfl T.g_is_targets T.F_is_targets.kp T.b_is_targets .nil (fun _ => Reps.nil) (fun _ _ _ h => h.elim) (sa_cons (se_ix (se_var 2 rfl (pv 2)) se_int) (sa_cons (se_var 1 rfl (pv 1)) sa_nil)))))) sa_nil) (pAll_ok rfl)))) (fun _ _ h => h)
def w_are_some (T : Tp P K mg) (x_value x_names : D) (Qx : QX) (Q : QE) : MB := mRet (eAnd (eArgs (aCons (eVal x_value) aNil) fun ds => callW (fw_are_names T) Qx (ds ++ [])) (eArgs (aCons (eLc (iApp (eVal x_value) pIter) (fun x_name => (eBin (eVal x_name) (eVal x_names) oIn))) aNil) (on1 pAll1))) Q
def fw_are_some (T : Tp P K mg) : FS := fun ds C Q Qx => match ds with
  | [x_value, x_names] => w_are_some T x_value x_names Qx Q C
  | _ => False
theorem cl_are_some (T : Tp P K mg) {x_value x_names : D} {Qx : QX} {C : Cells} {Q : QE} (h : w_are_some T x_value x_names Qx Q C) : callW (fw_are_some T) Qx [x_value, x_names] C Q := call_all h
theorem ok_are_some (T : Tp P K mg) : FnG P w K mg base 3 T.f_are_some T.d_are_some ["value", "names"] (fw_are_some T) := by
  refine fnT T.F_are_some sc_are_some (fun ds C Q Qx h => ?_) (fun cdv A outer s H E X ds C Q hr h => ?_)
  · unfold fw_are_some at h; split at h
    · rfl
    · exact h.elim
  · unfold fw_are_some at h; split at h
    rotate_left
    · exact h.elim
    have hN := sc_are_some.nd
    have hu := hu_G hr
    have hg := hr.gd
    rename_i x_value x_names
    generalize hQx : (fun cls fs C' => ∀ ρ, X.XQ cls fs ρ C' : QX) = Qx at h
    have hX : ∀ ρ cls fs C, Qx cls fs C → X.XQ cls fs ρ C := by subst hQx; exact fun ρ cls fs C h => h ρ
    clear hQx
    revert h; revert C
    show SB X _ [some x_value, some x_names, none] (w_are_some T x_value x_names Qx Q) _
    unfold w_are_some
    exact sb_ret (se_and (se_call (dds := []) (ok_are_names T) (hr.mono (by omega)) rfl T.g_are_names T.F_are_names.kp T.b_are_names .nil (fun _ => Reps.nil) (hX _) (sa_cons (se_var 0 rfl (pv 0)) sa_nil)) (se_one (se_callB (id := "all") rfl T.z_all (by decide +kernel) (sa_cons (se_lc [("name", 2)] (.one 2) rfl hN (blkOk_by rfl) (fun _ _ _ _ _ => pg_name (i := 2) hN rfl (by first | exact .inl rfl | exact .inr rfl)) (by decide) (si_iter (se_var 0 rfl (pv 0))) (bd_one (r := fun x_name => [some x_value, some x_names, some x_name]) (fun _ => rfl) (fun x_name _ _ _ _ _ => (se_cmp (se_var 2 rfl (pv 2)) (se_var 1 rfl (pv 1)) oIn_ok)))) sa_nil) (pAll_ok rfl)))) (fun _ _ h => h)
def w_Book_init (T : Tp P K mg) (x_self x_choices x_kinds x_loose x_others : D) (Qx : QX) (Q : QE) : MB := mIf (tOr (tNot (tVal (eArgs (aCons (eWk (eVal x_choices)) aNil) fun ds => callW (fw_are_names T) Qx (ds ++ [])))) (tBin (eArgs (aCons (eWk (eVal x_choices)) aNil) (on1 (pLen1 no1))) (eVal (.int 0)) (oEq noOwn))) (mRaise (eVal (.str "choices")) T.c_InvalidBook "word" Qx) (mIf (tNot (tVal (eArgs (aCons (eVal x_kinds) (aCons (eWk (eVal x_choices)) aNil)) fun ds => callW (fw_are_kinds T) Qx (ds ++ [])))) (mRaise (eVal (.str "kinds")) T.c_InvalidBook "word" Qx) (mFld K (eArgs (aCons (eVal x_choices) aNil) (on1 pTupleN)) (eVal x_self) "choices" (mFld K (eArgs (aCons (eLc (iApp (eVal x_kinds) pIter) (fun d => un2 d fun x_name x_targets => (eVal x_name))) aNil) (on1 pTuple1)) (eVal x_self) "kinds" (mIf (tNot (tVal (eArgs (aCons (eVal x_loose) (aCons (eApp (eVal x_self) (pFld K "kinds")) aNil)) fun ds => callW (fw_are_some T) Qx (ds ++ [])))) (mRaise (eVal (.str "loose")) T.c_InvalidBook "word" Qx) (mIf (tNot (tVal (eArgs (aCons (eVal x_others) (aCons (eApp (eVal x_self) (pFld K "kinds")) aNil)) fun ds => callW (fw_are_some T) Qx (ds ++ [])))) (mRaise (eVal (.str "others")) T.c_InvalidBook "word" Qx) (mFld K (eDc (iApp (eVal x_kinds) pIter) (fun d => un2 d fun x_name1 x_targets1 => (eVal x_name1)) (fun d => un2 d fun x_name1 x_targets1 => (eArgs (aCons (eVal x_targets1) aNil) (on1 pTuple1)))) (eVal x_self) "targets" (mFld K (eArgs (aCons (eLc1 (iApp (eApp (eVal x_self) (pFld K "kinds")) pIter) (fun x_name2 => (tBin (eVal x_name2) (eVal x_loose) oIn)) (fun x_name2 => (eVal x_name2))) aNil) (on1 pTuple1)) (eVal x_self) "loose" (mFld K (eArgs (aCons (eLc1 (iApp (eApp (eVal x_self) (pFld K "kinds")) pIter) (fun x_name3 => (tBin (eVal x_name3) (eVal x_others) oIn)) (fun x_name3 => (eVal x_name3))) aNil) (on1 pTuple1)) (eVal x_self) "others" (mRet (eVal .non) Q)))))))))
def fw_Book_init (T : Tp P K mg) : FS := fun ds C Q Qx => match ds with
  | [x_self, x_choices, x_kinds, x_loose, x_others] => w_Book_init T x_self x_choices x_kinds x_loose x_others Qx Q C
  | _ => False
theorem cl_Book_init (T : Tp P K mg) {x_self x_choices x_kinds x_loose x_others : D} {Qx : QX} {C : Cells} {Q : QE} (h : w_Book_init T x_self x_choices x_kinds x_loose x_others Qx Q C) : callW (fw_Book_init T) Qx [x_self, x_choices, x_kinds, x_loose, x_others] C Q := call_all h
theorem ok_Book_init (T : Tp P K mg) : FnG P w K mg base 4 T.f_Book_init T.d_Book_init ["self", "choices", "kinds", "loose", "others"] (fw_Book_init T) := by
  refine fnT T.F_Book_init sc_Book_init (fun ds C Q Qx h => ?_) (fun cdv A outer s H E X ds C Q hr h => ?_)
  · unfold fw_Book_init at h; split at h
    · rfl
    · exact h.elim
  · unfold fw_Book_init at h; split at h
    rotate_left
    · exact h.elim
    have hN := sc_Book_init.nd
    have hu := hu_G hr
    have hg := hr.gd
    rename_i x_self x_choices x_kinds x_loose x_others
    generalize hQx : (fun cls fs C' => ∀ ρ, X.XQ cls fs ρ C' : QX) = Qx at h
    have hX : ∀ ρ cls fs C, Qx cls fs C → X.XQ cls fs ρ C := by subst hQx; exact fun ρ cls fs C h => h ρ
    clear hQx
    revert h; revert C
    show SB X _ [some x_self, some x_choices, some x_kinds, some x_loose, some x_others, none, none] (w_Book_init T x_self x_choices x_kinds x_loose x_others Qx Q) _
    unfold w_Book_init
    refine sb_if (st_p (sp_or (st_not (st_val (se_call (dds := []) (ok_are_names T) (hr.mono (by omega)) rfl T.g_are_names T.F_are_names.kp T.b_are_names .nil (fun _ => Reps.nil) (hX _) (sa_cons (se_wk (se_var 1 rfl (pv 1))) sa_nil)))) (sp_or1 (st_cmp (se_callB (id := "len") rfl T.z_len (by decide +kernel) (sa_cons (se_wk (se_var 1 rfl (pv 1))) sa_nil) (pLen_ok no1_ok)) se_int (oEq_ok hu noOwn_ok))))) ?_ ?_
    · exact sb_raise (k := 0) T.x_InvalidBook (hr.mono (by omega)) rfl T.g_InvalidBook se_str (hX _)
    · refine sb_more ?_
      refine sb_if (st_not (st_val (se_call (dds := []) (ok_are_kinds T) (hr.mono (by omega)) rfl T.g_are_kinds T.F_are_kinds.kp T.b_are_kinds .nil (fun _ => Reps.nil) (hX _) (sa_cons (se_var 2 rfl (pv 2)) (sa_cons (se_wk (se_var 1 rfl (pv 1))) sa_nil))))) ?_ ?_
      · exact sb_raise (k := 0) T.x_InvalidBook (hr.mono (by omega)) rfl T.g_InvalidBook se_str (hX _)
      · refine sb_more ?_
        refine sb_fld (se_callTy (id := "tuple") rfl T.z_tuple (by decide +kernel) (sa_cons (se_var 1 rfl (pv 1)) sa_nil) on_tupleN) (se_var 0 rfl (pv 0)) ?_
        refine sb_fld (se_callTy (id := "tuple") rfl T.z_tuple (by decide +kernel) (sa_cons (se_lc [("name", 5), ("targets", 6)] (.tup [5, 6]) rfl hN (blkOk_by rfl) (fun _ _ _ _ _ => pg_tup rfl (pgs_cons (pg_name (i := 5) hN rfl (by first | exact .inl rfl | exact .inr rfl)) (pgs_cons (pg_name (i := 6) hN rfl (by first | exact .inl rfl | exact .inr rfl)) pgs_nil))) (by decide) (si_iter (se_var 2 rfl (pv 2))) (bd_two (r := fun x_name x_targets => [some x_self, some x_choices, some x_kinds, some x_loose, some x_others, some x_name, some x_targets]) (fun _ _ => rfl) (fun x_name x_targets _ _ _ _ _ => (se_var 5 rfl (pv 5))))) sa_nil) pTuple_ok) (se_var 0 rfl (pv 0)) ?_
        refine sb_if (st_not (st_val (se_call (dds := []) (ok_are_some T) (hr.mono (by omega)) rfl T.g_are_some T.F_are_some.kp T.b_are_some .nil (fun _ => Reps.nil) (hX _) (sa_cons (se_var 3 rfl (pv 3)) (sa_cons (se_fld (se_var 0 rfl (pv 0))) sa_nil))))) ?_ ?_
        · exact sb_raise (k := 0) T.x_InvalidBook (hr.mono (by omega)) rfl T.g_InvalidBook se_str (hX _)
        · refine sb_more ?_
          refine sb_if (st_not (st_val (se_call (dds := []) (ok_are_some T) (hr.mono (by omega)) rfl T.g_are_some T.F_are_some.kp T.b_are_some .nil (fun _ => Reps.nil) (hX _) (sa_cons (se_var 4 rfl (pv 4)) (sa_cons (se_fld (se_var 0 rfl (pv 0))) sa_nil))))) ?_ ?_
          · exact sb_raise (k := 0) T.x_InvalidBook (hr.mono (by omega)) rfl T.g_InvalidBook se_str (hX _)
          · refine sb_more ?_
            refine sb_fld (se_dc [("name", 5), ("targets", 6)] (.tup [5, 6]) rfl hN (blkOk_by rfl) (fun _ _ _ _ _ => pg_tup rfl (pgs_cons (pg_name (i := 5) hN rfl (by first | exact .inl rfl | exact .inr rfl)) (pgs_cons (pg_name (i := 6) hN rfl (by first | exact .inl rfl | exact .inr rfl)) pgs_nil))) (by decide) (si_iter (se_var 2 rfl (pv 2))) (bd_two (r := fun x_name1 x_targets1 => [some x_self, some x_choices, some x_kinds, some x_loose, some x_others, some x_name1, some x_targets1]) (fun _ _ => rfl) (fun x_name1 x_targets1 _ _ _ _ _ => (se_var 5 rfl (pv 5)))) (bd_two (r := fun x_name1 x_targets1 => [some x_self, some x_choices, some x_kinds, some x_loose, some x_others, some x_name1, some x_targets1]) (fun _ _ => rfl) (fun x_name1 x_targets1 _ _ _ _ _ => (se_callTy (id := "tuple") rfl T.z_tuple (by decide +kernel) (sa_cons (se_var 6 rfl (pv 6)) sa_nil) pTuple_ok)))) (se_var 0 rfl (pv 0)) ?_
            refine sb_fld (se_callTy (id := "tuple") rfl T.z_tuple (by decide +kernel) (sa_cons (se_lc1 [("name", 5)] (.one 5) rfl hN (blkOk_by rfl) (fun _ _ _ _ _ => pg_name (i := 5) hN rfl (by first | exact .inl rfl | exact .inr rfl)) (by decide) (si_iter (se_fld (se_var 0 rfl (pv 0)))) (bdT_one (r := fun x_name2 => [some x_self, some x_choices, some x_kinds, some x_loose, some x_others, some x_name2, none]) (fun _ => rfl) (fun x_name2 _ _ _ _ _ => (st_cmp (se_var 5 rfl (pv 5)) (se_var 3 rfl (pv 3)) oIn_ok))) (bd_one (r := fun x_name2 => [some x_self, some x_choices, some x_kinds, some x_loose, some x_others, some x_name2, none]) (fun _ => rfl) (fun x_name2 _ _ _ _ _ => (se_var 5 rfl (pv 5))))) sa_nil) pTuple_ok) (se_var 0 rfl (pv 0)) ?_
            refine sb_fld (se_callTy (id := "tuple") rfl T.z_tuple (by decide +kernel) (sa_cons (se_lc1 [("name", 5)] (.one 5) rfl hN (blkOk_by rfl) (fun _ _ _ _ _ => pg_name (i := 5) hN rfl (by first | exact .inl rfl | exact .inr rfl)) (by decide) (si_iter (se_fld (se_var 0 rfl (pv 0)))) (bdT_one (r := fun x_name3 => [some x_self, some x_choices, some x_kinds, some x_loose, some x_others, some x_name3, none]) (fun _ => rfl) (fun x_name3 _ _ _ _ _ => (st_cmp (se_var 5 rfl (pv 5)) (se_var 4 rfl (pv 4)) oIn_ok))) (bd_one (r := fun x_name3 => [some x_self, some x_choices, some x_kinds, some x_loose, some x_others, some x_name3, none]) (fun _ => rfl) (fun x_name3 _ _ _ _ _ => (se_var 5 rfl (pv 5))))) sa_nil) pTuple_ok) (se_var 0 rfl (pv 0)) ?_
            exact sb_nil (fun _ h => h)
def w_Book_str_j4 (T : Tp P K mg) (x_lines : D) (Qx : QX) (Q : QE) (j4 : Unit) : MB := mRet (eDrop (eStr1 (eVal (.str "\n")) (eVal x_lines) pJoin)) Q
def w_Book_str_j3 (T : Tp P K mg) (x_self : D) (x_lines : D) (Qx : QX) (Q : QE) (j3 : Unit) : MB := mIf (tBin (eArgs (aCons (eApp (eVal x_self) (pFld K "others")) aNil) (on1 (pLen1 no1))) (eVal (.int 0)) oGt) (mExp (eL1 (eVal x_lines) (eStr1 (eVal (.str " ")) (eArgs (aCons (eVal (.str "others")) (aStar (eApp (eVal x_self) (pFld K "others")) aNil)) pLst) pJoin) pApp) (w_Book_str_j4 T x_lines Qx Q ())) (w_Book_str_j4 T x_lines Qx Q ())
def w_Book_str_a2 (T : Tp P K mg) (x_self : D) (x_lines : D) (Qx : QX) (Q : QE) (s1 : Unit) : MB := mIf (tBin (eArgs (aCons (eApp (eVal x_self) (pFld K "loose")) aNil) (on1 (pLen1 no1))) (eVal (.int 0)) oGt) (mExp (eL1 (eVal x_lines) (eStr1 (eVal (.str " ")) (eArgs (aCons (eVal (.str "loose")) (aStar (eApp (eVal x_self) (pFld K "loose")) aNil)) pLst) pJoin) pApp) (w_Book_str_j3 T x_self x_lines Qx Q ())) (w_Book_str_j3 T x_self x_lines Qx Q ())
def w_Book_str_l1 (T : Tp P K mg) (x_self : D) (x_lines : D) (Qx : QX) (Q : QE) (d1 : D) (s1 : Unit) (nx1 : (Unit) → MB) (bk1 : (Unit) → MB) : MB := mExp (eL1 (eVal x_lines) (eStr1 (eVal (.str " ")) (eArgs (aCons (eVal (.str "kind")) (aCons (eVal d1) (aStar (eLc (iApp (eBin (eApp (eVal x_self) (pFld K "targets")) (eVal d1) pIxD) pIter) (fun x_one => (eOrV (eVal x_one) (eVal (.str "no"))))) aNil))) pLst) pJoin) pApp) (mPart (nx1 ()))
def w_Book_str (T : Tp P K mg) (x_self : D) (Qx : QX) (Q : QE) : MB := mSet (eArgs (aCons (eStr1 (eVal (.str " ")) (eArgs (aCons (eVal (.str "values")) (aStar (eApp (eVal x_self) (pFldW K "choices")) aNil)) pLst) pJoin) aNil) pLstC) fun x_lines => mFor (α := Unit) (iApp (eApp (eVal x_self) (pFld K "kinds")) pIter) (w_Book_str_l1 T x_self x_lines Qx Q) () (w_Book_str_a2 T x_self x_lines Qx Q)
def fw_Book_str (T : Tp P K mg) : FS := fun ds C Q Qx => match ds with
  | [x_self] => w_Book_str T x_self Qx Q C
  | _ => False
theorem cl_Book_str (T : Tp P K mg) {x_self : D} {Qx : QX} {C : Cells} {Q : QE} (h : w_Book_str T x_self Qx Q C) : callW (fw_Book_str T) Qx [x_self] C Q := call_all h
theorem ok_Book_str (T : Tp P K mg) : FnG P w K mg base 1 T.f_Book_str T.d_Book_str ["self"] (fw_Book_str T) := by
  refine fnT T.F_Book_str sc_Book_str (fun ds C Q Qx h => ?_) (fun cdv A outer s H E X ds C Q hr h => ?_)
  · unfold fw_Book_str at h; split at h
    · rfl
    · exact h.elim
  · unfold fw_Book_str at h; split at h
    rotate_left
    · exact h.elim
    have hN := sc_Book_str.nd
    have hu := hu_G hr
    have hg := hr.gd
    rename_i x_self
    generalize hQx : (fun cls fs C' => ∀ ρ, X.XQ cls fs ρ C' : QX) = Qx at h
    have hX : ∀ ρ cls fs C, Qx cls fs C → X.XQ cls fs ρ C := by subst hQx; exact fun ρ cls fs C h => h ρ
    clear hQx
    revert h; revert C
    show SB X _ [some x_self, none, none, none] (w_Book_str T x_self Qx Q) _
    unfold w_Book_str
    refine sb_set (r := fun x_lines => [some x_self, some x_lines, none, none]) 1 hN rfl (by first | exact .inl rfl | exact .inr rfl) (fun _ => rfl) (se_lstC (sa_cons (se_join se_str (se_lst (sa_cons se_str (sa_star (se_fldW (se_var 0 rfl (pv 0))) sa_nil)))) sa_nil)) (fun x_lines => ?_)
    refine sb_for (α := Unit) (fun s1 => [some x_self, some x_lines, none, none]) rfl (si_iter (se_fld (se_var 0 rfl (pv 0)))) (by walk_at "le") (fun d1 s1 nx1 bk1 W V hW1 hV1 => ?_) (fun s1 => ?_)
    · unfold w_Book_str_l1
      refine sg_name (r := [some x_self, some x_lines, some d1, none]) 2 rfl ?_ (pg_name (i := 2) hN rfl (by first | exact .inl rfl | exact .inr rfl))
      refine sb_exp (se_append (se_var 1 rfl (pv 1)) (se_join se_str (se_lst (sa_cons se_str (sa_cons (se_var 2 rfl (pv 2)) (sa_star (se_lc [("one", 3)] (.one 3) rfl hN (blkOk_by rfl) (fun _ _ _ _ _ => pg_name (i := 3) hN rfl (by first | exact .inl rfl | exact .inr rfl)) (by decide) (si_iter (se_ixD hu (se_fld (se_var 0 rfl (pv 0))) (se_var 2 rfl (pv 2)))) (bd_one (r := fun x_one => [some x_self, some x_lines, some d1, some x_one]) (fun _ => rfl) (fun x_one _ _ _ _ _ => (se_orV (se_var 3 rfl (pv 3)) (se_one se_str))))) sa_nil)))))) ?_
      refine sb_part ?_
      exact sb_le hW1 (by walk_at "le")
    · unfold w_Book_str_a2
      refine sb_ifJ (α := Unit) (fun j3 => [some x_self, some x_lines, none, none]) (w_Book_str_j3 T x_self x_lines Qx Q) (st_cmp (se_callB (id := "len") rfl T.z_len (by decide +kernel) (sa_cons (se_fld (se_var 0 rfl (pv 0))) sa_nil) (pLen_ok no1_ok)) se_int oGt_ok) (fun j3 => ?_) (fun W hj3 => ?_) (fun W hj3 => ?_)
      · unfold w_Book_str_j3
        refine sb_ifJ (α := Unit) (fun j4 => [some x_self, some x_lines, none, none]) (w_Book_str_j4 T x_lines Qx Q) (st_cmp (se_callB (id := "len") rfl T.z_len (by decide +kernel) (sa_cons (se_fld (se_var 0 rfl (pv 0))) sa_nil) (pLen_ok no1_ok)) se_int oGt_ok) (fun j4 => ?_) (fun W hj4 => ?_) (fun W hj4 => ?_)
        · unfold w_Book_str_j4
          exact sb_ret (se_drop (se_join se_str (se_var 1 rfl (pv 1)))) (fun _ _ h => h)
        · refine sb_exp (se_append (se_var 1 rfl (pv 1)) (se_join se_str (se_lst (sa_cons se_str (sa_star (se_fld (se_var 0 rfl (pv 0))) sa_nil))))) ?_
          exact sb_le hj4 (by walk_at "le")
        · exact sb_le hj4 (by walk_at "le")
      · refine sb_exp (se_append (se_var 1 rfl (pv 1)) (se_join se_str (se_lst (sa_cons se_str (sa_star (se_fld (se_var 0 rfl (pv 0))) sa_nil))))) ?_
        exact sb_le hj3 (by walk_at "le")
      · exact sb_le hj3 (by walk_at "le")
def w_Book_eq (T : Tp P K mg) (x_self x_other : D) (Qx : QX) (Q : QE) : MB := mRet (eAnd (eArgs (aCons (eVal x_other) (aCons (eVal (.raw (.ref T.c_Book))) aNil)) (on2 (pIsI K))) (eBin (eArgs (aCons (eVal x_self) aNil) (on1 (pStr1 (ownStr T.c_Book (fw_Book_str T))))) (eArgs (aCons (eVal x_other) aNil) (on1 (pStr1 (ownStr T.c_Book (fw_Book_str T))))) (oEq noOwn))) Q
def fw_Book_eq (T : Tp P K mg) : FS := fun ds C Q Qx => match ds with
  | [x_self, x_other] => w_Book_eq T x_self x_other Qx Q C
  | _ => False
theorem cl_Book_eq (T : Tp P K mg) {x_self x_other : D} {Qx : QX} {C : Cells} {Q : QE} (h : w_Book_eq T x_self x_other Qx Q C) : callW (fw_Book_eq T) Qx [x_self, x_other] C Q := call_all h
theorem ok_Book_eq (T : Tp P K mg) : FnG P w K mg base 4 T.f_Book_eq T.d_Book_eq ["self", "other"] (fw_Book_eq T) := by
  refine fnT T.F_Book_eq sc_Book_eq (fun ds C Q Qx h => ?_) (fun cdv A outer s H E X ds C Q hr h => ?_)
  · unfold fw_Book_eq at h; split at h
    · rfl
    · exact h.elim
  · unfold fw_Book_eq at h; split at h
    rotate_left
    · exact h.elim
    have hN := sc_Book_eq.nd
    have hu := hu_G hr
    have hg := hr.gd
    rename_i x_self x_other
    generalize hQx : (fun cls fs C' => ∀ ρ, X.XQ cls fs ρ C' : QX) = Qx at h
    have hX : ∀ ρ cls fs C, Qx cls fs C → X.XQ cls fs ρ C := by subst hQx; exact fun ρ cls fs C h => h ρ
    clear hQx
    revert h; revert C
    show SB X _ [some x_self, some x_other] (w_Book_eq T x_self x_other Qx Q) _
    unfold w_Book_eq
    exact sb_ret (se_and (se_callB (id := "isinstance") rfl T.z_isinstance (by decide +kernel) (sa_cons (se_var 1 rfl (pv 1)) (sa_cons (se_glob (d := .raw (.ref T.c_Book)) (pe_glob (v := .ref T.c_Book) rfl T.g_Book rfl) (fun _ => rfl)) sa_nil)) pIsI_ok) (se_one (se_cmp (se_callTy (id := "str") rfl T.z_str (by decide +kernel) (sa_cons (se_var 0 rfl (pv 0)) sa_nil) (pStr_ok (ownStr_ok T.m_Book_str T.n_Book_str (ok_Book_str T) (hr.mono (by omega)) T.b_Book_str))) (se_callTy (id := "str") rfl T.z_str (by decide +kernel) (sa_cons (se_var 1 rfl (pv 1)) sa_nil) (pStr_ok (ownStr_ok T.m_Book_str T.n_Book_str (ok_Book_str T) (hr.mono (by omega)) T.b_Book_str))) (oEq_ok hu noOwn_ok)))) (fun _ _ h => h)
def w_Book_need_kind (T : Tp P K mg) (x_self x_kind : D) (Qx : QX) (Q : QE) : MB := mIf (tOr (tNot (tVal (eArgs (aCons (eVal x_kind) aNil) fun ds => callW (fw_is_name T) Qx (ds ++ [])))) (tBin (eVal x_kind) (eApp (eVal x_self) (pFld K "kinds")) oNotIn)) (mRaise (eVal x_kind) T.c_NoKind "name" Qx) (mRet (eVal .non) Q)
def fw_Book_need_kind (T : Tp P K mg) : FS := fun ds C Q Qx => match ds with
  | [x_self, x_kind] => w_Book_need_kind T x_self x_kind Qx Q C
  | _ => False
theorem cl_Book_need_kind (T : Tp P K mg) {x_self x_kind : D} {Qx : QX} {C : Cells} {Q : QE} (h : w_Book_need_kind T x_self x_kind Qx Q C) : callW (fw_Book_need_kind T) Qx [x_self, x_kind] C Q := call_all h
theorem ok_Book_need_kind (T : Tp P K mg) : FnG P w K mg base 2 T.f_Book_need_kind T.d_Book_need_kind ["self", "kind"] (fw_Book_need_kind T) := by
  refine fnT T.F_Book_need_kind sc_Book_need_kind (fun ds C Q Qx h => ?_) (fun cdv A outer s H E X ds C Q hr h => ?_)
  · unfold fw_Book_need_kind at h; split at h
    · rfl
    · exact h.elim
  · unfold fw_Book_need_kind at h; split at h
    rotate_left
    · exact h.elim
    have hN := sc_Book_need_kind.nd
    have hu := hu_G hr
    have hg := hr.gd
    rename_i x_self x_kind
    generalize hQx : (fun cls fs C' => ∀ ρ, X.XQ cls fs ρ C' : QX) = Qx at h
    have hX : ∀ ρ cls fs C, Qx cls fs C → X.XQ cls fs ρ C := by subst hQx; exact fun ρ cls fs C h => h ρ
    clear hQx
    revert h; revert C
    show SB X _ [some x_self, some x_kind] (w_Book_need_kind T x_self x_kind Qx Q) _
    unfold w_Book_need_kind
    refine sb_if (st_p (sp_or (st_not (st_val (se_call (dds := []) (ok_is_name T) (hr.mono (by omega)) rfl T.g_is_name T.F_is_name.kp T.b_is_name .nil (fun _ => Reps.nil) (hX _) (sa_cons (se_var 1 rfl (pv 1)) sa_nil)))) (sp_or1 (st_cmp (se_var 1 rfl (pv 1)) (se_fld (se_var 0 rfl (pv 0))) oNotIn_ok)))) ?_ ?_
    · exact sb_raise (k := 0) T.x_NoKind (hr.mono (by omega)) rfl T.g_NoKind (se_var 1 rfl (pv 1)) (hX _)
    · refine sb_more ?_
      exact sb_nil (fun _ h => h)
def w_Book_target (T : Tp P K mg) (x_self x_kind x_value : D) (Qx : QX) (Q : QE) : MB := mExp (eMeth (eVal x_self) (aCons (eVal x_kind) aNil) T.c_Book "need_kind" (fw_Book_need_kind T) Qx []) (mIf (tOr (tNot (tVal (eArgs (aCons (eVal x_value) aNil) fun ds => callW (fw_is_name T) Qx (ds ++ [])))) (tBin (eVal x_value) (eApp (eVal x_self) (pFldW K "choices")) oNotIn)) (mRaise (eVal x_value) T.c_NoKind "name" Qx) (mRet (eBin (eBin (eApp (eVal x_self) (pFld K "targets")) (eVal x_kind) pIxD) (eT1 (eApp (eVal x_self) (pFld K "choices")) (eVal x_value) pIndexT) pIx) Q))
def fw_Book_target (T : Tp P K mg) : FS := fun ds C Q Qx => match ds with
  | [x_self, x_kind, x_value] => w_Book_target T x_self x_kind x_value Qx Q C
  | _ => False
theorem cl_Book_target (T : Tp P K mg) {x_self x_kind x_value : D} {Qx : QX} {C : Cells} {Q : QE} (h : w_Book_target T x_self x_kind x_value Qx Q C) : callW (fw_Book_target T) Qx [x_self, x_kind, x_value] C Q := call_all h
theorem ok_Book_target (T : Tp P K mg) : FnG P w K mg base 3 T.f_Book_target T.d_Book_target ["self", "kind", "value"] (fw_Book_target T) := by
  refine fnT T.F_Book_target sc_Book_target (fun ds C Q Qx h => ?_) (fun cdv A outer s H E X ds C Q hr h => ?_)
  · unfold fw_Book_target at h; split at h
    · rfl
    · exact h.elim
  · unfold fw_Book_target at h; split at h
    rotate_left
    · exact h.elim
    have hN := sc_Book_target.nd
    have hu := hu_G hr
    have hg := hr.gd
    rename_i x_self x_kind x_value
    generalize hQx : (fun cls fs C' => ∀ ρ, X.XQ cls fs ρ C' : QX) = Qx at h
    have hX : ∀ ρ cls fs C, Qx cls fs C → X.XQ cls fs ρ C := by subst hQx; exact fun ρ cls fs C h => h ρ
    clear hQx
    revert h; revert C
    show SB X _ [some x_self, some x_kind, some x_value] (w_Book_target T x_self x_kind x_value Qx Q) _
    unfold w_Book_target
    refine sb_exp (se_meth (dds := []) T.i_Book.c T.m_Book_need_kind (ok_Book_need_kind T) (hr.mono (by omega)) T.b_Book_need_kind .nil (fun _ => Reps.nil) (hX _) (se_var 0 rfl (pv 0)) (sa_cons (se_var 1 rfl (pv 1)) sa_nil)) ?_
    refine sb_if (st_p (sp_or (st_not (st_val (se_call (dds := []) (ok_is_name T) (hr.mono (by omega)) rfl T.g_is_name T.F_is_name.kp T.b_is_name .nil (fun _ => Reps.nil) (hX _) (sa_cons (se_var 2 rfl (pv 2)) sa_nil)))) (sp_or1 (st_cmp (se_var 2 rfl (pv 2)) (se_fldW (se_var 0 rfl (pv 0))) oNotIn_ok)))) ?_ ?_
    · exact sb_raise (k := 0) T.x_NoKind (hr.mono (by omega)) rfl T.g_NoKind (se_var 2 rfl (pv 2)) (hX _)
    · refine sb_more ?_
      exact sb_ret (se_ix (se_ixD hu (se_fld (se_var 0 rfl (pv 0))) (se_var 1 rfl (pv 1))) (se_indexT (se_fld (se_var 0 rfl (pv 0))) (se_var 2 rfl (pv 2)))) (fun _ _ h => h)
def w__law_told_j1 (T : Tp P K mg)  (Qx : QX) (Q : QE) (j1 : D) : MB := mRet (eVal j1) Q
def w__law_told (T : Tp P K mg) (x_book_here x_kind x_value : D) (Qx : QX) (Q : QE) : MB := mSet (eVal (.str "other")) fun x_found => mTry K (.ref T.c_NoKind) (fun X' => mSet (eArgs (aCons (eVal (.str "told")) (aCons (eMeth (eVal x_book_here) (aCons (eVal x_kind) (aCons (eVal x_value) aNil)) T.c_Book "target" (fw_Book_target T) X' []) aNil)) pTup) fun x_found1 => w__law_told_j1 T Qx Q x_found1) (fun fs cls => mPart (mIf (tAnd (tVal (eIsX K cls (eVal (.raw (.ty "KeyError"))))) (tNot (tVal (eIsX K cls (eVal (.raw (.ref T.c_HastyError))))))) (mSet (eArgs (aCons (eVal (.str "none")) (aCons (eXf K "name" cls fs) aNil)) pTup) fun x_found2 => w__law_told_j1 T Qx Q x_found2) (w__law_told_j1 T Qx Q x_found))) Qx
def fw__law_told (T : Tp P K mg) : FS := fun ds C Q Qx => match ds with
  | [x_book_here, x_kind, x_value] => w__law_told T x_book_here x_kind x_value Qx Q C
  | _ => False
theorem cl__law_told (T : Tp P K mg) {x_book_here x_kind x_value : D} {Qx : QX} {C : Cells} {Q : QE} (h : w__law_told T x_book_here x_kind x_value Qx Q C) : callW (fw__law_told T) Qx [x_book_here, x_kind, x_value] C Q := call_all h
theorem ok__law_told (T : Tp P K mg) : FnG P w K mg base 4 T.f__law_told T.d__law_told ["_law_book_here", "_law_kind", "_law_value"] (fw__law_told T) := by
  refine fnT T.F__law_told sc__law_told (fun ds C Q Qx h => ?_) (fun cdv A outer s H E X ds C Q hr h => ?_)
  · unfold fw__law_told at h; split at h
    · rfl
    · exact h.elim
  · unfold fw__law_told at h; split at h
    rotate_left
    · exact h.elim
    have hN := sc__law_told.nd
    have hu := hu_G hr
    have hg := hr.gd
    rename_i x_book_here x_kind x_value
    generalize hQx : (fun cls fs C' => ∀ ρ, X.XQ cls fs ρ C' : QX) = Qx at h
    have hX : ∀ ρ cls fs C, Qx cls fs C → X.XQ cls fs ρ C := by subst hQx; exact fun ρ cls fs C h => h ρ
    clear hQx
    revert h; revert C
    show SB X _ [some x_book_here, some x_kind, some x_value, none, none] (w__law_told T x_book_here x_kind x_value Qx Q) _
    unfold w__law_told
    refine sb_set (r := fun x_found => [some x_book_here, some x_kind, some x_value, some x_found, none]) 3 hN rfl (by first | exact .inl rfl | exact .inr rfl) (fun _ => rfl) se_str (fun x_found => ?_)
    refine sb_try (α := D) (i := 4) (cv := (.ref T.c_NoKind)) (fun j1 => [some x_book_here, some x_kind, some x_value, some j1, none]) (w__law_told_j1 T Qx Q) [some x_book_here, some x_kind, some x_value, some x_found, none] rfl rfl hN rfl rfl ⟨rfl, by decide, .inl T.g_NoKind⟩ (fun ρ' cls fs C h => hX _ _ _ _ h) (fun j1 => ?_) (fun j1 d hd => by cases hd) (fun pn xe T' X' hX' W hj1 => ?_) (fun cls fs a oe dd pn T' hz hfl hA W V B hj1 => ?_)
    · unfold w__law_told_j1
      exact sb_ret (se_var 3 rfl (pv 3)) (fun _ _ h => h)
    · refine sb_set (r := fun x_found1 => [some x_book_here, some x_kind, some x_value, some x_found1, none]) 3 hN rfl (by first | exact .inl rfl | exact .inr rfl) (fun _ => rfl) (se_tup (sa_cons se_str (sa_cons (se_meth (dds := []) T.i_Book.c T.m_Book_target (ok_Book_target T) (hr.mono (by omega)) T.b_Book_target .nil (fun _ => Reps.nil) (fun _ _ _ h => hX' _ (by walk_at "le") _ _ _ h) (se_var 0 rfl (pv 0)) (sa_cons (se_var 1 rfl (pv 1)) (sa_cons (se_var 2 rfl (pv 2)) sa_nil))) sa_nil))) (fun x_found1 => ?_)
      exact sb_le hj1 (by walk_at "le")
    · refine sb_part ?_
      refine sb_if (st_p (sp_and (st_val (se_isX hz hfl hA rfl T.z_isinstance (se_var 4 rfl (pv 4)) (se_ty rfl T.z_KeyError (by decide +kernel)))) (sp_and1 (st_not (st_val (se_isX hz hfl hA rfl T.z_isinstance (se_var 4 rfl (pv 4)) (se_glob (d := .raw (.ref T.c_HastyError)) (pe_glob (v := .ref T.c_HastyError) rfl T.g_HastyError rfl) (fun _ => rfl)))))))) ?_ ?_
      · refine sb_set (r := fun x_found2 => [some x_book_here, some x_kind, some x_value, some x_found2, some ((.raw (.ref a)))]) 3 hN rfl (by first | exact .inl rfl | exact .inr rfl) (fun _ => rfl) (se_tup (sa_cons se_str (sa_cons (se_xf hz hfl hA (se_var 4 rfl (pv 4))) sa_nil))) (fun x_found2 => ?_)
        refine sb_more ?_
        exact sb_le hj1 (by walk_at "le")
      · refine sb_more ?_
        exact sb_le hj1 (by walk_at "le")
def w__law_any (T : Tp P K mg) (frec : FS) (x_deal_here x_deep : D) (Qx : QX) (Q : QE) : MB := mIf (tAnd (tBin (eVal x_deep) (eVal (.int 0)) oGt) (tBin (eArgs (aCons (eVal x_deal_here) (aCons (eVal (.int 3)) aNil)) fun ds => callW (fw__law_draw T) Qx (ds ++ [])) (eVal (.int 0)) (oEq noOwn))) (mSet (eLc (iApp (eArgs (aCons (eVal x_deal_here) (aCons (eVal (.int 4)) aNil)) fun ds => callW (fw__law_draw T) Qx (ds ++ [])) pRange1) (fun x_turn => (eArgs (aCons (eVal x_deal_here) (aCons (eBin (eVal x_deep) (eVal (.int 1)) oSub) aNil)) fun ds => callW frec (fun _ _ _ => False) (ds ++ [])))) fun x_inner => mRet (eIf (tBin (eArgs (aCons (eVal x_deal_here) (aCons (eVal (.int 2)) aNil)) fun ds => callW (fw__law_draw T) Qx (ds ++ [])) (eVal (.int 0)) (oEq noOwn)) (eVal x_inner) (eArgs (aCons (eVal x_inner) aNil) (on1 pTuple1))) Q) (mSet (eArgs (aCons (eVal .non) (aCons (eVal (.bl true)) (aCons (eVal (.bl false)) (aCons (eVal (.int 0)) (aCons (eVal (.int 1)) (aCons (eBin (eVal (.int 0)) (eVal (.int 3)) oSub) (aCons (eBin (eVal (.int 10)) (eVal (.int 9)) oPow) (aCons (eVal (.str "")) (aCons (eVal (.str "a")) (aCons (eVal (.str "no")) (aCons (eVal (.str "yes")) (aCons (eVal (.str "abcde")) (aCons (eVal (.str "A")) (aCons (eVal (.str "x y")) (aCons (eArgs (aCons (eVal (.str "a")) (aCons (eArgs (aCons (eVal (.str "a")) aNil) pTup) aNil)) pTup) (aCons (eVal (.str "on")) aNil)))))))))))))))) pLst) fun x_some => mRet (eBin (eVal x_some) (eArgs (aCons (eVal x_deal_here) (aCons (eVal (.int 16)) aNil)) fun ds => callW (fw__law_draw T) Qx (ds ++ [])) pIx) Q)
def fw__law_any (T : Tp P K mg) : Nat → FS
  | 0 => fun _ _ _ _ => False
  | n + 1 => fun ds C Q Qx => match ds with
    | [x_deal_here, x_deep] => w__law_any T (fw__law_any T n) x_deal_here x_deep Qx Q C
    | _ => False
theorem cl__law_any (T : Tp P K mg) {n : Nat} {x_deal_here x_deep : D} {Qx : QX} {C : Cells} {Q : QE} (h : w__law_any T (fw__law_any T n) x_deal_here x_deep Qx Q C) : callW (fw__law_any T (n + 1)) Qx [x_deal_here, x_deep] C Q := call_all h
theorem ok__law_any (T : Tp P K mg) : ∀ n, FnG P w K mg base (1 + n + 1) T.f__law_any T.d__law_any ["_law_deal_here", "_law_deep"] (fw__law_any T n)
  | 0 => ⟨fun _ _ _ _ h => h.elim, fun _ _ _ _ _ _ _ _ _ _ _ _ _ ⟨_, _, _, _, _, _, _, h, _⟩ => h.elim⟩
  | n + 1 => by
    have ihr := ok__law_any T n
    show FnG P w K mg base _ _ _ _ (fun ds C Q Qx => match ds with
    | [x_deal_here, x_deep] => w__law_any T (fw__law_any T n) x_deal_here x_deep Qx Q C
    | _ => False)
    generalize fw__law_any T n = frec at ihr ⊢
    refine fnT T.F__law_any sc__law_any (fun ds C Q Qx h => ?_) (fun cdv A outer s H E X ds C Q hr h => ?_)
    · skip; split at h
      · rfl
      · exact h.elim
    · skip; split at h
      rotate_left
      · exact h.elim
      have hN := sc__law_any.nd
      have hu := hu_G hr
      have hg := hr.gd
      rename_i x_deal_here x_deep
      generalize hQx : (fun cls fs C' => ∀ ρ, X.XQ cls fs ρ C' : QX) = Qx at h
      have hX : ∀ ρ cls fs C, Qx cls fs C → X.XQ cls fs ρ C := by subst hQx; exact fun ρ cls fs C h => h ρ
      clear hQx
      revert h; revert C
      show SB X _ [some x_deal_here, some x_deep, none, none, none] (w__law_any T frec x_deal_here x_deep Qx Q) _
      unfold w__law_any
      refine sb_if (st_p (sp_and (st_cmp (se_var 1 rfl (pv 1)) se_int oGt_ok) (sp_and1 (st_cmp (se_call (dds := []) (ok__law_draw T) (hr.mono (by omega)) rfl T.g__law_draw T.F__law_draw.kp T.b__law_draw .nil (fun _ => Reps.nil) (hX _) (sa_cons (se_var 0 rfl (pv 0)) (sa_cons se_int sa_nil))) se_int (oEq_ok hu noOwn_ok))))) ?_ ?_
      · first | refine sb_setLc (r := fun x_inner => [some x_deal_here, some x_deep, some x_inner, none, none]) [("_law_turn", 4)] (.one 4) 2 rfl hN rfl rfl (sw_true rfl rfl rfl rfl) (blkOk_by rfl) (fun _ _ _ _ _ => pg_name (i := 4) hN rfl (by first | exact .inl rfl | exact .inr rfl)) (by decide) (si_range1 rfl T.z_range (se_call (dds := []) (ok__law_draw T) (hr.mono (by omega)) rfl T.g__law_draw T.F__law_draw.kp T.b__law_draw .nil (fun _ => Reps.nil) (hX _) (sa_cons (se_var 0 rfl (pv 0)) (sa_cons se_int sa_nil)))) (bd_one (r := fun x_turn => [some x_deal_here, some x_deep, none, none, some x_turn]) (fun _ => rfl) (fun x_turn _ _ _ _ _ => (se_call (dds := []) ihr (hr.mono (by omega)) rfl T.g__law_any T.F__law_any.kp T.b__law_any .nil (fun _ => Reps.nil) (fun _ _ _ h => h.elim) (sa_cons (se_var 0 rfl (pv 0)) (sa_cons (se_bin (se_var 1 rfl (pv 1)) se_int oSub_ok) sa_nil))))) (fun _ => rfl) (fun x_inner => ?_) | refine sb_set (r := fun x_inner => [some x_deal_here, some x_deep, some x_inner, none, none]) 2 hN rfl (by first | exact .inl rfl | exact .inr rfl) (fun _ => rfl) (se_lc [("_law_turn", 4)] (.one 4) rfl hN (blkOk_by rfl) (fun _ _ _ _ _ => pg_name (i := 4) hN rfl (by first | exact .inl rfl | exact .inr rfl)) (by decide) (si_range1 rfl T.z_range (se_call (dds := []) (ok__law_draw T) (hr.mono (by omega)) rfl T.g__law_draw T.F__law_draw.kp T.b__law_draw .nil (fun _ => Reps.nil) (hX _) (sa_cons (se_var 0 rfl (pv 0)) (sa_cons se_int sa_nil)))) (bd_one (r := fun x_turn => [some x_deal_here, some x_deep, none, none, some x_turn]) (fun _ => rfl) (fun x_turn _ _ _ _ _ => (se_call (dds := []) ihr (hr.mono (by omega)) rfl T.g__law_any T.F__law_any.kp T.b__law_any .nil (fun _ => Reps.nil) (fun _ _ _ h => h.elim) (sa_cons (se_var 0 rfl (pv 0)) (sa_cons (se_bin (se_var 1 rfl (pv 1)) se_int oSub_ok) sa_nil)))))) (fun x_inner => ?_)
        exact sb_ret (se_if (st_cmp (se_call (dds := []) (ok__law_draw T) (hr.mono (by omega)) rfl T.g__law_draw T.F__law_draw.kp T.b__law_draw .nil (fun _ => Reps.nil) (hX _) (sa_cons (se_var 0 rfl (pv 0)) (sa_cons se_int sa_nil))) se_int (oEq_ok hu noOwn_ok)) (se_var 2 rfl (pv 2)) (se_callTy (id := "tuple") rfl T.z_tuple (by decide +kernel) (sa_cons (se_var 2 rfl (pv 2)) sa_nil) pTuple_ok)) (fun _ _ h => h)
      · refine sb_more ?_
        refine sb_set (r := fun x_some => [some x_deal_here, some x_deep, none, some x_some, none]) 3 hN rfl (by first | exact .inl rfl | exact .inr rfl) (fun _ => rfl) (se_lst (sa_cons se_non (sa_cons se_bl (sa_cons se_bl (sa_cons se_int (sa_cons se_int (sa_cons (se_bin se_int se_int oSub_ok) (sa_cons (se_bin se_int se_int oPow_ok) (sa_cons se_str (sa_cons se_str (sa_cons se_str (sa_cons se_str (sa_cons se_str (sa_cons se_str (sa_cons se_str (sa_cons (se_tup (sa_cons se_str (sa_cons (se_tup (sa_cons se_str sa_nil)) sa_nil))) (sa_cons se_str sa_nil))))))))))))))))) (fun x_some => ?_)
        exact sb_ret (se_ix (se_var 3 rfl (pv 3)) (se_call (dds := []) (ok__law_draw T) (hr.mono (by omega)) rfl T.g__law_draw T.F__law_draw.kp T.b__law_draw .nil (fun _ => Reps.nil) (hX _) (sa_cons (se_var 0 rfl (pv 0)) (sa_cons se_int sa_nil)))) (fun _ _ h => h)
def w_law_a2 (T : Tp P K mg)  (Qx : QX) (Q : QE) (s1 : Unit) : MB := mRet (eVal (.bl true)) Q
def w_law_a6 (T : Tp P K mg) (x_made : D) (x_names : D) (nx1 : (Unit) → MB) (Qx : QX) (Q : QE) (s5 : Unit) : MB := mIf (tAnd (tBin (eVal x_names) (eArgs aNil pLst) (oNe (ownB K T.c_Book (fw_Book_eq T) true))) (tBin (eArgs (aCons (eArgs (aCons (eVal x_made) (aCons (eVal (.str "zq")) (aCons (eVal (.str "zq")) aNil))) fun ds => callW (fw__law_told T) Qx (ds ++ [])) aNil) (on1 pRepr1)) (eArgs (aCons (eArgs (aCons (eVal (.str "none")) (aCons (eVal (.str "zq")) aNil)) pTup) aNil) (on1 pRepr1)) (oNe (ownB K T.c_Book (fw_Book_eq T) true)))) (mRet (eVal (.bl false)) Q) (mPart (nx1 ()))
def w_law_j7 (T : Tp P K mg) (x_some : D) (x_made : D) (x_names : D) (x_other : D) (nx5 : (Unit) → MB) (Qx : QX) (Q : QE) (j7 : Unit) : MB := mIf (tAnd (tBin (eVal x_names) (eArgs aNil pLst) (oNe (ownB K T.c_Book (fw_Book_eq T) true))) (tOr (tNot (tVal (eArgs (aCons (eVal x_other) (aCons (eVal (.raw (.ty "str"))) aNil)) (on2 (pIsI K))))) (tBin (eVal x_other) (eVal x_some) oNotIn))) (mIf (tBin (eArgs (aCons (eArgs (aCons (eVal x_made) (aCons (eBin (eVal x_names) (eVal (.int 0)) pIx) (aCons (eVal x_other) aNil))) fun ds => callW (fw__law_told T) Qx (ds ++ [])) aNil) (on1 pRepr1)) (eArgs (aCons (eArgs (aCons (eVal (.str "none")) (aCons (eVal x_other) aNil)) pTup) aNil) (on1 pRepr1)) (oNe (ownB K T.c_Book (fw_Book_eq T) true))) (mRet (eVal (.bl false)) Q) (mPart (nx5 ()))) (mPart (nx5 ()))
def w_law_l5 (T : Tp P K mg) (x_deal_here : D) (x_some : D) (x_made : D) (x_names : D) (Qx : QX) (Q : QE) (d5 : D) (s5 : Unit) (nx5 : (Unit) → MB) (bk5 : (Unit) → MB) : MB := mSet (eArgs (aCons (eVal x_deal_here) (aCons (eVal (.int 2)) aNil)) fun ds => callW (fw__law_any T 3) Qx (ds ++ [])) fun x_one => mSet (eArgs (aCons (eVal x_deal_here) (aCons (eVal (.int 2)) aNil)) fun ds => callW (fw__law_any T 3) Qx (ds ++ [])) fun x_other => mIf (tOr (tNot (tVal (eArgs (aCons (eVal x_one) (aCons (eVal (.raw (.ty "str"))) aNil)) (on2 (pIsI K))))) (tBin (eVal x_one) (eVal x_names) oNotIn)) (mIf (tBin (eArgs (aCons (eArgs (aCons (eVal x_made) (aCons (eVal x_one) (aCons (eVal x_other) aNil))) fun ds => callW (fw__law_told T) Qx (ds ++ [])) aNil) (on1 pRepr1)) (eArgs (aCons (eArgs (aCons (eVal (.str "none")) (aCons (eVal x_one) aNil)) pTup) aNil) (on1 pRepr1)) (oNe (ownB K T.c_Book (fw_Book_eq T) true))) (mRet (eVal (.bl false)) Q) (w_law_j7 T x_some x_made x_names x_other nx5 Qx Q ())) (w_law_j7 T x_some x_made x_names x_other nx5 Qx Q ())
def w_law_a4 (T : Tp P K mg) (x_deal_here : D) (x_some : D) (x_made : D) (x_names : D) (nx1 : (Unit) → MB) (Qx : QX) (Q : QE) (s3 : Unit) : MB := mFor (α := Unit) (iApp (eVal (.int 6)) pRange1) (w_law_l5 T x_deal_here x_some x_made x_names Qx Q) () (w_law_a6 T x_made x_names nx1 Qx Q)
def w_law_a9 (T : Tp P K mg) (nx3 : (Unit) → MB) (Qx : QX) (Q : QE) (s8 : Unit) : MB := mPart (nx3 ())
def w_law_l8 (T : Tp P K mg) (x_made : D) (x_name1 : D) (x_targets1 : D) (Qx : QX) (Q : QE) (d8 : D) (s8 : Unit) (nx8 : (Unit) → MB) (bk8 : (Unit) → MB) : MB := mUn2 d8 fun x_at x_value => mIf (tBin (eArgs (aCons (eArgs (aCons (eVal x_made) (aCons (eVal x_name1) (aCons (eVal x_value) aNil))) fun ds => callW (fw__law_told T) Qx (ds ++ [])) aNil) (on1 pRepr1)) (eArgs (aCons (eArgs (aCons (eVal (.str "told")) (aCons (eBin (eVal x_targets1) (eVal x_at) pIx) aNil)) pTup) aNil) (on1 pRepr1)) (oNe (ownB K T.c_Book (fw_Book_eq T) true))) (mRet (eVal (.bl false)) Q) (mPart (nx8 ()))
def w_law_l3 (T : Tp P K mg) (x_some : D) (x_made : D) (Qx : QX) (Q : QE) (d3 : D) (s3 : Unit) (nx3 : (Unit) → MB) (bk3 : (Unit) → MB) : MB := mUn2 d3 fun x_name1 x_targets1 => mFor (α := Unit) (iApp (eVal x_some) pEnum) (w_law_l8 T x_made x_name1 x_targets1 Qx Q) () (w_law_a9 T nx3 Qx Q)
def w_law_l1 (T : Tp P K mg) (x_deal_here : D) (Qx : QX) (Q : QE) (d1 : D) (s1 : Unit) (nx1 : (Unit) → MB) (bk1 : (Unit) → MB) : MB := mSet (eArgs (aCons (eVal x_deal_here) (aCons (eVal (.int 4)) aNil)) fun ds => callW (fw__law_book T) Qx (ds ++ [])) fun x_d => mUn4 x_d fun x_some x_kinds x_loose x_others => mSet (eArgs (aCons (eVal x_some) (aCons (eVal x_kinds) (aCons (eVal x_loose) (aCons (eVal x_others) aNil)))) fun ds => pMkF (fw_Book_init T) Qx T.c_Book (ds ++ [])) fun x_made => mSet (eLc (iApp (eVal x_kinds) pIter) (fun d => un2 d fun x_name x_targets => (eVal x_name))) fun x_names => mFor (α := Unit) (iApp (eVal x_kinds) pIter) (w_law_l3 T x_some x_made Qx Q) () (w_law_a4 T x_deal_here x_some x_made x_names nx1 Qx Q)
def w_law (T : Tp P K mg) (x_script : D) (Qx : QX) (Q : QE) : MB := mSet (eArgs (aCons (eVal x_script) (aCons (eVal (.int 0)) aNil)) fun ds => callW (fw__law_deal T) Qx (ds ++ [])) fun x_deal_here => mFor (α := Unit) (iApp (eVal (.int 4)) pRange1) (w_law_l1 T x_deal_here Qx Q) () (w_law_a2 T Qx Q)
def fw_law (T : Tp P K mg) : FS := fun ds C Q Qx => match ds with
  | [x_script] => w_law T x_script Qx Q C
  | _ => False
theorem cl_law (T : Tp P K mg) {x_script : D} {Qx : QX} {C : Cells} {Q : QE} (h : w_law T x_script Qx Q C) : callW (fw_law T) Qx [x_script] C Q := call_all h
theorem ok_law (T : Tp P K mg) : FnG P w K mg base 6 T.f_law T.d_law ["_law_script"] (fw_law T) := by
  refine fnT T.F_law sc_law (fun ds C Q Qx h => ?_) (fun cdv A outer s H E X ds C Q hr h => ?_)
  · unfold fw_law at h; split at h
    · rfl
    · exact h.elim
  · unfold fw_law at h; split at h
    rotate_left
    · exact h.elim
    have hN := sc_law.nd
    have hu := hu_G hr
    have hg := hr.gd
    rename_i x_script
    generalize hQx : (fun cls fs C' => ∀ ρ, X.XQ cls fs ρ C' : QX) = Qx at h
    have hX : ∀ ρ cls fs C, Qx cls fs C → X.XQ cls fs ρ C := by subst hQx; exact fun ρ cls fs C h => h ρ
    clear hQx
    revert h; revert C
    show SB X _ [some x_script, none, none, none, none, none, none, none, none, none, none, none, none, none, none, none] (w_law T x_script Qx Q) _
    unfold w_law
    refine sb_set (r := fun x_deal_here => [some x_script, some x_deal_here, none, none, none, none, none, none, none, none, none, none, none, none, none, none]) 1 hN rfl (by first | exact .inl rfl | exact .inr rfl) (fun _ => rfl) (se_call (dds := []) (ok__law_deal T) (hr.mono (by omega)) rfl T.g__law_deal T.F__law_deal.kp T.b__law_deal .nil (fun _ => Reps.nil) (hX _) (sa_cons (se_var 0 rfl (pv 0)) (sa_cons se_int sa_nil))) (fun x_deal_here => ?_)
    refine sb_for (α := Unit) (fun s1 => [some x_script, some x_deal_here, none, none, none, none, none, none, none, none, none, none, none, none, none, none]) rfl (si_range1 rfl T.z_range se_int) (by walk_at "le") (fun d1 s1 nx1 bk1 W V hW1 hV1 => ?_) (fun s1 => ?_)
    · unfold w_law_l1
      refine sg_name (r := [some x_script, some x_deal_here, some d1, none, none, none, none, none, none, none, none, none, none, none, none, none]) 2 rfl ?_ (pg_name (i := 2) hN rfl (by first | exact .inl rfl | exact .inr rfl))
      refine sb_asg (se_call (dds := []) (ok__law_book T) (hr.mono (by omega)) rfl T.g__law_book T.F__law_book.kp T.b__law_book .nil (fun _ => Reps.nil) (hX _) (sa_cons (se_var 1 rfl (pv 1)) (sa_cons se_int sa_nil))) (fun x_d => ?_)
      refine sg_four (r := fun x_some x_kinds x_loose x_others => [some x_script, some x_deal_here, some d1, some x_some, some x_kinds, some x_loose, some x_others, none, none, none, none, none, none, none, none, none]) rfl (fun _ _ _ _ => (gs_cons 3 (pg_name (i := 3) hN rfl (by first | exact .inl rfl | exact .inr rfl)) (gs_cons 4 (pg_name (i := 4) hN rfl (by first | exact .inl rfl | exact .inr rfl)) (gs_cons 5 (pg_name (i := 5) hN rfl (by first | exact .inl rfl | exact .inr rfl)) (gs_cons 6 (pg_name (i := 6) hN rfl (by first | exact .inl rfl | exact .inr rfl)) gs_nil))))) (fun x_some x_kinds x_loose x_others => ?_)
      refine sb_par (r := fun x_made x_names => [some x_script, some x_deal_here, some d1, some x_some, some x_kinds, some x_loose, some x_others, some x_made, some x_names, none, none, none, none, none, none, none]) 7 8 hN rfl rfl (by decide) rfl rfl rfl (se_mkF (se_make (dds := []) T.mk_Book (ok_Book_init T) (hr.mono (by omega)) rfl T.g_Book T.b_Book_init .nil (fun _ => Reps.nil) (hX _) (sa_cons (se_var 3 rfl (pv 3)) (sa_cons (se_var 4 rfl (pv 4)) (sa_cons (se_var 5 rfl (pv 5)) (sa_cons (se_var 6 rfl (pv 6)) sa_nil)))))) (se_lc [("_law_name", 9), ("_law_targets", 10)] (.tup [9, 10]) rfl hN (blkOk_by rfl) (fun _ _ _ _ _ => pg_tup rfl (pgs_cons (pg_name (i := 9) hN rfl (by first | exact .inl rfl | exact .inr rfl)) (pgs_cons (pg_name (i := 10) hN rfl (by first | exact .inl rfl | exact .inr rfl)) pgs_nil))) (by decide) (si_iter (se_var 4 rfl (pv 4))) (bd_two (r := fun x_name x_targets => [some x_script, some x_deal_here, some d1, some x_some, some x_kinds, some x_loose, some x_others, none, none, some x_name, some x_targets, none, none, none, none, none]) (fun _ _ => rfl) (fun x_name x_targets _ _ _ _ _ => (se_var 9 rfl (pv 9))))) (fun _ _ => rfl) (fun x_made x_names => ?_)
      refine sb_for (α := Unit) (fun s3 => [some x_script, some x_deal_here, some d1, some x_some, some x_kinds, some x_loose, some x_others, some x_made, some x_names, none, none, none, none, none, none, none]) rfl (si_iter (se_var 4 rfl (pv 4))) (by walk_at "le") (fun d3 s3 nx3 bk3 W V hW3 hV3 => ?_) (fun s3 => ?_)
      · unfold w_law_l3
        refine sg_two (r := fun x_name1 x_targets1 => [some x_script, some x_deal_here, some d1, some x_some, some x_kinds, some x_loose, some x_others, some x_made, some x_names, some x_name1, some x_targets1, none, none, none, none, none]) rfl (fun _ _ => (gs_cons 9 (pg_name (i := 9) hN rfl (by first | exact .inl rfl | exact .inr rfl)) (gs_cons 10 (pg_name (i := 10) hN rfl (by first | exact .inl rfl | exact .inr rfl)) gs_nil))) (fun x_name1 x_targets1 => ?_)
        refine sb_for (α := Unit) (fun s8 => [some x_script, some x_deal_here, some d1, some x_some, some x_kinds, some x_loose, some x_others, some x_made, some x_names, some x_name1, some x_targets1, none, none, none, none, none]) rfl (si_enum rfl T.z_enumerate (se_var 3 rfl (pv 3))) (by walk_at "le") (fun d8 s8 nx8 bk8 W V hW8 hV8 => ?_) (fun s8 => ?_)
        · unfold w_law_l8
          refine sg_two (r := fun x_at x_value => [some x_script, some x_deal_here, some d1, some x_some, some x_kinds, some x_loose, some x_others, some x_made, some x_names, some x_name1, some x_targets1, some x_at, some x_value, none, none, none]) rfl (fun _ _ => (gs_cons 11 (pg_name (i := 11) hN rfl (by first | exact .inl rfl | exact .inr rfl)) (gs_cons 12 (pg_name (i := 12) hN rfl (by first | exact .inl rfl | exact .inr rfl)) gs_nil))) (fun x_at x_value => ?_)
          refine sb_if (st_cmp (se_callB (id := "repr") rfl T.z_repr (by decide +kernel) (sa_cons (se_call (dds := []) (ok__law_told T) (hr.mono (by omega)) rfl T.g__law_told T.F__law_told.kp T.b__law_told .nil (fun _ => Reps.nil) (hX _) (sa_cons (se_var 7 rfl (pv 7)) (sa_cons (se_var 9 rfl (pv 9)) (sa_cons (se_var 12 rfl (pv 12)) sa_nil)))) sa_nil) (pRepr_ok hg hu)) (se_callB (id := "repr") rfl T.z_repr (by decide +kernel) (sa_cons (se_tup (sa_cons se_str (sa_cons (se_ix (se_var 10 rfl (pv 10)) (se_var 11 rfl (pv 11))) sa_nil))) sa_nil) (pRepr_ok hg hu)) (oNe_ok hu (ownNe_ok T.ne_Book T.i_Book.cm T.m_Book_eq T.n_Book_eq (ok_Book_eq T) (hr.mono (by omega)) T.b_Book_eq))) ?_ ?_
          · exact sb_ret se_bl (fun _ _ h => h)
          · refine sb_more ?_
            refine sb_part ?_
            exact sb_le hW8 (by walk_at "le")
        · unfold w_law_a9
          refine sb_part ?_
          exact sb_le hW3 (by walk_at "le")
      · unfold w_law_a4
        refine sb_for (α := Unit) (fun s5 => [some x_script, some x_deal_here, some d1, some x_some, some x_kinds, some x_loose, some x_others, some x_made, some x_names, none, none, none, none, none, none, none]) rfl (si_range1 rfl T.z_range se_int) (by walk_at "le") (fun d5 s5 nx5 bk5 W V hW5 hV5 => ?_) (fun s5 => ?_)
        · unfold w_law_l5
          refine sg_name (r := [some x_script, some x_deal_here, some d1, some x_some, some x_kinds, some x_loose, some x_others, some x_made, some x_names, none, none, none, none, some d5, none, none]) 13 rfl ?_ (pg_name (i := 13) hN rfl (by first | exact .inl rfl | exact .inr rfl))
          refine sb_par (r := fun x_one x_other => [some x_script, some x_deal_here, some d1, some x_some, some x_kinds, some x_loose, some x_others, some x_made, some x_names, none, none, none, none, some d5, some x_one, some x_other]) 14 15 hN rfl rfl (by decide) rfl rfl rfl (se_call (dds := []) (ok__law_any T 3) (hr.mono (by omega)) rfl T.g__law_any T.F__law_any.kp T.b__law_any .nil (fun _ => Reps.nil) (hX _) (sa_cons (se_var 1 rfl (pv 1)) (sa_cons se_int sa_nil))) (se_call (dds := []) (ok__law_any T 3) (hr.mono (by omega)) rfl T.g__law_any T.F__law_any.kp T.b__law_any .nil (fun _ => Reps.nil) (hX _) (sa_cons (se_var 1 rfl (pv 1)) (sa_cons se_int sa_nil))) (fun _ _ => rfl) (fun x_one x_other => ?_)
          refine sb_ifJ (α := Unit) (fun j7 => [some x_script, some x_deal_here, some d1, some x_some, some x_kinds, some x_loose, some x_others, some x_made, some x_names, none, none, none, none, some d5, some x_one, some x_other]) (w_law_j7 T x_some x_made x_names x_other nx5 Qx Q) (st_p (sp_or (st_not (st_val (se_callB (id := "isinstance") rfl T.z_isinstance (by decide +kernel) (sa_cons (se_var 14 rfl (pv 14)) (sa_cons (se_ty rfl T.z_str (by decide +kernel)) sa_nil)) pIsI_ok))) (sp_or1 (st_cmp (se_var 14 rfl (pv 14)) (se_var 8 rfl (pv 8)) oNotIn_ok)))) (fun j7 => ?_) (fun W hj7 => ?_) (fun W hj7 => ?_)
          · unfold w_law_j7
            refine sb_if (st_p (sp_and (st_cmp (se_var 8 rfl (pv 8)) (se_lst sa_nil) (oNe_ok hu (ownNe_ok T.ne_Book T.i_Book.cm T.m_Book_eq T.n_Book_eq (ok_Book_eq T) (hr.mono (by omega)) T.b_Book_eq))) (sp_and1 (st_p (sp_or (st_not (st_val (se_callB (id := "isinstance") rfl T.z_isinstance (by decide +kernel) (sa_cons (se_var 15 rfl (pv 15)) (sa_cons (se_ty rfl T.z_str (by decide +kernel)) sa_nil)) pIsI_ok))) (sp_or1 (st_cmp (se_var 15 rfl (pv 15)) (se_var 3 rfl (pv 3)) oNotIn_ok))))))) ?_ ?_
            · refine sb_if (st_cmp (se_callB (id := "repr") rfl T.z_repr (by decide +kernel) (sa_cons (se_call (dds := []) (ok__law_told T) (hr.mono (by omega)) rfl T.g__law_told T.F__law_told.kp T.b__law_told .nil (fun _ => Reps.nil) (hX _) (sa_cons (se_var 7 rfl (pv 7)) (sa_cons (se_ix (se_var 8 rfl (pv 8)) se_int) (sa_cons (se_var 15 rfl (pv 15)) sa_nil)))) sa_nil) (pRepr_ok hg hu)) (se_callB (id := "repr") rfl T.z_repr (by decide +kernel) (sa_cons (se_tup (sa_cons se_str (sa_cons (se_var 15 rfl (pv 15)) sa_nil))) sa_nil) (pRepr_ok hg hu)) (oNe_ok hu (ownNe_ok T.ne_Book T.i_Book.cm T.m_Book_eq T.n_Book_eq (ok_Book_eq T) (hr.mono (by omega)) T.b_Book_eq))) ?_ ?_
              · exact sb_ret se_bl (fun _ _ h => h)
              · refine sb_more ?_
                refine sb_more ?_
                refine sb_part ?_
                exact sb_le hW5 (by walk_at "le")
            · refine sb_more ?_
              refine sb_part ?_
              exact sb_le hW5 (by walk_at "le")
          · refine sb_if (st_cmp (se_callB (id := "repr") rfl T.z_repr (by decide +kernel) (sa_cons (se_call (dds := []) (ok__law_told T) (hr.mono (by omega)) rfl T.g__law_told T.F__law_told.kp T.b__law_told .nil (fun _ => Reps.nil) (hX _) (sa_cons (se_var 7 rfl (pv 7)) (sa_cons (se_var 14 rfl (pv 14)) (sa_cons (se_var 15 rfl (pv 15)) sa_nil)))) sa_nil) (pRepr_ok hg hu)) (se_callB (id := "repr") rfl T.z_repr (by decide +kernel) (sa_cons (se_tup (sa_cons se_str (sa_cons (se_var 14 rfl (pv 14)) sa_nil))) sa_nil) (pRepr_ok hg hu)) (oNe_ok hu (ownNe_ok T.ne_Book T.i_Book.cm T.m_Book_eq T.n_Book_eq (ok_Book_eq T) (hr.mono (by omega)) T.b_Book_eq))) ?_ ?_
            · exact sb_ret se_bl (fun _ _ h => h)
            · refine sb_more ?_
              exact sb_le hj7 (by walk_at "le")
          · exact sb_le hj7 (by walk_at "le")
        · unfold w_law_a6
          refine sb_if (st_p (sp_and (st_cmp (se_var 8 rfl (pv 8)) (se_lst sa_nil) (oNe_ok hu (ownNe_ok T.ne_Book T.i_Book.cm T.m_Book_eq T.n_Book_eq (ok_Book_eq T) (hr.mono (by omega)) T.b_Book_eq))) (sp_and1 (st_cmp (se_callB (id := "repr") rfl T.z_repr (by decide +kernel) (sa_cons (se_call (dds := []) (ok__law_told T) (hr.mono (by omega)) rfl T.g__law_told T.F__law_told.kp T.b__law_told .nil (fun _ => Reps.nil) (hX _) (sa_cons (se_var 7 rfl (pv 7)) (sa_cons se_str (sa_cons se_str sa_nil)))) sa_nil) (pRepr_ok hg hu)) (se_callB (id := "repr") rfl T.z_repr (by decide +kernel) (sa_cons (se_tup (sa_cons se_str (sa_cons se_str sa_nil))) sa_nil) (pRepr_ok hg hu)) (oNe_ok hu (ownNe_ok T.ne_Book T.i_Book.cm T.m_Book_eq T.n_Book_eq (ok_Book_eq T) (hr.mono (by omega)) T.b_Book_eq)))))) ?_ ?_
          · exact sb_ret se_bl (fun _ _ h => h)
          · refine sb_more ?_
            refine sb_part ?_
            exact sb_le hW1 (by walk_at "le")
    · unfold w_law_a2
      exact sb_ret se_bl (fun _ _ h => h)
end
end Kk

namespace Kk
open PySem L2 PySem.Spec PyProof.Rows Tr
set_option hygiene false
local macro_rules | `(tactic| walk_at "cell") => `(tactic| first | exact LstD.l | exact LstD.c (i := 0) rfl | exact LstD.c (i := 1) rfl | exact LstD.c (i := 2) rfl | exact LstD.c (i := 3) rfl | exact LstD.c (i := 4) rfl | exact LstD.c (i := 5) rfl | exact LstD.c (i := 6) rfl | exact LstD.c (i := 7) rfl | with_reducible assumption)
local macro_rules | `(tactic| walk_at "sq") => `(tactic| first | exact SeqD.l | exact SeqD.t | exact SeqD.c (i := 0) rfl | exact SeqD.c (i := 1) rfl | exact SeqD.c (i := 2) rfl | exact SeqD.c (i := 3) rfl | exact SeqD.c (i := 4) rfl | exact SeqD.c (i := 5) rfl | exact SeqD.c (i := 6) rfl | exact SeqD.c (i := 7) rfl | with_reducible assumption)
local macro_rules | `(tactic| walk_at "n") => `(tactic| first | with_reducible assumption | omega | (simp only [List.length_cons, List.length_nil, List.length_map, List.length_append, rangeD_len]; omega) | decide | (simp; done) | (simp; omega) | (simp at *; omega) | exact Or.inl ⟨by decide, by decide⟩ | exact Or.inr ⟨by decide, by decide⟩ | exact ⟨by decide, by decide⟩ | exact ⟨by decide, by decide, by decide⟩)
local macro_rules | `(tactic| walk_at "nm") => `(tactic| first | exact Or.inl (by decide) | exact Or.inr (by decide) | exact Or.inl (by omega) | exact Or.inr (by omega))
local macro_rules | `(tactic| walk_at "p") => `(tactic| first
  | ((with_reducible show oAdd _ _ _ _); first | with_reducible refine s_add_int ?_ | with_reducible refine s_add_str ?_ | with_reducible refine s_add_tup ?_ | with_reducible refine s_add_lst ?_ | refine s_add_cell (by walk_at "cell") (by walk_at "cell") ?_)
  | ((with_reducible show oAddO _ _ _ _ _); first | refine s_addO rfl ?_ | refine s_addOI ?_)
  | ((with_reducible show pIxO _ _ _ _ _ _ _); refine s_ixO rfl ?_)
  | ((with_reducible show oSub _ _ _ _); first | with_reducible refine s_sub ?_)
  | ((with_reducible show oMul _ _ _ _); first | with_reducible refine s_mul ?_)
  | ((with_reducible show oFdiv _ _ _ _); first | with_reducible refine s_fdiv ?_)
  | ((with_reducible show oMod _ _ _ _); first | with_reducible refine s_mod ?_)
  | ((with_reducible show oPow _ _ _ _); first | with_reducible refine s_pow ?_)
  | ((with_reducible show oLt _ _ _ _); first | with_reducible refine s_lt ?_ | with_reducible refine s_lt_str ?_)
  | ((with_reducible show oLe _ _ _ _); first | with_reducible refine s_le ?_ | with_reducible refine s_le_str ?_)
  | ((with_reducible show oGt _ _ _ _); first | with_reducible refine s_gt ?_)
  | ((with_reducible show oGe _ _ _ _); first | with_reducible refine s_ge ?_)
  | ((with_reducible show pII _ _ _ _ _); first | with_reducible refine s_ii ?_)
  | ((with_reducible show oEq _ _ _ _ _); first | with_reducible refine s_eq_int ?_ | with_reducible refine s_eq_str ?_ | with_reducible refine s_eq_bl ?_ | walk_at "eq")
  | ((with_reducible show oNe _ _ _ _ _); first | with_reducible refine s_ne_int ?_ | with_reducible refine s_ne_str ?_ | with_reducible refine s_ne_bl ?_ | walk_at "ne")
  | ((with_reducible show oIs _ _ _ _); first | with_reducible refine s_is_bl ?_ | with_reducible refine s_isN_ref ?_ | refine s_isN rfl ?_)
  | ((with_reducible show oIsNot _ _ _ _); first | with_reducible refine s_isnot_bl ?_ | with_reducible refine s_isNotN_ref ?_ | refine s_isNotN rfl ?_)
  | ((with_reducible show oIn (.str _) (.tup (_ :: _)) _ _); first | refine s_inS (xs := [_]) .t ?_ | refine s_inS (xs := [_, _]) .t ?_ | refine s_inS (xs := [_, _, _]) .t ?_ | refine s_inS (xs := [_, _, _, _]) .t ?_ | refine s_inS (xs := [_, _, _, _, _]) .t ?_ | refine s_inS (xs := [_, _, _, _, _, _]) .t ?_ | refine s_inS (xs := [_, _, _, _, _, _, _]) .t ?_ | refine s_inS (xs := [_, _, _, _, _, _, _, _]) .t ?_ | refine s_inS (xs := [_, _, _, _, _, _, _, _, _]) .t ?_ | refine s_inS (xs := [_, _, _, _, _, _, _, _, _, _]) .t ?_ | refine s_inS (xs := [_, _, _, _, _, _, _, _, _, _, _]) .t ?_ | refine s_inS (xs := [_, _, _, _, _, _, _, _, _, _, _, _]) .t ?_ | refine s_inS (xs := [_, _, _, _, _, _, _, _, _, _, _, _, _]) .t ?_)
  | ((with_reducible show oIn (.str _) (.lst (_ :: _)) _ _); first | refine s_inS (xs := [_]) .l ?_ | refine s_inS (xs := [_, _]) .l ?_ | refine s_inS (xs := [_, _, _]) .l ?_ | refine s_inS (xs := [_, _, _, _]) .l ?_ | refine s_inS (xs := [_, _, _, _, _]) .l ?_ | refine s_inS (xs := [_, _, _, _, _, _]) .l ?_ | refine s_inS (xs := [_, _, _, _, _, _, _]) .l ?_ | refine s_inS (xs := [_, _, _, _, _, _, _, _]) .l ?_ | refine s_inS (xs := [_, _, _, _, _, _, _, _, _]) .l ?_ | refine s_inS (xs := [_, _, _, _, _, _, _, _, _, _]) .l ?_ | refine s_inS (xs := [_, _, _, _, _, _, _, _, _, _, _]) .l ?_ | refine s_inS (xs := [_, _, _, _, _, _, _, _, _, _, _, _]) .l ?_ | refine s_inS (xs := [_, _, _, _, _, _, _, _, _, _, _, _, _]) .l ?_)
  | ((with_reducible show oNotIn (.str _) (.tup (_ :: _)) _ _); first | refine s_notInS (xs := [_]) .t ?_ | refine s_notInS (xs := [_, _]) .t ?_ | refine s_notInS (xs := [_, _, _]) .t ?_ | refine s_notInS (xs := [_, _, _, _]) .t ?_ | refine s_notInS (xs := [_, _, _, _, _]) .t ?_ | refine s_notInS (xs := [_, _, _, _, _, _]) .t ?_ | refine s_notInS (xs := [_, _, _, _, _, _, _]) .t ?_ | refine s_notInS (xs := [_, _, _, _, _, _, _, _]) .t ?_ | refine s_notInS (xs := [_, _, _, _, _, _, _, _, _]) .t ?_ | refine s_notInS (xs := [_, _, _, _, _, _, _, _, _, _]) .t ?_ | refine s_notInS (xs := [_, _, _, _, _, _, _, _, _, _, _]) .t ?_ | refine s_notInS (xs := [_, _, _, _, _, _, _, _, _, _, _, _]) .t ?_ | refine s_notInS (xs := [_, _, _, _, _, _, _, _, _, _, _, _, _]) .t ?_)
  | ((with_reducible show oNotIn (.str _) (.lst (_ :: _)) _ _); first | refine s_notInS (xs := [_]) .l ?_ | refine s_notInS (xs := [_, _]) .l ?_ | refine s_notInS (xs := [_, _, _]) .l ?_ | refine s_notInS (xs := [_, _, _, _]) .l ?_ | refine s_notInS (xs := [_, _, _, _, _]) .l ?_ | refine s_notInS (xs := [_, _, _, _, _, _]) .l ?_ | refine s_notInS (xs := [_, _, _, _, _, _, _]) .l ?_ | refine s_notInS (xs := [_, _, _, _, _, _, _, _]) .l ?_ | refine s_notInS (xs := [_, _, _, _, _, _, _, _, _]) .l ?_ | refine s_notInS (xs := [_, _, _, _, _, _, _, _, _, _]) .l ?_ | refine s_notInS (xs := [_, _, _, _, _, _, _, _, _, _, _]) .l ?_ | refine s_notInS (xs := [_, _, _, _, _, _, _, _, _, _, _, _]) .l ?_ | refine s_notInS (xs := [_, _, _, _, _, _, _, _, _, _, _, _, _]) .l ?_)
  | ((with_reducible show oIn _ _ _ _); first | with_reducible refine s_inSign ?_ | refine s_inS (by walk_at "sq") ?_)
  | ((with_reducible show oNotIn _ _ _ _); refine s_notInS (by walk_at "sq") ?_)
  | ((with_reducible show oNotInS _ _ _ _); refine s_notInSign ?_)
  | ((with_reducible show pTup _ _ _); first | with_reducible refine s_tup ?_)
  | ((with_reducible show pLst _ _ _); first | with_reducible refine s_lst ?_)
  | ((with_reducible show pLstC _ _ _); first | with_reducible refine s_lstC ?_)
  | ((with_reducible show pTru _ _ _); first | with_reducible refine s_tru ?_)
  | ((with_reducible show pNeg _ _ _); first | with_reducible refine s_neg ?_)
  | ((with_reducible show pFld _ _ _ _ _); walk_at "fld")
  | ((with_reducible show pIx _ _ _ _); first | refine s_ix_tup (by rfl) ?_ | refine s_ix_lst (by rfl) ?_ | refine s_ix_cell (by walk_at "cell") (by rfl) ?_ | walk_at "ix")
  | ((with_reducible show pOI _ _ _); first | with_reducible refine s_oi ?_)
  | ((with_reducible show pSl _ _ _ _ _); first | with_reducible refine s_sl_tup ?_ | with_reducible refine s_sl_lst ?_ | with_reducible refine s_sl_str ?_ | refine s_sl_cell (by walk_at "cell") ?_)
  | ((with_reducible show pRev _ _ _); refine s_rev (by walk_at "cell") ?_)
  | ((with_reducible show pRevC _ _ _); refine s_revC (by walk_at "cell") ?_)
  | ((with_reducible show pIter _ _ _); first | with_reducible refine s_it_lst ?_ | with_reducible refine s_it_tup ?_ | refine s_it_cell (by walk_at "sq") ?_)
  | ((with_reducible show pIterS _ _ _); first | with_reducible refine s_itS ?_)
  | ((with_reducible show pRange1 _ _ _); first | with_reducible refine s_rg1 ?_)
  | ((with_reducible show pRange2 _ _ _ _); first | with_reducible refine s_rg2 ?_)
  | ((with_reducible show pEnum _ _ _); first | with_reducible refine s_en_lst ?_ | with_reducible refine s_en_tup ?_ | refine s_en_cell (by walk_at "sq") ?_)
  | ((with_reducible show un2 _ _ _ _); first | with_reducible refine s_un2 ?_)
  | ((with_reducible show un3 _ _ _ _); first | with_reducible refine s_un3 ?_)
  | ((with_reducible show mUn2 _ _ _); first | with_reducible refine s_mun2 ?_)
  | ((with_reducible show mUn3 _ _ _); first | with_reducible refine s_mun3 ?_)
  | ((with_reducible show mUn4 _ _ _); first | with_reducible refine s_mun4 ?_)
  | ((with_reducible show on1 _ _ _ _); first | ((with_reducible show on1 (pLen1 _) _ _ _); first | with_reducible refine s_len_lst ?_ | with_reducible refine s_len_tup ?_ | with_reducible refine s_len_str ?_ | with_reducible refine s_len_own ?_ | refine s_len_cell (by walk_at "cell") ?_) | ((with_reducible show on1 (pStr1 _) _ _ _); first | with_reducible refine s_str_str ?_ | with_reducible refine s_str_int ?_ | with_reducible refine s_str_own ?_ | with_reducible refine s_str_ownC ?_) | ((with_reducible show on1 pInt1 _ _ _); first | with_reducible refine s_int_int ?_ | with_reducible refine s_int_bl ?_ | with_reducible refine s_int_str ?_) | ((with_reducible show on1 pList1 _ _ _); first | with_reducible refine s_list_lst ?_ | with_reducible refine s_list_tup ?_ | refine s_list_cell (by walk_at "sq") ?_ | refine s_list_seq (by with_reducible assumption) ?_) | ((with_reducible show on1 pListC1 _ _ _); first | with_reducible refine s_listC_lst ?_ | with_reducible refine s_listC_tup ?_ | refine s_listC_cell (by walk_at "sq") ?_) | ((with_reducible show on1 pTuple1 _ _ _); first | with_reducible refine s_tuple_lst ?_ | with_reducible refine s_tuple_tup ?_ | refine s_tuple_seq (by walk_at "sq") ?_) | ((with_reducible show on1 pAbs1 _ _ _); first | with_reducible refine s_abs ?_) | ((with_reducible show on1 pAll1 _ _ _); refine s_allM ?_) | ((with_reducible show on1 pAny1 _ _ _); refine s_anyM ?_))
  | ((with_reducible show on2 pMax2 _ _ _); first | with_reducible refine s_max ?_)
  | ((with_reducible show on2 pMin2 _ _ _); first | with_reducible refine s_min ?_)
  | ((with_reducible show on2 (pIsI _) _ _ _); walk_at "isi")
  | ((with_reducible show onStr _ _ _ _); first | with_reducible refine s_onStr ?_)
  | ((with_reducible show pSplit _ _ _ _); first | with_reducible refine s_split ?_)
  | ((with_reducible show pSplitC _ _ _ _); first | with_reducible refine s_splitC ?_)
  | ((with_reducible show pPart _ _ _ _); first | with_reducible refine s_part ?_)
  | ((with_reducible show pStarts _ _ _ _); first | with_reducible refine s_starts ?_)
  | ((with_reducible show pJoin _ _ _ _); refine s_join (by walk_at "sq") ?_)
  | ((with_reducible show pFmt _ _ _); first | with_reducible refine s_fmt_str ?_ | with_reducible refine s_fmt_int ?_)
  | ((with_reducible show pApp _ _ _ _); first | refine s_app 0 rfl ?_ | refine s_app 1 rfl ?_ | refine s_app 2 rfl ?_ | refine s_app 3 rfl ?_ | refine s_app 4 rfl ?_)
  | ((with_reducible show mFrz _ _ _); first | refine s_frz 0 rfl ?_ | refine s_frz 1 rfl ?_ | refine s_frz 2 rfl ?_ | refine s_frz 3 rfl ?_ | refine s_frz 4 rfl ?_)
  | ((with_reducible show if true = true then _ else _); first | with_reducible refine ifT ?_)
  | ((with_reducible show if false = true then _ else _); first | with_reducible refine ifF ?_)
  | ((with_reducible show if (!false) = true then _ else _); refine ifT ?_)
  | ((with_reducible show if (!true) = true then _ else _); refine ifF ?_)
  | ((with_reducible show if (decide (true = true)) = true then _ else _); refine ifT ?_)
  | ((with_reducible show if (!decide (true = true)) = true then _ else _); refine ifF ?_)
  | ((with_reducible show if ((true == true)) = true then _ else _); refine ifT ?_)
  | ((with_reducible show if (!(true == true)) = true then _ else _); refine ifF ?_)
  | ((with_reducible show if ((true != true)) = true then _ else _); refine ifF ?_)
  | ((with_reducible show if (decide (true = false)) = true then _ else _); refine ifF ?_)
  | ((with_reducible show if (!decide (true = false)) = true then _ else _); refine ifT ?_)
  | ((with_reducible show if ((true == false)) = true then _ else _); refine ifF ?_)
  | ((with_reducible show if (!(true == false)) = true then _ else _); refine ifT ?_)
  | ((with_reducible show if ((true != false)) = true then _ else _); refine ifT ?_)
  | ((with_reducible show if (decide (false = true)) = true then _ else _); refine ifF ?_)
  | ((with_reducible show if (!decide (false = true)) = true then _ else _); refine ifT ?_)
  | ((with_reducible show if ((false == true)) = true then _ else _); refine ifF ?_)
  | ((with_reducible show if (!(false == true)) = true then _ else _); refine ifT ?_)
  | ((with_reducible show if ((false != true)) = true then _ else _); refine ifT ?_)
  | ((with_reducible show if (decide (false = false)) = true then _ else _); refine ifT ?_)
  | ((with_reducible show if (!decide (false = false)) = true then _ else _); refine ifF ?_)
  | ((with_reducible show if ((false == false)) = true then _ else _); refine ifT ?_)
  | ((with_reducible show if (!(false == false)) = true then _ else _); refine ifF ?_)
  | ((with_reducible show if ((false != false)) = true then _ else _); refine ifF ?_)
  | ((with_reducible show if decide ((_ : Int) < _) = true then _ else _); first | refine ifPos (decide_eq_true (by walk_at "om")) ?_ | refine ifNeg (decide_eq_false (by walk_at "om")) ?_)
  | ((with_reducible show if (!decide ((_ : Int) < _)) = true then _ else _); first | refine ifPosN (decide_eq_false (by walk_at "om")) ?_ | refine ifNegN (decide_eq_true (by walk_at "om")) ?_)
  | ((with_reducible show if decide ((_ : Int) ≤ _) = true then _ else _); first | refine ifPos (decide_eq_true (by walk_at "om")) ?_ | refine ifNeg (decide_eq_false (by walk_at "om")) ?_)
  | ((with_reducible show if (!decide ((_ : Int) ≤ _)) = true then _ else _); first | refine ifPosN (decide_eq_false (by walk_at "om")) ?_ | refine ifNegN (decide_eq_true (by walk_at "om")) ?_)
  | ((with_reducible show if decide ((_ : Int) = _) = true then _ else _); first | refine ifPos (decide_eq_true (by walk_at "om")) ?_ | refine ifNeg (decide_eq_false (by walk_at "om")) ?_)
  | ((with_reducible show if (!decide ((_ : Int) = _)) = true then _ else _); first | refine ifPosN (decide_eq_false (by walk_at "om")) ?_ | refine ifNegN (decide_eq_true (by walk_at "om")) ?_)
  | ((with_reducible show lcB _ _ _ (List.map _ _) [] _); walk_at "L")
  | ((with_reducible show lcB _ _ _ (signsD _) [] _); (unfold signsD; walk_at "L"))
  | ((with_reducible show (∃ (ns : List Str) (fds : List D), InsD _ _ _ ns fds ∧ ns.contains _ = false) ∧ _); refine ⟨⟨_, _, .inl rfl, by decide⟩, ?_⟩)
  | ((with_reducible show True ∧ _); refine ⟨trivial, ?_⟩)
  | ((with_reducible show isL _ _ ∧ _); refine ⟨s_isL (by walk_at "cell"), ?_⟩)
  | ((with_reducible show CMul _ _ ∧ _); refine ⟨by walk_at "nm", ?_⟩)
  | ((with_reducible show CPow _ _ ∧ _); refine ⟨⟨by decide, by decide, by decide⟩, ?_⟩)
  | ((with_reducible show _ ∧ _); refine ⟨by walk_at "n", ?_⟩)
  | ((with_reducible show ∃ (i : Nat) (z Cl : Addr) (ns : List Str) (ds : List D), _ = D.raw (V.ref z) ∧ _ ∧ Cls _ Cl ∧ _ ∧ _ ∧ _); walk_at "sfld"))
local macro_rules | `(tactic| walk_at "sfld") => `(tactic| first
  | fail)
local macro_rules | `(tactic| walk_at "few") => `(tactic| first | decide | exact (show (1 : Nat) < 1000 by decide) | exact (show (2 : Nat) < 1000 by decide) | exact (show (3 : Nat) < 1000 by decide) | exact (show (4 : Nat) < 1000 by decide) | exact (show (5 : Nat) < 1000 by decide) | exact (show (6 : Nat) < 1000 by decide) | exact (show (7 : Nat) < 1000 by decide) | exact (show (8 : Nat) < 1000 by decide) | exact (show (9 : Nat) < 1000 by decide) | exact (show (10 : Nat) < 1000 by decide) | exact (show (11 : Nat) < 1000 by decide) | exact (show (12 : Nat) < 1000 by decide))
local macro_rules | `(tactic| walk_at "eq") => `(tactic| first
  | fail)
local macro_rules | `(tactic| walk_at "ne") => `(tactic| first
  | fail)
local macro_rules | `(tactic| walk_at "fld") => `(tactic| first
  | fail)
local macro_rules | `(tactic| walk_at "ix") => `(tactic| first
  | fail)
local macro_rules | `(tactic| walk_at "isi") => `(tactic| first
  | refine s_isi (.ty _) (.str _) (by rfl) ?_)
local macro_rules | `(tactic| walk_at "h") => `(tactic| with_reducible (conv => whnf))
local macro_rules | `(tactic| walk_at "c") => `(tactic| fail)
local macro_rules | `(tactic| walk_at "g") => `(tactic| ((repeat (first | walk_at "p" | walk_at "c" | (walk_at "h"; first | walk_at "p" | walk_at "c"))); try walk_at "h"))
local macro_rules | `(tactic| walk_at "S") => `(tactic| (walk_at "g"; try ((with_reducible show if _ then _ else _); refine ite2M (fun h => ?_) (fun h => ?_) <;> walk_at "S")))
local macro_rules | `(tactic| walk_at "om") => `(tactic| first | omega | (simp only [List.length_cons, List.length_nil, List.length_map, List.length_append, rangeD_len]; omega))
local macro_rules | `(tactic| walk_at "P0") => `(tactic| first | trivial | walk_at "sq" | with_reducible assumption)
local macro_rules | `(tactic| walk_at "ln") => `(tactic| first | with_reducible assumption | omega | (simp only [List.length_map, List.length_append, List.length_filter, rangeD_len]; omega) | (rw [Array.length_toList]; first | assumption | (show Str.length _ ≤ _; omega)) | (simp; omega))
local macro_rules | `(tactic| walk_at "L") => `(tactic| (refine lcB_map _ ?hh (by walk_at "P0") ?el (by walk_at "ln") ?rest; (case el => (intro a ha k hk; walk_at "g"; exact hk))))
local macro_rules | `(tactic| walk_at "d") => `(tactic| (refine c_draw0 T (by with_reducible assumption) (by walk_at "n") (by walk_at "n") fun k qs m k0 k1 hd => ?_))
local macro_rules | `(tactic| walk_at "fld") => `(tactic| first
  | ((with_reducible show pFld _ "choices" (.ins T.c_Book _ _) _ _); refine s_fld (.inl rfl) T.i_Book.c T.na_Book_choices (by rfl) ?_)
  | ((with_reducible show pFld _ "kinds" (.ins T.c_Book _ _) _ _); refine s_fld (.inl rfl) T.i_Book.c T.na_Book_kinds (by rfl) ?_)
  | ((with_reducible show pFld _ "targets" (.ins T.c_Book _ _) _ _); refine s_fld (.inl rfl) T.i_Book.c T.na_Book_targets (by rfl) ?_)
  | ((with_reducible show pFld _ "loose" (.ins T.c_Book _ _) _ _); refine s_fld (.inl rfl) T.i_Book.c T.na_Book_loose (by rfl) ?_)
  | ((with_reducible show pFld _ "others" (.ins T.c_Book _ _) _ _); refine s_fld (.inl rfl) T.i_Book.c T.na_Book_others (by rfl) ?_))
local macro_rules | `(tactic| walk_at "isi") => `(tactic| first
  | ((with_reducible show on2 (pIsI _) [.ins T.c_Book _ _, .raw (.ref T.c_Book)] _ _); refine s_isi (.own _) (.ins T.i_Book) kit_self ?_))
local macro_rules | `(tactic| walk_at "sfld") => `(tactic| first
  | refine ⟨0, _, _, _, _, rfl, rfl, T.i_Book.c, T.na_Book_choices, by walk_at "few", ?_⟩
  | refine ⟨1, _, _, _, _, rfl, rfl, T.i_Book.c, T.na_Book_choices, by walk_at "few", ?_⟩
  | refine ⟨0, _, _, _, _, rfl, rfl, T.i_Book.c, T.na_Book_kinds, by walk_at "few", ?_⟩
  | refine ⟨1, _, _, _, _, rfl, rfl, T.i_Book.c, T.na_Book_kinds, by walk_at "few", ?_⟩
  | refine ⟨0, _, _, _, _, rfl, rfl, T.i_Book.c, T.na_Book_targets, by walk_at "few", ?_⟩
  | refine ⟨1, _, _, _, _, rfl, rfl, T.i_Book.c, T.na_Book_targets, by walk_at "few", ?_⟩
  | refine ⟨0, _, _, _, _, rfl, rfl, T.i_Book.c, T.na_Book_loose, by walk_at "few", ?_⟩
  | refine ⟨1, _, _, _, _, rfl, rfl, T.i_Book.c, T.na_Book_loose, by walk_at "few", ?_⟩
  | refine ⟨0, _, _, _, _, rfl, rfl, T.i_Book.c, T.na_Book_others, by walk_at "few", ?_⟩
  | refine ⟨1, _, _, _, _, rfl, rfl, T.i_Book.c, T.na_Book_others, by walk_at "few", ?_⟩)
section
variable {P : Program} {w : World} {K : W.Frag} {mg : Str → Option Value} {base : Heap}
def dealC (p q : Addr) (qs : List Int) (m : Int) : Cells := [(p, .lst [.raw (.ref q), .int m]), (q, .lst (qs.map D.int))]
def absI (i : Int) : Int := if i < 0 then -i else i
structure DealOk (qs : List Int) (m : Int) : Prop where
  l : qs.length ≤ 63
  a : 0 ≤ m
  b : m < 2147483647
theorem p_deal (T : Tp P K mg) {ns : List Int} {b : Int} {Qx : QX} {Q : QE} (hl : ns.length ≤ 63) (hb : 0 ≤ b) (hb2 : b ≤ 63) (h : ∀ p q qs m, DealOk qs m → Q (.raw (.ref p)) (dealC p q qs m)) :
    w__law_deal T (.lst (ns.map .int)) (.int b) Qx Q [] := by
  unfold w__law_deal
  walk_at "h"
  walk_at "g"
  rw [cutD_map]
  have hl2 : (cutL ns (some b) (some 63)).length ≤ 63 := by
    have := ((List.take_sublist (HT.sIx ns.length ns.length (some 63) - HT.sIx ns.length 0 (some b)) (ns.drop (HT.sIx ns.length 0 (some b)))).trans (List.drop_sublist _ _)).length_le
    exact Nat.le_trans this hl
  generalize cutL ns (some b) (some 63) = cs at hl2
  refine lcB_map (l := cs) D.int (fun i => .int (absI i)) trivial (fun i _ k q => ?_) (by omega) ?_
  · walk_at "g"
    exact q
  walk_at "g"
  refine loop_inv (fun _ s C => ∃ m : Int, s = .int m ∧ 0 ≤ m ∧ m < 2147483647 ∧ C = []) ⟨_, rfl, by omega, by omega, rfl⟩ ?_ ?_
  · rintro i d s C nx hi ⟨m, rfl, h0, h1, rfl⟩ hn
    refine ⟨trivial, ?_⟩
    rw [List.getElem?_map] at hi
    obtain ⟨v, rfl⟩ : ∃ v, d = .int v := by
      cases e : cs[i]? with
      | none => rw [e] at hi; cases hi
      | some v => rw [e] at hi; cases hi; exact ⟨_, rfl⟩
    unfold w__law_deal_l1
    walk_at "g"
    exact part_id (hn _ _ ⟨_, rfl, Int.emod_nonneg _ (by decide), Int.emod_lt_of_pos _ (by decide), rfl⟩)
  · rintro s C ⟨m, rfl, h0, h1, rfl⟩
    refine ⟨trivial, ?_⟩
    unfold w__law_deal_a2
    walk_at "g"
    refine lcB1_map (l := cs) (fun i => .int (absI i)) (fun i => .int (absI i)) (fun i => decide ((10 : Int) ^ 18 ≤ absI i)) trivial (fun i _ k q => ?_) (fun i _ _ k q => ?_) (by omega) ?_
    · walk_at "g"
      exact q
    · exact q
    walk_at "g"
    intro q
    walk_at "g"
    intro p
    refine drop_id ?_
    have := h p q ((cs.filter fun i => decide ((10 : Int) ^ 18 ≤ absI i)).map absI).reverse m ⟨by rw [List.length_reverse, List.length_map]; exact Nat.le_trans (List.length_filter_le _ _) hl2, h0, h1⟩
    unfold dealC at this
    rw [List.map_reverse, List.map_map] at this
    exact this
theorem p_draw (T : Tp P K mg) {p q : Addr} {qs : List Int} {m n : Int} {Qx : QX} {Q : QE} (hd : DealOk qs m) (hn : 0 < n) (hn2 : n < 1073741824) (h : ∀ k qs' m', 0 ≤ k → k < n → DealOk qs' m' → Q (.int k) (dealC p q qs' m')) :
    w__law_draw T (.raw (.ref p)) (.int n) Qx Q (dealC p q qs m) := by
  unfold w__law_draw
  refine ⟨fun j _ C => ∃ qs : List Int, qs.length ≤ 63 ∧ j = qs.length ∧ C = dealC p q qs m, ⟨_, qs, hd.l, rfl, rfl⟩, ?_⟩
  rintro j _ C ⟨qs, hq, rfl, rfl⟩
  unfold w__law_draw_t1
  walk_at "h"
  walk_at "g"
  refine s_neD (.inl rfl) (eqd_lstI (xs := qs) (ys := []) (by walk_at "cell") .l) ?_
  walk_at "g"
  refine ite2M (fun h1 => ?_) (fun h1 => ?_)
  · have hne : qs ≠ [] := fun z => by subst z; cases h1
    obtain ⟨ys, y, rfl⟩ : ∃ ys y, qs = ys ++ [y] := ⟨_, _, (List.dropLast_concat_getLast hne).symm⟩
    have hq1 : (dealC p q (ys ++ [y]) m)[1]? = some (q, Cell.lst (ys.map .int ++ [.int y])) := by
      show some (q, Cell.lst ((ys ++ [y]).map D.int)) = _
      rw [List.map_append]; rfl
    walk_at "g"
    refine s_ix_cell (.c hq1) atI_last ?_
    walk_at "g"
    have fin : decide (y = 0) = false → w__law_draw_a3 T (.raw (.ref p)) (.int n) Qx Q () (dealC p q (ys ++ [y]) m) := fun _ => by
      unfold w__law_draw_a3
      walk_at "g"
      refine s_neD (.inl rfl) (eqd_lstI (xs := ys ++ [y]) (ys := []) (by walk_at "cell") .l) ?_
      walk_at "g"
      rw [if_pos (show (!decide (ys ++ [y] = [])) = true by simp)]
      walk_at "g"
      refine s_pop (d := .int y) 1 hq1 ?_
      walk_at "g"
      have := h (y % n) (ys ++ [y / n]) m (Int.emod_nonneg _ (by omega)) (Int.emod_lt_of_pos _ hn) ⟨by simp at hq ⊢; omega, hd.a, hd.b⟩
      unfold dealC at this
      rw [List.map_append] at this
      exact this
    refine ite2M (fun h2 => ?_) (fun h2 => fin (by simpa using h2))
    unfold w__law_draw_l2
    walk_at "g"
    refine s_pop (d := .int y) 1 hq1 ?_
    exact part_id ⟨ys.length, by simp, ys, by simp at hq; omega, rfl, rfl⟩
  · walk_at "g"
    unfold w__law_draw_a3
    walk_at "g"
    refine s_neD (.inl rfl) (eqd_lstI (xs := qs) (ys := []) (by walk_at "cell") .l) ?_
    walk_at "g"
    rw [if_neg h1]
    walk_at "g"
    refine ⟨0, p, _, 1, 1, rfl, rfl, rfl, rfl, ?_⟩
    walk_at "g"
    exact h _ qs _ (Int.emod_nonneg _ (by omega)) (Int.emod_lt_of_pos _ hn) ⟨hq, Int.emod_nonneg _ (by decide), Int.emod_lt_of_pos _ (by decide)⟩


/-! draws from the list deal, in the shape of p_ldrawk -/
abbrev St4 := List Int × Int
def dk (p q : Addr) (s : St4) : Cells := dealC p q s.1 s.2
def DkOk (s : St4) : Prop := DealOk s.1 s.2
theorem c_dealS (T : Tp P K mg) {ns : List Int} {b : Int} {Xq : QX} {Q : QE} {C : Cells} (hl : ns.length ≤ 63) (hb : 0 ≤ b) (hb2 : b ≤ 63) (h : ∀ p q s, DkOk s → Q (.raw (.ref p)) (dk p q s ++ C)) :
    callW (fw__law_deal T) Xq [.lst (ns.map .int), .int b] C Q := call_none (p_deal T hl hb hb2 fun p q qs m hd => h p q (qs, m) hd)
theorem c_drawP (T : Tp P K mg) {p q : Addr} {s : St4} {n : Int} {Xq : QX} {Q : QE} {C r : Cells} (pm : C.Perm (dk p q s ++ r)) (hd : DkOk s) (hn : 0 < n) (hn2 : n < 1073741824) (h : ∀ k s', 0 ≤ k → k < n → DkOk s' → Q (.int k) (dk p q s' ++ r)) :
    callW (fw__law_draw T) Xq [.raw (.ref p), .int n] C Q := ⟨dk p q s, r, pm, p_draw T hd hn hn2 fun k qs' m' h0 h1 hd' => h k (qs', m') h0 h1 hd'⟩
theorem c_draw (T : Tp P K mg) {p q : Addr} {s : St4} {n : Int} {Xq : QX} {Q : QE} {r : Cells} (hd : DkOk s) (hn : 0 < n) (hn2 : n < 1073741824) (h : ∀ k s', 0 ≤ k → k < n → DkOk s' → Q (.int k) (dk p q s' ++ r)) :
    callW (fw__law_draw T) Xq [.raw (.ref p), .int n] (dk p q s ++ r) Q := c_drawP T (List.Perm.refl _) hd hn hn2 h
theorem c_draw0 (T : Tp P K mg) {p q : Addr} {s : St4} {n : Int} {Xq : QX} {Q : QE} (hd : DkOk s) (hn : 0 < n) (hn2 : n < 1073741824) (h : ∀ k s', 0 ≤ k → k < n → DkOk s' → Q (.int k) (dk p q s')) :
    callW (fw__law_draw T) Xq [.raw (.ref p), .int n] (dk p q s) Q := c_drawP T (r := []) (by rw [List.append_nil]) hd hn hn2 fun k s' h0 h1 hd' => by rw [List.append_nil]; exact h k s' h0 h1 hd'
theorem l_draws {α : Type} {p q : Addr} {s : St4} {r : Cells} {f : D → ME} {Q : QE} {ds : List D} (g : α → D) (S : α → Prop) (hd : DkOk s) (hl : ds.length ≤ 100000)
    (step : ∀ d s (k : QE), DkOk s → (∀ x s', S x → DkOk s' → k (g x) (dk p q s' ++ r)) → f d (dk p q s ++ r) k)
    (h : ∀ (xs : List α) s', xs.length = ds.length → (∀ x ∈ xs, S x) → DkOk s' → Q (.lst (xs.map g)) (dk p q s' ++ r)) : lcB (fun _ => True) f Q ds [] (dk p q s ++ r) := by
  refine lcB_inv (fun i acc C => ∃ (xs : List α) (s : St4), DkOk s ∧ acc = xs.map g ∧ xs.length = i ∧ (∀ x ∈ xs, S x) ∧ C = dk p q s ++ r) ⟨[], s, hd, rfl, rfl, by simp, rfl⟩ ?_ ?_ hl ?_
  · rintro i d acc C k hi ⟨xs, s, hd, rfl, rfl, hx, rfl⟩ hk
    refine ⟨trivial, step d s k hd fun x s' hS hd' => hk _ _ ⟨xs ++ [x], s', hd', by simp, by simp, fun y hy => ?_, rfl⟩⟩
    rcases List.mem_append.mp hy with h | h
    · exact hx y h
    · rw [List.mem_singleton.mp h]; exact hS
  · rintro acc C ⟨xs, s, hd, rfl, hn, hx, rfl⟩
    exact ⟨trivial, h xs s hn hx hd⟩
  · rintro i acc C ⟨xs, _, _, rfl, h, _⟩
    rw [List.length_map]; omega
theorem l_draws0 {α : Type} {p q : Addr} {s : St4} {f : D → ME} {Q : QE} {ds : List D} (g : α → D) (S : α → Prop) (hd : DkOk s) (hl : ds.length ≤ 100000)
    (step : ∀ d s (k : QE), DkOk s → (∀ x s', S x → DkOk s' → k (g x) (dk p q s')) → f d (dk p q s) k)
    (h : ∀ (xs : List α) s', xs.length = ds.length → (∀ x ∈ xs, S x) → DkOk s' → Q (.lst (xs.map g)) (dk p q s')) : lcB (fun _ => True) f Q ds [] (dk p q s) := by
  have := l_draws (r := []) (f := f) (Q := Q) (ds := ds) (p := p) (q := q) (s := s) g S hd hl (by simpa using step) (by simpa using h)
  simpa using this


/-! names, decimals -/
def isNameS (s : Str) : Bool := decide (1 ≤ s.length ∧ s.length ≤ 4) && !decide (s ∈ barred) && s.cps.toList.all (fun c => decide (c ∈ small.cps.toList))
def isNameD (d : D) : Bool := isStr d && isNameS (strOf d)
theorem p_is_name (T : Tp P K mg) {d : D} {C : Cells} {Q : QE} {Qx : QX} (ha : AnyD K C d) (q : Q (.bl (isNameD d)) C) : callW (fw_is_name T) Qx [d] C Q := by
  refine call_all (show w_is_name T d Qx Q C from ?_)
  unfold w_is_name
  walk_at "g"
  refine s_isStr ha ?_
  walk_at "g"
  have hl := ha.ln
  unfold isNameD at q
  by_cases hd : isStr d = true
  · obtain ⟨s, rfl⟩ : ∃ s, d = .str s := by cases d <;> first | exact ⟨_, rfl⟩ | cases hd
    refine ifF ?_
    have hl' : s.length ≤ 100000 := hl
    have q' : Q (.bl (isNameS s)) C := q
    unfold isNameS at q'
    walk_at "S"
    all_goals try (refine q_bl q' ?_; simp at *; omega)
    all_goals try (refine q_bl q' ?_; simp at *; simp [*]; done)
    refine q_bl q' ?_
    simp at *
    have : 1 ≤ s.length := by omega
    have : s.length ≤ 4 := by omega
    simp [*]
  · have e : isStr d = false := by simpa using hd
    rw [e] at q ⊢
    refine ifT ?_
    walk_at "g"
    exact q
theorem bn1 {b : Bool} (h : (!b) = true) : b = false := by cases b <;> first | rfl | cases h
theorem bn2 {b : Bool} (h : ¬ (!b) = true) : b = true := by cases b <;> first | rfl | exact absurd rfl h
theorem bn3 {b : Bool} (h : (!b) = false) : b = true := by cases b <;> first | rfl | cases h
theorem p_is_nameS (T : Tp P K mg) {s : Str} {C : Cells} {Q : QE} {Qx : QX} (hl : s.length ≤ 100000) (q : Q (.bl (isNameS s)) C) : callW (fw_is_name T) Qx [.str s] C Q := p_is_name T (any_str hl) q
-- @c callW (fw_is_name T) _ _ _ _ ==> refine p_is_nameS T (by walk_at "n") ?_

local macro_rules | `(tactic| walk_at "c") => `(tactic| first
  | ((with_reducible show callW (fw_is_name T) _ _ _ _); refine p_is_nameS T (by walk_at "n") ?_))

/-! the same things in a drawn order -/
theorem ixN_in {n : Nat} {k : Int} (h0 : 0 ≤ k) (h1 : k < n) : ixN n k = some k.toNat := by
  unfold ixN
  rw [if_pos h0, if_pos h1]
theorem perm_move {α : Type} {fs ls xs : List α} {n : Nat} {y : α} (hy : ls[n]? = some y) (pm : (fs ++ ls).Perm xs) : ((fs ++ [y]) ++ ls.eraseIdx n).Perm xs := by
  obtain ⟨h1, e⟩ := List.getElem?_eq_some_iff.mp hy
  refine List.Perm.trans ?_ pm
  rw [List.append_assoc]
  refine List.Perm.append_left fs ?_
  rw [List.eraseIdx_eq_take_drop_succ]
  have e2 : ls = ls.take n ++ ls[n] :: ls.drop (n + 1) := by rw [List.getElem_cons_drop, List.take_append_drop]
  rw [e] at e2
  refine List.Perm.trans ?_ (List.Perm.of_eq e2.symm)
  exact (show (y :: (ls.take n ++ ls.drop (n + 1))).Perm (ls.take n ++ y :: ls.drop (n + 1)) from List.perm_middle.symm)
theorem map_erase {α β : Type} (g : α → β) : ∀ (l : List α) (n : Nat), (l.map g).eraseIdx n = (l.eraseIdx n).map g
  | [], n => by simp
  | x :: l, 0 => rfl
  | x :: l, n + 1 => by
    show g x :: (l.map g).eraseIdx n = g x :: (l.eraseIdx n).map g
    rw [map_erase g l n]
theorem p_mixed (T : Tp P K mg) {p q : Addr} {s : St4} {xs : List Str} {Qx : QX} {Q : QE} (hd : DkOk s) (hx : ∀ x ∈ xs, PyData.strOk x = true) (hl : xs.length ≤ 1000) (h : ∀ (ys : List Str) (s' : St4), ys.Perm xs → DkOk s' → Q (.lst (ys.map D.str)) (dk p q s')) :
    w__law_mixed T (.raw (.ref p)) (.lst (xs.map D.str)) Qx Q (dk p q s) := by
  unfold w__law_mixed
  walk_at "g"
  intro l
  walk_at "g"
  intro f
  refine ⟨fun n _ C => ∃ (s : St4) (ls fs : List Str), DkOk s ∧ (fs ++ ls).Perm xs ∧ n = ls.length ∧ (C = dk p q s ++ [(f, .lst (fs.map D.str)), (l, .lst (ls.map D.str))] ∨ C = (f, .lst (fs.map D.str)) :: (l, .lst (ls.map D.str)) :: dk p q s), ⟨xs.length, s, xs, [], hd, by simp, rfl, .inr rfl⟩, ?_⟩
  rintro n u C ⟨s, ls, fs, hd, pm, rfl, hC⟩
  have hls : ∀ x ∈ ls, PyData.strOk x = true := fun x hm => hx x (pm.subset (List.mem_append_right _ hm))
  have hll : fs.length + ls.length = xs.length := by rw [← pm.length_eq, List.length_append]
  have cf : (f, Cell.lst (fs.map D.str)) ∈ C := by rcases hC with rfl | rfl <;> simp
  have cl : (l, Cell.lst (ls.map D.str)) ∈ C := by rcases hC with rfl | rfl <;> simp
  have hp : C.Perm (dk p q s ++ [(f, .lst (fs.map D.str)), (l, .lst (ls.map D.str))]) := by
    rcases hC with rfl | rfl
    · exact List.Perm.refl _
    · exact List.perm_append_comm (l₁ := [(f, Cell.lst (fs.map D.str)), (l, Cell.lst (ls.map D.str))]) (l₂ := dk p q s)
  unfold w__law_mixed_t1
  walk_at "g"
  refine s_neD (.inl rfl) (eqd_lstS (xs := ls) (ys := []) (.inr ⟨l, rfl, cl⟩) .l hls (by simp)) ?_
  walk_at "g"
  refine ite2M (fun h1 => ?_) (fun h1 => ?_)
  · have hne : ls ≠ [] := fun z => by subst z; cases h1
    have hpos : 0 < ls.length := List.length_pos_iff.mpr hne
    unfold w__law_mixed_l2
    walk_at "g"
    refine ⟨⟨f, _, rfl, cf⟩, ?_⟩
    walk_at "g"
    refine ⟨⟨l, _, rfl, cl⟩, ?_⟩
    walk_at "g"
    refine s_len_cell (.inr ⟨l, rfl, cl⟩) ?_
    rw [List.length_map]
    walk_at "g"
    refine c_drawP T hp hd (by omega) (by omega) fun k s2 k0 k1 hd2 => ?_
    walk_at "g"
    obtain ⟨y, hy⟩ : ∃ y, ls[k.toNat]? = some y := ⟨ls[k.toNat]'(by omega), List.getElem?_eq_getElem _⟩
    refine ⟨3, l, ls.map D.str, k, k.toNat, .str y, rfl, rfl, rfl, ⟨by omega, by omega⟩, ixN_in k0 (by rw [List.length_map]; exact k1), by rw [List.getElem?_map, hy]; rfl, ?_⟩
    refine ⟨2, f, fs.map D.str, rfl, rfl, by rw [List.length_map]; omega, ?_⟩
    walk_at "g"
    refine part_id ⟨(ls.eraseIdx k.toNat).length, ?_, s2, ls.eraseIdx k.toNat, fs ++ [y], hd2, perm_move hy pm, rfl, .inl ?_⟩
    · rw [List.length_eraseIdx_of_lt (by omega)]; omega
    · rw [List.map_append, ← map_erase D.str ls k.toNat]; rfl
  · have he : ls = [] := by
      cases ls with
      | nil => rfl
      | cons a b => exact absurd (by simp) h1
    subst he
    unfold w__law_mixed_a3
    rw [List.append_nil] at pm
    rcases hC with rfl | rfl
    · refine s_frz 2 rfl ?_
      walk_at "g"
      exact ⟨dk p q s, [(l, .lst [])], List.Perm.refl _, h fs s pm hd⟩
    · refine s_frz 0 rfl ?_
      walk_at "g"
      exact ⟨dk p q s, [(l, .lst [])], List.perm_append_comm (l₁ := [(l, Cell.lst [])]) (l₂ := dk p q s), h fs s pm hd⟩


/-! names of a law's books: so many unlike ones -/
def words22 : List Str := ["on", "off", "a", "b", "like", "zzzz", "list", "old", "all", "open", "take", "drop", "kind", "abc", "xyz", "mv", "gh", "w", "tri", "nu", "pqrs", "ej"]
theorem words22_ok : words22.Nodup ∧ ∀ x ∈ words22, isNameS x = true ∧ PyData.strOk x = true ∧ x.length ≤ 4 ∧ x ≠ "no" := by decide +kernel
theorem cutN_take {α : Type} {l : List α} {n : Int} (h0 : 0 ≤ n) (h1 : n ≤ l.length) : cutL l none (some n) = l.take n.toNat := by
  unfold cutL
  obtain ⟨m, rfl⟩ := Int.eq_ofNat_of_zero_le h0
  have e1 : HT.sIx l.length 0 none = 0 := rfl
  have e2 : HT.sIx l.length l.length (some (m : Int)) = m := by
    rw [HT.sIx_nat]; omega
  rw [e1, e2]
  simp
/-- so many names, all unlike -/
structure Names (ns : List Str) (k : Int) : Prop where
  len : (ns.length : Int) = k
  nd : ns.Nodup
  mem : ∀ x ∈ ns, x ∈ words22
theorem Names.perm {ns ms : List Str} {k : Int} (h : Names ns k) (p : ms.Perm ns) : Names ms k := ⟨by rw [p.length_eq]; exact h.len, p.nodup_iff.mpr h.nd, fun x hx => h.mem x (p.subset hx)⟩
theorem Names.take {ns : List Str} {k j : Int} (h : Names ns k) (j0 : 0 ≤ j) (j1 : j ≤ k) : Names (ns.take j.toNat) j := by
  have := h.len
  refine ⟨?_, h.nd.sublist (List.take_sublist _ _), fun x hx => h.mem x (List.mem_of_mem_take hx)⟩
  rw [List.length_take]; omega
theorem Names.ok {ns : List Str} {k : Int} (h : Names ns k) : ∀ x ∈ ns, isNameS x = true ∧ PyData.strOk x = true ∧ x.length ≤ 4 ∧ x ≠ "no" := fun x hx => words22_ok.2 x (h.mem x hx)
theorem c_mixed (T : Tp P K mg) {p q : Addr} {s : St4} {xs : List Str} {k : Int} {Xq : QX} {Q : QE} {C r : Cells} (pm : C.Perm (dk p q s ++ r)) (hd : DkOk s) (hx : Names xs k) (hk : k ≤ 1000) (h : ∀ (ys : List Str) (s' : St4), Names ys k → ys.Perm xs → DkOk s' → Q (.lst (ys.map D.str)) (dk p q s' ++ r)) :
    callW (fw__law_mixed T) Xq [.raw (.ref p), .lst (xs.map D.str)] C Q :=
  ⟨dk p q s, r, pm, p_mixed T hd (fun x hm => (hx.ok x hm).2.1) (by have := hx.len; omega) fun ys s' hp hd' => h ys s' (hx.perm hp) hp hd'⟩
theorem p_words (T : Tp P K mg) {p q : Addr} {s : St4} {k : Int} {Qx : QX} {Q : QE} (hd : DkOk s) (k0 : 0 ≤ k) (k1 : k ≤ 22) (h : ∀ (ns : List Str) (s' : St4), Names ns k → DkOk s' → Q (.lst (ns.map D.str)) (dk p q s')) : w__law_words T (.raw (.ref p)) (.int k) Qx Q (dk p q s) := by
  unfold w__law_words
  walk_at "g"
  refine c_mixed T (xs := words22) (k := 22) (r := []) (by rw [List.append_nil]) hd ⟨rfl, words22_ok.1, fun _ h => h⟩ (by decide) fun ys s1 hy hp hd1 => ?_
  rw [List.append_nil]
  walk_at "g"
  rw [cutD_map, cutN_take k0 (by rw [hy.len]; exact k1)]
  exact h _ _ (hy.take k0 k1) hd1
theorem c_words (T : Tp P K mg) {p q : Addr} {s : St4} {k : Int} {Xq : QX} {Q : QE} {C r : Cells} (pm : C.Perm (dk p q s ++ r)) (hd : DkOk s) (k0 : 0 ≤ k) (k1 : k ≤ 22) (h : ∀ (ns : List Str) (s' : St4), Names ns k → DkOk s' → Q (.lst (ns.map D.str)) (dk p q s' ++ r)) :
    callW (fw__law_words T) Xq [.raw (.ref p), .int k] C Q := ⟨dk p q s, r, pm, p_words T hd k0 k1 h⟩
/-- a drawn book: names, kinds with what each makes of a value, loose ones, others -/
abbrev Kd := Str × List (Option Str)
def oD : Option Str → D
  | none => .non
  | some s => .str s
def kdD (k : Kd) : D := .tup [.str k.1, .lst (k.2.map oD)]
structure BookOk (ns : List Str) (kds : List Kd) (ls os : List Str) (m : Int) : Prop where
  n : ∃ k, 1 ≤ k ∧ k ≤ m ∧ Names ns k
  k : ∃ k, 0 ≤ k ∧ k ≤ m ∧ Names (kds.map (·.1)) k
  t : ∀ x ∈ kds, x.2.length = ns.length ∧ ∀ o ∈ x.2, ∀ s, o = some s → s ∈ ns
  l : ∃ k, Names ls k ∧ ∀ x ∈ ls, x ∈ kds.map (·.1)
  o : ∃ k, Names os k ∧ ∀ x ∈ os, x ∈ kds.map (·.1)
def formD (ns : List Str) (kds : List Kd) (ls os : List Str) : D := .tup [.lst (ns.map D.str), .lst (kds.map kdD), .lst (ls.map D.str), .lst (os.map D.str)]
/-- draws by a comprehension over something, from cells in any order -/
theorem l_drawsP {α : Type} {p q : Addr} {s : St4} {C0 r : Cells} {f : D → ME} {Q : QE} {ds : List D} (g : α → D) (S : α → Prop) (pm : C0.Perm (dk p q s ++ r)) (hd : DkOk s) (hl : ds.length ≤ 100000) (h0 : 0 < ds.length)
    (step : ∀ d C s (k : QE), C.Perm (dk p q s ++ r) → DkOk s → (∀ x s', S x → DkOk s' → k (g x) (dk p q s' ++ r)) → f d C k)
    (h : ∀ (xs : List α) s', xs.length = ds.length → (∀ x ∈ xs, S x) → DkOk s' → Q (.lst (xs.map g)) (dk p q s' ++ r)) : lcB (fun _ => True) f Q ds [] C0 := by
  refine lcB_inv (fun i acc C => ∃ (xs : List α) (s : St4), DkOk s ∧ acc = xs.map g ∧ xs.length = i ∧ (∀ x ∈ xs, S x) ∧ C.Perm (dk p q s ++ r) ∧ (0 < i → C = dk p q s ++ r)) ⟨[], s, hd, rfl, rfl, by simp, pm, by simp⟩ ?_ ?_ hl ?_
  · rintro i d acc C k hi ⟨xs, s, hd, rfl, rfl, hx, pm, _⟩ hk
    refine ⟨trivial, step d C s k pm hd fun x s' hS hd' => hk _ _ ⟨xs ++ [x], s', hd', by simp, by simp, fun y hy => ?_, List.Perm.refl _, fun _ => rfl⟩⟩
    rcases List.mem_append.mp hy with h | h
    · exact hx y h
    · rw [List.mem_singleton.mp h]; exact hS
  · rintro acc C ⟨xs, s, hd, rfl, hn, hx, _, e⟩
    obtain rfl := e h0
    exact ⟨trivial, h xs s hn hx hd⟩
  · rintro i acc C ⟨xs, _, _, rfl, h, _⟩
    rw [List.length_map]; omega
theorem p_lbook_l1 (T : Tp P K mg) {p q z : Addr} {s : St4} {ns : List Str} {x : Str} {kds : List Kd} {C : Cells} {Qx : QX} {Q : QE} {nx bk : Unit → MB} (hd : DkOk s) (n0 : 0 < ns.length) (n1 : ns.length ≤ 100) (hk : kds.length ≤ 100) (pm : C.Perm (dk p q s ++ [(z, .lst (kds.map kdD))]))
    (hn : ∀ (os : List (Option Str)) (s' : St4), os.length = ns.length → (∀ o ∈ os, ∀ w, o = some w → w ∈ ns) → DkOk s' → nx () (dk p q s' ++ [(z, .lst ((kds ++ [(x, os)]).map kdD))])) :
    w__law_book_l1 T (.raw (.ref p)) (.lst (ns.map D.str)) (.raw (.ref z)) Qx Q (.str x) () nx bk C := by
  have cz : (z, Cell.lst (kds.map kdD)) ∈ C := pm.mem_iff.mpr (by simp)
  unfold w__law_book_l1
  walk_at "g"
  refine ⟨⟨z, _, rfl, cz⟩, ?_⟩
  walk_at "g"
  refine l_drawsP (r := [(z, .lst (kds.map kdD))]) oD (fun o => ∀ w, o = some w → w ∈ ns) pm hd (by rw [List.length_map]; omega) (by rw [List.length_map]; exact n0) (fun d C s k pm hd hk => ?_) fun os s' hlen hos hd' => ?_
  · walk_at "g"
    refine c_drawP T pm hd (by rw [List.length_map]; omega) (by rw [List.length_map]; omega) fun j s2 j0 j1 hd2 => ?_
    have e : ns.map D.str ++ [D.non] = (ns.map some ++ [none]).map oD := by rw [List.map_append, List.map_map]; rfl
    rw [e]
    refine s_ix_at (g := oD) j0 (by rw [List.length_append, List.length_map]; rw [List.length_map] at j1; exact j1) fun o ho => hk o s2 (fun w hw => ?_) hd2
    subst hw
    rcases List.mem_append.mp ho with ho | ho
    · obtain ⟨y, hy, e⟩ := List.mem_map.mp ho
      cases e; exact hy
    · cases List.mem_singleton.mp ho
  · rw [List.length_map] at hlen
    walk_at "g"
    have := hn os s' hlen hos hd'
    rw [List.map_append] at this
    exact part_id this
theorem p_lbook (T : Tp P K mg) {p q : Addr} {s : St4} {m : Int} {Qx : QX} {Q : QE} (hd : DkOk s) (m0 : 1 ≤ m) (m1 : m ≤ 20) (h : ∀ ns kds ls os (s' : St4), BookOk ns kds ls os m → DkOk s' → Q (formD ns kds ls os) (dk p q s')) : w__law_book T (.raw (.ref p)) (.int m) Qx Q (dk p q s) := by
  unfold w__law_book
  walk_at "g"
  refine c_draw0 T hd (by omega) (by omega) fun a s1 a0 a1 hd1 => ?_
  walk_at "g"
  refine c_words T (r := []) (by rw [List.append_nil]) hd1 (by omega) (by omega) fun ns s2 hns hd2 => ?_
  rw [List.append_nil]
  walk_at "g"
  refine c_draw0 T hd2 (by omega) (by omega) fun b s3 b0 b1 hd3 => ?_
  walk_at "g"
  refine c_words T (r := []) (by rw [List.append_nil]) hd3 (by omega) (by omega) fun ks s4 hks hd4 => ?_
  rw [List.append_nil]
  walk_at "g"
  intro z
  walk_at "g"
  refine loop_inv (fun i _ C => ∃ (kds : List Kd) (s : St4), DkOk s ∧ kds.map (·.1) = ks.take i ∧ (∀ x ∈ kds, x.2.length = ns.length ∧ ∀ o ∈ x.2, ∀ w, o = some w → w ∈ ns) ∧ (C = dk p q s ++ [(z, .lst (kds.map kdD))] ∨ C = (z, .lst (kds.map kdD)) :: dk p q s)) ⟨[], s4, hd4, by simp, by simp, .inr rfl⟩ ?_ ?_
  · rintro i d u C nx hi ⟨kds, s, hd, e, ht, hC⟩ hn
    have pm : C.Perm (dk p q s ++ [(z, .lst (kds.map kdD))]) := by
      rcases hC with rfl | rfl
      · exact List.Perm.refl _
      · exact List.perm_append_comm (l₁ := [(z, Cell.lst (kds.map kdD))]) (l₂ := dk p q s)
    have hi2 : i < ks.length := by
      have := (List.getElem?_eq_some_iff.mp hi).1
      rwa [List.length_map] at this
    rw [List.getElem?_map] at hi
    obtain ⟨x, hx, rfl⟩ := Option.map_eq_some_iff.mp hi
    have kl := hks.len
    have nl := hns.len
    have hkl : kds.length ≤ 100 := by
      have : (kds.map (·.1)).length = (ks.take i).length := by rw [e]
      rw [List.length_map, List.length_take] at this
      omega
    refine ⟨trivial, p_lbook_l1 T hd (by omega) (by omega) hkl pm fun os s' hlen hos hd' => hn _ _ ⟨kds ++ [(x, os)], s', hd', ?_, fun y hy => ?_, .inl rfl⟩⟩
    · rw [List.map_append, e, List.take_succ, hx]; rfl
    · rcases List.mem_append.mp hy with hy | hy
      · exact ht y hy
      · rw [List.mem_singleton.mp hy]; exact ⟨hlen, hos⟩
  · rintro u C ⟨kds, s, hd, e, ht, hC⟩
    refine ⟨trivial, ?_⟩
    have pm : C.Perm (dk p q s ++ [(z, .lst (kds.map kdD))]) := by
      rcases hC with rfl | rfl
      · exact List.Perm.refl _
      · exact List.perm_append_comm (l₁ := [(z, Cell.lst (kds.map kdD))]) (l₂ := dk p q s)
    rw [List.length_map, List.take_length] at e
    have kl := hks.len
    unfold w__law_book_a2
    walk_at "g"
    refine c_mixed T pm hd hks (by omega) fun ls s5 hls pl hd5 => ?_
    walk_at "g"
    refine c_draw T hd5 (by rw [List.length_map]; omega) (by rw [List.length_map]; omega) fun j s6 j0 j1 hd6 => ?_
    rw [List.length_map] at j1
    walk_at "g"
    rw [cutD_map, cutN_take j0 (by have := hls.len; omega)]
    refine c_mixed T (r := []) (show (dk p q s6).Perm _ by rw [List.append_nil]) hd6 hks (by omega) fun os s7 hos po hd7 => ?_
    rw [List.append_nil]
    walk_at "g"
    refine c_draw0 T hd7 (by rw [List.length_map]; omega) (by rw [List.length_map]; omega) fun i s8 i0 i1 hd8 => ?_
    rw [List.length_map] at i1
    walk_at "g"
    rw [cutD_map, cutN_take i0 (by have := hos.len; omega)]
    walk_at "g"
    refine ⟨dk p q s8, [], by rw [List.append_nil], h ns kds _ _ s8 ⟨⟨_, by omega, by omega, hns⟩, ⟨b, b0, by omega, by rw [e]; exact hks⟩, ht, ⟨j, hls.take j0 (by omega), fun x hx => ?_⟩, ⟨i, hos.take i0 (by omega), fun x hx => ?_⟩⟩ hd8⟩
    · rw [e]; exact pl.subset (List.mem_of_mem_take hx)
    · rw [e]; exact po.subset (List.mem_of_mem_take hx)
theorem c_lbook (T : Tp P K mg) {p q : Addr} {s : St4} {m : Int} {Xq : QX} {Q : QE} {C r : Cells} (pm : C.Perm (dk p q s ++ r)) (hd : DkOk s) (m0 : 1 ≤ m) (m1 : m ≤ 20) (h : ∀ ns kds ls os (s' : St4), BookOk ns kds ls os m → DkOk s' → Q (formD ns kds ls os) (dk p q s' ++ r)) :
    callW (fw__law_book T) Xq [.raw (.ref p), .int m] C Q := ⟨dk p q s, r, pm, p_lbook T hd m0 m1 h⟩


theorem p_is_sequence (T : Tp P K mg) {d : D} {b : Bool} {C : Cells} {Q : QE} {Qx : QX} (h : SqA K C d b) (q : Q (.bl b) C) : callW (fw_is_sequence T) Qx [d] C Q := by
  refine call_all (show w_is_sequence T d Qx Q C from ?_)
  unfold w_is_sequence
  walk_at "g"
  refine s_isSq h ?_
  exact q


/-! sequences of unlike names -/
theorem sl_seq {C : Cells} {d : D} {ds : List D} {l u : Option Int} {Q : QE} (h0 : SeqD C d ds) (h : ∀ e, SeqD C e (cutD ds l u) → Q e C) : pSl d l u C Q := by
  rcases h0 with (rfl | ⟨a, rfl, hm⟩) | rfl
  · exact s_sl_lst (h _ .l)
  · exact s_sl_cell (.inr ⟨a, rfl, hm⟩) (h _ .l)
  · exact s_sl_tup (h _ .t)
theorem len_seq {C : Cells} {d : D} {ds : List D} {own1 : D → ME} {Q : QE} (h0 : SeqD C d ds) (q : Q (.int ds.length) C) : on1 (pLen1 own1) [d] C Q := by
  rcases h0 with (rfl | ⟨a, rfl, hm⟩) | rfl
  · exact s_len_lst q
  · exact s_len_cell (.inr ⟨a, rfl, hm⟩) q
  · exact s_len_tup q
theorem enumE_zip {α : Type} (f : α → D) : ∀ (l : List α) (k : Nat), enumD k (l.map f) = (l.zipIdx k).map fun p => .tup [.int (p.2 : Nat), f p.1]
  | [], _ => rfl
  | a :: l, k => by
    rw [List.map_cons, List.zipIdx_cons, List.map_cons, ← enumE_zip f l (k + 1)]
    rfl
theorem nodup_before {α : Type} {l : List α} {i : Nat} {x : α} (nd : l.Nodup) (h : l[i]? = some x) : x ∉ l.take i := by
  intro hm
  obtain ⟨j, hj, e⟩ := List.mem_iff_getElem.mp hm
  obtain ⟨h1, e1⟩ := List.getElem?_eq_some_iff.mp h
  rw [List.length_take] at hj
  rw [List.getElem_take] at e
  have : j = i := (List.getElem_inj nd).mp (e.trans e1.symm)
  omega
theorem p_are_names (T : Tp P K mg) {d : D} {xs : List Str} {C : Cells} {Q : QE} {Qx : QX} (hs : SeqD C d (xs.map D.str)) (hx : ∀ x ∈ xs, isNameS x = true ∧ x.length ≤ 1000) (nd : xs.Nodup) (hl : xs.length ≤ 1000) (q : Q (.bl true) C) : callW (fw_are_names T) Qx [d] C Q := by
  refine call_all (show w_are_names T d Qx Q C from ?_)
  unfold w_are_names
  walk_at "g"
  refine p_is_sequence T (sq_seq hs) ?_
  walk_at "g"
  refine s_en_seq hs fun P hP => ?_
  rw [enumE_zip]
  refine lcB_map (fun p : Str × Nat => .tup [.int (p.2 : Nat), .str p.1]) (fun _ => D.bl true) (hP _ hs) (fun p hp k hk => ?_) (by rw [List.length_zipIdx]; omega) ?_
  · obtain ⟨x, i⟩ := p
    have hi : xs[i]? = some x := by
      have := List.mem_zipIdx_iff_getElem?.mp hp
      simpa using this
    have hm := List.mem_of_getElem? hi
    have hlt := (List.getElem?_eq_some_iff.mp hi).1
    walk_at "g"
    refine p_is_nameS T (show x.length ≤ 100000 by have := (hx x hm).2; omega) ?_
    rw [show isNameS (x, i).1 = true from (hx x hm).1]
    walk_at "g"
    refine sl_seq hs fun e he => ?_
    walk_at "g"
    rw [cutD_map, cutN_take (by omega) (by omega)] at he
    refine s_notInS he ?_
    rw [show decide (x ∈ xs.take ((i : Nat) : Int).toNat) = false from decide_eq_false (nodup_before nd (by simpa using hi))]
    exact hk
  · walk_at "g"
    rw [show (xs.zipIdx.all fun _ => true) = true from List.all_eq_true.mpr fun _ _ => rfl]
    exact q


/-- all of some names are among others -/
theorem p_are_some (T : Tp P K mg) {d e : D} {xs ys : List Str} {C : Cells} {Q : QE} {Qx : QX} (hs : SeqD C d (xs.map D.str)) (he : SeqD C e (ys.map D.str)) (hx : ∀ x ∈ xs, isNameS x = true ∧ x.length ≤ 1000) (nd : xs.Nodup) (hl : xs.length ≤ 1000) (hm : ∀ x ∈ xs, x ∈ ys) (q : Q (.bl true) C) : callW (fw_are_some T) Qx [d, e] C Q := by
  refine call_all (show w_are_some T d e Qx Q C from ?_)
  unfold w_are_some
  walk_at "g"
  refine p_are_names T hs hx nd hl ?_
  walk_at "g"
  refine s_it_seq hs fun P hP => ?_
  refine lcB_map D.str (fun _ => D.bl true) (hP _ hs) (fun x hp k hk => ?_) (by omega) ?_
  · walk_at "g"
    rw [show decide (x ∈ ys) = true from decide_eq_true (hm x hp)]
    exact hk
  · walk_at "g"
    rw [show (xs.all fun _ => true) = true from List.all_eq_true.mpr fun _ _ => rfl]
    exact q


/-- what a kind makes of values -/
theorem p_is_targets (T : Tp P K mg) {d e : D} {os : List (Option Str)} {ys : List Str} {C : Cells} {Q : QE} {Qx : QX} (hs : SeqD C d (os.map oD)) (he : SeqD C e (ys.map D.str)) (hl : os.length ≤ 1000) (hn : os.length = ys.length) (hx : ∀ o ∈ os, ∀ x, o = some x → isNameS x = true ∧ x.length ≤ 1000 ∧ x ∈ ys) (q : Q (.bl true) C) : callW (fw_is_targets T) Qx [d, e] C Q := by
  refine call_all (show w_is_targets T d e Qx Q C from ?_)
  unfold w_is_targets
  walk_at "g"
  refine p_is_sequence T (sq_seq hs) ?_
  walk_at "g"
  refine len_seq hs ?_
  walk_at "g"
  refine len_seq he ?_
  rw [List.length_map, List.length_map, hn]
  walk_at "g"
  refine s_it_seq hs fun P hP => ?_
  refine lcB_map oD (fun _ => D.bl true) (hP _ hs) (fun o hp k hk => ?_) (by omega) ?_
  · cases o with
    | none =>
      dsimp only [oD]
      walk_at "g"
      refine ifT ?_
      exact hk
    | some x =>
      obtain ⟨h1, h2, h3⟩ := hx _ hp x rfl
      dsimp only [oD]
      walk_at "g"
      refine ifF ?_
      walk_at "g"
      rw [h1]
      walk_at "g"
      rw [show decide (x ∈ ys) = true from decide_eq_true h3]
      exact hk
  · walk_at "g"
    rw [show (os.all fun _ => true) = true from List.all_eq_true.mpr fun _ _ => rfl]
    exact q


/-! kinds in any form -/
def kx (p : Kd × D) : D := .tup [.str p.1.1, p.2]
structure KxOk (C : Cells) (ns : List Str) (ps : List (Kd × D)) : Prop where
  s : ∀ p ∈ ps, SeqD C p.2 (p.1.2.map oD)
  n : ∀ p ∈ ps, p.1.2.length = ns.length
  t : ∀ p ∈ ps, ∀ o ∈ p.1.2, ∀ x, o = some x → x ∈ ns
structure NamesOk (xs : List Str) : Prop where
  o : ∀ x ∈ xs, isNameS x = true ∧ x.length ≤ 1000
  d : xs.Nodup
  l : xs.length ≤ 1000
theorem p_are_kinds (T : Tp P K mg) {d e : D} {ps : List (Kd × D)} {ns : List Str} {C : Cells} {Q : QE} {Qx : QX} (hs : SeqD C d (ps.map kx)) (he : SeqD C e (ns.map D.str)) (hk : KxOk C ns ps) (hn : NamesOk ns) (hp : NamesOk (ps.map fun p => p.1.1)) (q : Q (.bl true) C) : callW (fw_are_kinds T) Qx [d, e] C Q := by
  have hl := hp.l
  rw [List.length_map] at hl
  refine call_all (show w_are_kinds T d e Qx Q C from ?_)
  unfold w_are_kinds
  walk_at "g"
  refine p_is_sequence T (sq_seq hs) ?_
  walk_at "g"
  refine s_it_seq hs fun P hP => ?_
  refine lcB_map kx (fun _ => D.bl true) (hP _ hs) (fun p hm k hk => ?_) (by omega) ?_
  · dsimp only [kx]
    walk_at "g"
    refine s_isi (.ty _) (.tup _) (by rfl) ?_
    walk_at "g"
    exact hk
  walk_at "g"
  rw [show (ps.all fun _ => true) = true from List.all_eq_true.mpr fun _ _ => rfl]
  walk_at "g"
  refine s_it_seq hs fun P hP => ?_
  refine lcB_map kx (fun p => D.str p.1.1) (hP _ hs) (fun p hm k hk => ?_) (by omega) ?_
  · dsimp only [kx]
    walk_at "g"
    exact hk
  walk_at "g"
  refine p_are_names T (xs := ps.map fun p => p.1.1) (.inl (.inl (by rw [List.map_map]; rfl))) hp.o hp.d hp.l ?_
  walk_at "g"
  refine s_it_seq hs fun P hP => ?_
  refine lcB_map kx (fun _ => D.bl true) (hP _ hs) (fun p hm k h => ?_) (by omega) ?_
  · dsimp only [kx]
    walk_at "g"
    refine p_is_targets T (hk.s p hm) he (by rw [hk.n p hm]; exact hn.l) (hk.n p hm) (fun o ho x hx => ?_) h
    have hm2 := hk.t p hm o ho x hx
    exact ⟨(hn.o x hm2).1, (hn.o x hm2).2, hm2⟩
  · walk_at "g"
    rw [show (ps.all fun _ => true) = true from List.all_eq_true.mpr fun _ _ => rfl]
    exact q


/-! books are made -/
theorem any_key {α : Type} (ky : α → Str) (x : Str) : ∀ m : List α, x ∉ m.map ky → ((m.map fun a => (Sum.inr (ky a) : Key)).any fun k => decide (k = .inr x)) = false
  | [], _ => rfl
  | a :: m, h => by
    rw [List.map_cons, List.any_cons, any_key ky x m fun z => h (by rw [List.map_cons]; exact List.mem_cons_of_mem _ z)]
    have : ky a ≠ x := fun e => h (by rw [List.map_cons, e]; exact List.mem_cons_self)
    simp [this]
theorem dcB_go {α : Type} {P : Cells → Prop} {f g : D → ME} {Q : QE} {C : Cells} (a : α → D) (ky : α → Str) (vl : α → D) (hp : P C) : ∀ (l m : List α), ((m ++ l).map ky).Nodup → (m ++ l).length < 100000 → (∀ x ∈ l, ∀ k : QE, k (.str (ky x)) C → f (a x) C k) → (∀ x ∈ l, ∀ k : QE, k (vl x) C → g (a x) C k) →
    Q (.dic ((m ++ l).map fun x => .inr (ky x)) ((m ++ l).map vl)) C → dcB P f g Q (l.map a) (m.map fun x => .inr (ky x)) (m.map vl) C
  | [], m, nd, hl, hf, hg, q => by
    rw [List.append_nil] at q
    exact ⟨hp, q⟩
  | x :: l, m, nd, hl, hf, hg, q => by
    refine ⟨hp, hf x List.mem_cons_self _ (hg x List.mem_cons_self _ ⟨.inr (ky x), rfl, ?_, ?_⟩)⟩
    · rw [List.length_map]; rw [List.length_append] at hl; omega
    have hx : x :: l = [x] ++ l := rfl
    have hn : ky x ∉ m.map ky := fun hm => by
      rw [List.map_append, List.map_cons] at nd
      exact (List.nodup_append.mp nd).2.2 _ hm _ List.mem_cons_self rfl
    have e := any_key ky (ky x) m hn
    have := dcB_go a ky vl hp l (m ++ [x]) (by rw [List.append_assoc]; exact nd) (by rw [List.append_assoc]; exact hl) (fun y hy => hf y (List.mem_cons_of_mem _ hy)) (fun y hy => hg y (List.mem_cons_of_mem _ hy)) (by rw [List.append_assoc]; exact q)
    unfold putKs putD
    rw [e, if_neg (by decide), if_neg (by decide)]
    rw [List.map_append, List.map_append] at this
    exact this
theorem dcB_map {α : Type} {P : Cells → Prop} {f g : D → ME} {Q : QE} {C : Cells} {l : List α} (a : α → D) (ky : α → Str) (vl : α → D) (hp : P C) (nd : (l.map ky).Nodup) (hl : l.length < 100000) (hf : ∀ x ∈ l, ∀ k : QE, k (.str (ky x)) C → f (a x) C k) (hg : ∀ x ∈ l, ∀ k : QE, k (vl x) C → g (a x) C k)
    (q : Q (.dic (l.map fun x => .inr (ky x)) (l.map vl)) C) : dcB P f g Q (l.map a) [] [] C := dcB_go a ky vl hp l [] nd hl hf hg q
def inB (kds : List Kd) (ls : List Str) : List Str := (kds.map (·.1)).filter fun n => decide (n ∈ ls)
/-- the choices of a book: a tuple that is known to have no dict, or any -/
def chD (b : Bool) (ns : List Str) : D := if b = true then .tpn (ns.map D.str) else .tup (ns.map D.str)
theorem wk_chD (b : Bool) (ns : List Str) : wk (chD b ns) = .tup (ns.map D.str) := by cases b <;> rfl
def bookF (b : Bool) (ns : List Str) (kds : List Kd) (ls os : List Str) : List D := [chD b ns, .tup (kds.map fun k => D.str k.1), .dic (kds.map fun k => .inr k.1) (kds.map fun k => D.tup (k.2.map oD)), .tup ((inB kds ls).map D.str), .tup ((inB kds os).map D.str)]
def bookD (c : Addr) (b : Bool) (ns : List Str) (kds : List Kd) (ls os : List Str) : D := .ins c ["choices", "kinds", "targets", "loose", "others"] (bookF b ns kds ls os)
/-- the choices given -/
def ChOk (C : Cells) (b : Bool) (d1 : D) (ns : List Str) : Prop := (SeqD C d1 (ns.map D.str) ∧ (b = true → LstD C d1 (ns.map D.str))) ∨ (b = true ∧ d1 = .tpn (ns.map D.str))
theorem ChOk.sub {C C' : Cells} {b : Bool} {d1 : D} {ns : List Str} (h : ChOk C b d1 ns) (s : ∀ x ∈ C, x ∈ C') : ChOk C' b d1 ns := h.elim (fun h => .inl ⟨seqD_sub s h.1, fun e => lstD_sub s (h.2 e)⟩) .inr
theorem ChOk.seq {C : Cells} {b : Bool} {d1 : D} {ns : List Str} (h : ChOk C b d1 ns) : SeqD C (wk d1) (ns.map D.str) := by
  rcases h with ⟨(rfl | ⟨a, rfl, hm⟩) | rfl, _⟩ | ⟨_, rfl⟩
  · exact .l
  · exact .inl (.inr ⟨a, rfl, hm⟩)
  · exact .t
  · exact .t
theorem ChOk.tup {C : Cells} {b : Bool} {d1 : D} {ns : List Str} {Q : QE} (h : ChOk C b d1 ns) (q : Q (chD b ns) C) : on1 pTupleN [d1] C Q := by
  rcases h with ⟨h1, h2⟩ | ⟨rfl, rfl⟩
  · cases b with
    | true => exact s_tupleN (h2 rfl) q
    | false => exact s_tupleN' (s_tuple_seq h1 q)
  · exact s_tupleS q
/-- what a book can be made of, in cells C -/
structure BkArgs (C : Cells) (b : Bool) (d1 d2 d3 d4 : D) (ns : List Str) (ps : List (Kd × D)) (ls os : List Str) : Prop where
  ch : ChOk C b d1 ns
  s2 : SeqD C d2 (ps.map kx)
  s3 : SeqD C d3 (ls.map D.str)
  s4 : SeqD C d4 (os.map D.str)
  n : NamesOk ns
  p : 0 < ns.length
  k : KxOk C ns ps
  kn : NamesOk (ps.map fun p => p.1.1)
  ln : NamesOk ls
  on : NamesOk os
  lk : ∀ x ∈ ls, x ∈ ps.map fun p => p.1.1
  ok : ∀ x ∈ os, x ∈ ps.map fun p => p.1.1
theorem BkArgs.sub {C C' : Cells} {b : Bool} {d1 d2 d3 d4 : D} {ns : List Str} {ps : List (Kd × D)} {ls os : List Str} (h : BkArgs C b d1 d2 d3 d4 ns ps ls os) (s : ∀ x ∈ C, x ∈ C') : BkArgs C' b d1 d2 d3 d4 ns ps ls os :=
  { h with ch := h.ch.sub s, s2 := seqD_sub s h.s2, s3 := seqD_sub s h.s3, s4 := seqD_sub s h.s4, k := { h.k with s := fun p hp => seqD_sub s (h.k.s p hp) } }
theorem p_Book_init (T : Tp P K mg) {z : Addr} {b : Bool} {d1 d2 d3 d4 : D} {ns : List Str} {ps : List (Kd × D)} {ls os : List Str} {C' : Cells} {Q : QE} {Qx : QX} (h : BkArgs C' b d1 d2 d3 d4 ns ps ls os)
    (q : Q .non ((z, .ins T.c_Book ["choices", "kinds", "targets", "loose", "others"] (bookF b ns (ps.map (·.1)) ls os)) :: C')) : w_Book_init T (.raw (.ref z)) d1 d2 d3 d4 Qx Q ((z, .ins T.c_Book [] []) :: C') := by
  have hl := h.kn.l
  rw [List.length_map] at hl
  have hnl := h.n.l
  have hp := h.p
  have up : ∀ c : Cell, BkArgs ((z, c) :: C') b d1 d2 d3 d4 ns ps ls os := fun c => h.sub fun x hx => List.mem_cons_of_mem _ hx
  unfold w_Book_init
  walk_at "g"
  refine p_are_names T (up _).ch.seq h.n.o h.n.d h.n.l ?_
  walk_at "g"
  refine len_seq (up _).ch.seq ?_
  rw [List.length_map]
  walk_at "g"
  refine p_are_kinds T (up _).s2 (up _).ch.seq (up _).k h.n h.kn ?_
  walk_at "g"
  refine (up _).ch.tup ?_
  walk_at "g"
  refine s_it_seq (up _).s2 fun P hP => ?_
  refine lcB_map kx (fun p => D.str p.1.1) (hP _ (up _).s2) (fun p hm k hk => ?_) (by omega) ?_
  · dsimp only [kx]
    walk_at "g"
    exact hk
  walk_at "g"
  refine s_fld (.inr ⟨z, rfl, List.mem_cons_self⟩) T.i_Book.c T.na_Book_kinds (by rfl) ?_
  walk_at "g"
  have ek : ∀ C, SeqD C (.tup (ps.map fun p => D.str p.1.1)) ((ps.map fun p => p.1.1).map D.str) := fun C => by rw [List.map_map]; exact .t
  refine p_are_some T (up _).s3 (ek _) h.ln.o h.ln.d h.ln.l h.lk ?_
  walk_at "g"
  refine s_fld (.inr ⟨z, rfl, List.mem_cons_self⟩) T.i_Book.c T.na_Book_kinds (by rfl) ?_
  walk_at "g"
  refine p_are_some T (up _).s4 (ek _) h.on.o h.on.d h.on.l h.ok ?_
  walk_at "g"
  refine s_it_seq (up _).s2 fun P hP => ?_
  refine dcB_map kx (fun p => p.1.1) (fun p => D.tup (p.1.2.map oD)) (hP _ (up _).s2) h.kn.d (by omega) (fun p hm k hk => ?_) (fun p hm k hk => ?_) ?_
  · dsimp only [kx]
    walk_at "g"
    exact hk
  · dsimp only [kx]
    walk_at "g"
    refine s_tuple_seq ((up _).k.s p hm) ?_
    exact hk
  walk_at "g"
  refine s_fld (.inr ⟨z, rfl, List.mem_cons_self⟩) T.i_Book.c T.na_Book_kinds (by rfl) ?_
  walk_at "g"
  refine lcB1_map (l := ps) (fun p => D.str p.1.1) (fun p => D.str p.1.1) (fun p => decide (p.1.1 ∈ ls)) trivial (fun p hm k hk => ?_) (fun p hm _ k hk => ?_) (by omega) ?_
  · walk_at "g"
    refine s_inS (up _).s3 ?_
    walk_at "g"
    exact hk
  · exact hk
  walk_at "g"
  refine s_fld (.inr ⟨z, rfl, List.mem_cons_self⟩) T.i_Book.c T.na_Book_kinds (by rfl) ?_
  walk_at "g"
  refine lcB1_map (l := ps) (fun p => D.str p.1.1) (fun p => D.str p.1.1) (fun p => decide (p.1.1 ∈ os)) trivial (fun p hm k hk => ?_) (fun p hm _ k hk => ?_) (by omega) ?_
  · walk_at "g"
    refine s_inS (up _).s4 ?_
    walk_at "g"
    exact hk
  · exact hk
  walk_at "g"
  have e : bookF b ns (ps.map (·.1)) ls os = [chD b ns, .tup (ps.map fun p => D.str p.1.1), .dic (ps.map fun p => .inr p.1.1) (ps.map fun p => D.tup (p.1.2.map oD)), .tup ((ps.filter fun p => decide (p.1.1 ∈ ls)).map fun p => D.str p.1.1), .tup ((ps.filter fun p => decide (p.1.1 ∈ os)).map fun p => D.str p.1.1)] := by
    unfold bookF inB
    simp only [List.map_map, List.filter_map]
    rfl
  rw [e] at q
  exact q
theorem mk_Book (T : Tp P K mg) {b : Bool} {d1 d2 d3 d4 : D} {ns : List Str} {ps : List (Kd × D)} {ls os : List Str} {C : Cells} {Q : QE} {Xq : QX} (h : BkArgs C b d1 d2 d3 d4 ns ps ls os) (q : Q (bookD T.c_Book b ns (ps.map (·.1)) ls os) C) : pMkF (fw_Book_init T) Xq T.c_Book [d1, d2, d3, d4] C Q :=
  mkF_of (ns := []) (fs := []) fun z => p_Book_init T h ⟨rfl, 0, z, _, _, _, rfl, rfl, q⟩


/-! the text of a book -/
def kSp : Str := " "
def kNl : Str := "\n"
def lineV (ns : List Str) : Str := Txt.join kSp ("values" :: ns)
def wordsK (k : Kd) : List Str := "kind" :: k.1 :: k.2.map fun o => o.getD "no"
def lineK (k : Kd) : Str := Txt.join kSp (wordsK k)
def lineL (w : Str) (xs : List Str) : List Str := if xs = [] then [] else [Txt.join kSp (w :: xs)]
def bookLs (ns : List Str) (kds : List Kd) (l1 l2 : List Str) : List Str := lineV ns :: kds.map lineK ++ lineL "loose" l1 ++ lineL "others" l2
def bookT (ns : List Str) (kds : List Kd) (ls os : List Str) : Str := Txt.join kNl (bookLs ns kds (inB kds ls) (inB kds os))
theorem sum_le {m : Nat} : ∀ {xs : List Str}, (∀ x ∈ xs, x.length ≤ m) → (xs.map (·.length)).sum ≤ xs.length * m
  | [], _ => by simp
  | x :: xs, h => by
    have h1 := h x List.mem_cons_self
    have h2 := sum_le fun y hy => h y (List.mem_cons_of_mem _ hy)
    rw [List.map_cons, List.sum_cons, List.length_cons, Nat.succ_mul]
    omega
/-- how long all this can be -/
structure BkLen (ns : List Str) (kds : List Kd) : Prop where
  n : ns.length ≤ 50
  k : kds.length ≤ 50
  nl : ∀ x ∈ ns, x.length ≤ 4
  kl : ∀ x ∈ kds, x.1.length ≤ 4
  tn : ∀ x ∈ kds, x.2.length ≤ 50
  tl : ∀ x ∈ kds, ∀ o ∈ x.2, ∀ s, o = some s → s.length ≤ 4 ∧ s.length ≠ 0
theorem words_len {w : Str} {xs : List Str} (hw : w.length ≤ 6) (hl : xs.length ≤ 51) (hx : ∀ x ∈ xs, x.length ≤ 4) : ((w :: xs).map (·.length)).sum + (w :: xs).length * kSp.length ≤ 300 ∧ (Txt.join kSp (w :: xs)).length ≤ 300 := by
  have h1 := sum_le hx
  have h2 := txt_join_len kSp (w :: xs)
  have e : kSp.length = 1 := by decide
  simp only [List.map_cons, List.sum_cons, List.length_cons, e, Nat.mul_one] at h1 h2 ⊢
  omega
theorem lines_len {xs : List Str} (hl : xs.length ≤ 60) (hx : ∀ x ∈ xs, x.length ≤ 300) : (xs.map (·.length)).sum + xs.length * kNl.length ≤ 20000 ∧ (Txt.join kNl xs).length ≤ 20000 := by
  have h1 := sum_le hx
  have h2 := txt_join_len kNl xs
  have e : kNl.length = 1 := by decide
  rw [e, Nat.mul_one] at h2 ⊢
  omega
theorem BkLen.inB {ns : List Str} {kds : List Kd} (h : BkLen ns kds) (ls : List Str) : (inB kds ls).length ≤ 50 ∧ ∀ x ∈ Kk.inB kds ls, x.length ≤ 4 := by
  refine ⟨Nat.le_trans (List.length_filter_le _ _) (by rw [List.length_map]; exact h.k), fun x hx => ?_⟩
  obtain ⟨k, hk, rfl⟩ := List.mem_map.mp (List.mem_filter.mp hx).1
  exact h.kl k hk
theorem BkLen.lineK {ns : List Str} {kds : List Kd} (h : BkLen ns kds) {k : Kd} (hk : k ∈ kds) : ((wordsK k).map (·.length)).sum + (wordsK k).length * kSp.length ≤ 300 ∧ (Kk.lineK k).length ≤ 300 := by
  refine words_len (w := "kind") (by decide) (by rw [List.length_cons, List.length_map]; have := h.tn k hk; omega) fun x hx => ?_
  rcases List.mem_cons.mp hx with rfl | hx
  · exact h.kl k hk
  obtain ⟨o, ho, rfl⟩ := List.mem_map.mp hx
  cases o with
  | none => decide
  | some s => exact (h.tl k hk _ ho s rfl).1
theorem lineL_len {w : Str} {xs : List Str} (hw : w.length ≤ 6) (hl : xs.length ≤ 50) (hx : ∀ x ∈ xs, x.length ≤ 4) : (lineL w xs).length ≤ 1 ∧ ∀ y ∈ lineL w xs, y.length ≤ 300 := by
  unfold lineL
  by_cases e : xs = []
  · rw [if_pos e]; exact ⟨by simp, by simp⟩
  · rw [if_neg e]
    refine ⟨by simp, fun y hy => ?_⟩
    rw [List.mem_singleton.mp hy]
    exact (words_len hw (by omega) hx).2
theorem BkLen.lines {ns : List Str} {kds : List Kd} (h : BkLen ns kds) (ls os : List Str) : (bookLs ns kds (Kk.inB kds ls) (Kk.inB kds os)).length ≤ 60 ∧ ∀ x ∈ bookLs ns kds (Kk.inB kds ls) (Kk.inB kds os), x.length ≤ 300 := by
  have a := lineL_len (w := "loose") (by decide) (h.inB ls).1 (h.inB ls).2
  have b := lineL_len (w := "others") (by decide) (h.inB os).1 (h.inB os).2
  have k := h.k
  unfold bookLs
  refine ⟨?_, fun x hx => ?_⟩
  · rw [List.length_append, List.length_append, List.length_cons, List.length_map]
    omega
  · rcases List.mem_append.mp hx with hx | hx
    · rcases List.mem_append.mp hx with hx | hx
      · rcases List.mem_cons.mp hx with rfl | hx
        · exact (words_len (by decide) (by have := h.n; omega) h.nl).2
        · obtain ⟨k, hk, rfl⟩ := List.mem_map.mp hx
          exact (h.lineK hk).2
      · exact a.2 x hx
    · exact b.2 x hx
theorem look_map {α : Type} (ky : α → Str) (vl : α → D) : ∀ {l : List α} {x : α}, (l.map ky).Nodup → x ∈ l → lookD (l.map fun a => .inr (ky a)) (l.map vl) (.inr (ky x)) = some (vl x)
  | a :: l, x, nd, hx => by
    rw [List.map_cons, List.map_cons]
    unfold lookD
    by_cases e : ky a = ky x
    · rcases List.mem_cons.mp hx with rfl | hx
      · rw [if_pos rfl]
      · rw [List.map_cons, List.nodup_cons] at nd
        exact absurd (e ▸ List.mem_map_of_mem hx) nd.1
    · rw [if_neg (fun h => e (by injection h))]
      rcases List.mem_cons.mp hx with rfl | hx
      · exact absurd rfl e
      · rw [List.map_cons, List.nodup_cons] at nd
        exact look_map ky vl nd.2 hx
theorem tr_nameD {C : Cells} {o : Option Str} (h : ∀ s, o = some s → s.length ≤ 4 ∧ s.length ≠ 0) : TrD C (oD o) o.isSome := by
  cases o with
  | none => rfl
  | some s =>
    have := h s rfl
    refine ⟨by omega, ?_⟩
    show true = ((s.length : Int) != 0)
    have : ((s.length : Int) == 0) = false := beq_eq_false_iff_ne.mpr (by omega)
    rw [bne, this]; rfl
theorem p_Book_str (T : Tp P K mg) {b : Bool} {ns : List Str} {kds : List Kd} {ls os : List Str} {Q : QE} {Qx : QX} (h : BkLen ns kds) (nd : (kds.map (·.1)).Nodup) (q : ∀ r, r = bookT ns kds ls os → Q (.str r) []) : w_Book_str T (bookD T.c_Book b ns kds ls os) Qx Q [] := by
  have hk := h.k
  unfold w_Book_str bookD bookF
  walk_at "g"
  refine s_fldW (.inl rfl) T.i_Book.c T.na_Book_choices (by rfl) ?_
  rw [wk_chD]
  refine ⟨_, .t, ?_⟩
  walk_at "g"
  rw [List.append_nil]
  have w0 := words_len (w := "values") (by decide) (by have := h.n; omega) h.nl
  refine ⟨by rw [List.length_cons, List.length_map]; have := h.n; omega, ?_⟩
  refine s_join (zs := "values" :: ns) .l ?_
  refine ⟨Nat.le_trans w0.1 (by decide), ?_⟩
  walk_at "g"
  intro z
  walk_at "g"
  refine loop_inv (fun i _ C => C = [(z, .lst ((lineV ns :: (kds.take i).map lineK).map D.str))]) rfl ?_ ?_
  · rintro i d u C nx hi rfl hn
    refine ⟨trivial, ?_⟩
    rw [List.getElem?_map] at hi
    obtain ⟨k, hx, rfl⟩ := Option.map_eq_some_iff.mp hi
    have hm := List.mem_of_getElem? hx
    have hlt := (List.getElem?_eq_some_iff.mp hx).1
    have wk := h.lineK hm
    unfold w_Book_str_l1
    walk_at "g"
    refine .inr ⟨_, _, .inr k.1, _, .inl rfl, rfl, look_map (fun k : Kd => k.1) (fun k => D.tup (k.2.map oD)) nd hm, ?_⟩
    walk_at "g"
    refine lcB_map oD (fun o => D.str (o.getD "no")) trivial (fun o ho kk hk => ?_) (by have := h.tn k hm; omega) ?_
    · refine ⟨o.isSome, tr_nameD (h.tl k hm o ho), ?_⟩
      cases o with
      | none => exact hk
      | some s => exact hk
    refine ⟨_, .l, ?_⟩
    walk_at "g"
    rw [List.append_nil]
    have ew : (D.str "kind" :: D.str k.1 :: k.2.map fun o => D.str (o.getD "no")) = (wordsK k).map D.str := by unfold wordsK; rw [List.map_cons, List.map_cons, List.map_map]; rfl
    rw [ew]
    refine ⟨by rw [List.length_map]; unfold wordsK; rw [List.length_cons, List.length_cons, List.length_map]; have := h.tn k hm; omega, ?_⟩
    refine s_join (zs := wordsK k) .l ?_
    refine ⟨Nat.le_trans wk.1 (by decide), ?_⟩
    refine s_app 0 rfl ⟨by rw [List.length_map, List.length_cons, List.length_map, List.length_take]; omega, part_id (hn _ _ ?_)⟩
    rw [List.take_succ, hx]
    simp only [Option.toList_some, List.map_append, List.map_cons, List.map_nil, List.cons_append]
    rfl
  · rintro u C rfl
    refine ⟨trivial, ?_⟩
    rw [List.length_map, List.take_length]
    have a1 := h.inB ls
    have a2 := h.inB os
    have hb := lines_len (h.lines ls os).1 (h.lines ls os).2
    have f4 : w_Book_str_j4 T (.raw (.ref z)) Qx Q () [(z, .lst ((bookLs ns kds (inB kds ls) (inB kds os)).map D.str))] := by
      unfold w_Book_str_j4
      walk_at "g"
      refine ⟨Nat.le_trans hb.1 (by decide), ?_⟩
      exact ⟨[], [_], List.Perm.refl _, q _ rfl⟩
    have f3 : w_Book_str_j3 T (bookD T.c_Book b ns kds ls os) (.raw (.ref z)) Qx Q () [(z, .lst ((lineV ns :: kds.map lineK ++ lineL "loose" (inB kds ls)).map D.str))] := by
      have wl := words_len (w := "others") (by decide) (by omega) a2.2
      have ll := (lineL_len (w := "loose") (by decide) a1.1 a1.2).1
      unfold bookLs at f4
      unfold w_Book_str_j3 bookD bookF
      generalize inB kds os = xs at *
      walk_at "g"
      refine ite2M (fun h1 => ?_) (fun h1 => ?_)
      · have e : ¬ xs = [] := by rintro rfl; simp at h1
        walk_at "g"
        refine ⟨_, .t, (show (D.str "others" :: (xs.map D.str ++ [])).length ≤ 100000 ∧ pJoin _ (D.lst (D.str "others" :: (xs.map D.str ++ []))) _ _ from ?_)⟩
        rw [List.append_nil]
        refine ⟨by rw [List.length_cons, List.length_map]; omega, ?_⟩
        refine s_join (zs := "others" :: xs) .l ?_
        refine ⟨Nat.le_trans wl.1 (by decide), ?_⟩
        refine s_app 0 rfl ⟨by rw [List.length_map, List.length_append, List.length_cons, List.length_map]; omega, ?_⟩
        have e2 : lineL "others" xs = [Txt.join kSp ("others" :: xs)] := if_neg e
        rw [e2, List.map_append] at f4
        exact f4
      · have e : xs = [] := by
          cases xs with
          | nil => rfl
          | cons a b => exact absurd (by simp) h1
        rw [show lineL "others" xs = [] from if_pos e, List.append_nil] at f4
        exact f4
    have wl := words_len (w := "loose") (by decide) (by omega) a1.2
    unfold bookD bookF at f3
    unfold w_Book_str_a2
    generalize inB kds ls = xs at *
    walk_at "g"
    refine ite2M (fun h1 => ?_) (fun h1 => ?_)
    · have e : ¬ xs = [] := by rintro rfl; simp at h1
      walk_at "g"
      refine ⟨_, .t, (show (D.str "loose" :: (xs.map D.str ++ [])).length ≤ 100000 ∧ pJoin _ (D.lst (D.str "loose" :: (xs.map D.str ++ []))) _ _ from ?_)⟩
      rw [List.append_nil]
      refine ⟨by rw [List.length_cons, List.length_map]; omega, ?_⟩
      refine s_join (zs := "loose" :: xs) .l ?_
      refine ⟨Nat.le_trans wl.1 (by decide), ?_⟩
      refine s_app 0 rfl ⟨by rw [List.length_map, List.length_cons, List.length_map]; omega, ?_⟩
      rw [show lineL "loose" xs = [Txt.join kSp ("loose" :: xs)] from if_neg e, List.map_append] at f3
      exact f3
    · have e : xs = [] := by
        cases xs with
        | nil => rfl
        | cons a b => exact absurd (by simp) h1
      rw [show lineL "loose" xs = [] from if_pos e, List.append_nil] at f3
      exact f3
theorem o_Book_str (T : Tp P K mg) {b : Bool} {ns : List Str} {kds : List Kd} {ls os : List Str} {C : Cells} {Q : QE} (h : BkLen ns kds) (nd : (kds.map (·.1)).Nodup) (q : ∀ r, r = bookT ns kds ls os → Q (.str r) C) : ownStr T.c_Book (fw_Book_str T) (bookD T.c_Book b ns kds ls os) C Q :=
  ⟨_, _, .inl rfl, [], C, List.Perm.refl _, p_Book_str T (Qx := fun _ _ _ => False) h nd fun r e => ⟨r, rfl, q r e⟩⟩
/-- == of books -/
theorem p_Book_eq (T : Tp P K mg) {b b2 : Bool} {ns ns2 : List Str} {kds kds2 : List Kd} {ls os ls2 os2 : List Str} {C : Cells} {Q : QE} {Qx : QX} (h1 : BkLen ns kds) (n1 : (kds.map (·.1)).Nodup) (h2 : BkLen ns2 kds2) (n2 : (kds2.map (·.1)).Nodup)
    (q : Q (.bl (decide (bookT ns kds ls os = bookT ns2 kds2 ls2 os2))) C) : w_Book_eq T (bookD T.c_Book b ns kds ls os) (bookD T.c_Book b2 ns2 kds2 ls2 os2) Qx Q C := by
  unfold w_Book_eq
  walk_at "g"
  refine s_isi (.own _) (.ins T.i_Book) kit_self ?_
  walk_at "g"
  refine s_str_own (o_Book_str T h1 n1 fun r1 e1 => ?_)
  walk_at "g"
  refine s_str_own (o_Book_str T h2 n2 fun r2 e2 => ?_)
  rw [← e1, ← e2] at q
  walk_at "g"
  exact q
theorem p_Book_eqO (T : Tp P K mg) {b : Bool} {ns : List Str} {kds : List Kd} {ls os : List Str} {d : D} {t : Value} {C : Cells} {Q : QE} {Qx : QX} (h1 : TyD K C d t) (h2 : W.kitOne K t (.ref T.c_Book) = some false) (q : Q (.bl false) C) : w_Book_eq T (bookD T.c_Book b ns kds ls os) d Qx Q C := by
  unfold w_Book_eq
  walk_at "g"
  refine s_isi (.own _) h1 h2 ?_
  walk_at "g"
  exact q


/-- what is known of a good book -/
structure BkOk (ns : List Str) (kds : List Kd) : Prop where
  len : BkLen ns kds
  n : NamesOk ns
  p : 0 < ns.length
  kn : NamesOk (kds.map (·.1))
  so : ∀ x ∈ ns, PyData.strOk x = true
  ko : ∀ x ∈ kds, PyData.strOk x.1 = true
  tn : ∀ x ∈ kds, x.2.length = ns.length
  tm : ∀ x ∈ kds, ∀ o ∈ x.2, ∀ s, o = some s → s ∈ ns
theorem eq_Book (T : Tp P K mg) {b b2 : Bool} {ns ns2 : List Str} {kds kds2 : List Kd} {ls os ls2 os2 : List Str} {C : Cells} {Q : QE} (h1 : BkOk ns kds) (h2 : BkOk ns2 kds2) (q : ∀ x, x = decide (bookT ns kds ls os = bookT ns2 kds2 ls2 os2) → Q (.bl x) C) :
    oEq (ownB K T.c_Book (fw_Book_eq T) false) (bookD T.c_Book b ns kds ls os) (bookD T.c_Book b2 ns2 kds2 ls2 os2) C Q :=
  s_eqO (.inl rfl) ⟨_, _, _, .inl rfl, .ins T.i_Book, T.nf_Book_Book, callN_all (p_Book_eq T (Qx := fun _ _ _ => False) h1.len h1.kn.d h2.len h2.kn.d (q _ rfl))⟩
theorem ne_Book (T : Tp P K mg) {b b2 : Bool} {ns ns2 : List Str} {kds kds2 : List Kd} {ls os ls2 os2 : List Str} {C : Cells} {Q : QE} (h1 : BkOk ns kds) (h2 : BkOk ns2 kds2) (q : ∀ x, x = decide (bookT ns kds ls os = bookT ns2 kds2 ls2 os2) → Q (.bl (!x)) C) :
    oNe (ownB K T.c_Book (fw_Book_eq T) true) (bookD T.c_Book b ns kds ls os) (bookD T.c_Book b2 ns2 kds2 ls2 os2) C Q :=
  s_neO (.inl rfl) ⟨_, _, _, .inl rfl, .ins T.i_Book, T.nf_Book_Book, callN_all (p_Book_eq T (Qx := fun _ _ _ => False) h1.len h1.kn.d h2.len h2.kn.d (q _ rfl))⟩
theorem eq_BookO (T : Tp P K mg) {b : Bool} {ns : List Str} {kds : List Kd} {ls os : List Str} {d : D} {t : Value} {C : Cells} {Q : QE} (h1 : TyD K C d t) (h2 : W.kitOne K t (.ref T.c_Book) = some false) (h3 : W.notFirst K T.c_Book t = true) (q : Q (.bl false) C) :
    oEq (ownB K T.c_Book (fw_Book_eq T) false) (bookD T.c_Book b ns kds ls os) d C Q :=
  s_eqO (.inl rfl) ⟨_, _, _, .inl rfl, h1, h3, callN_all (p_Book_eqO T (Qx := fun _ _ _ => False) h1 h2 q)⟩
/-- what was drawn is good -/
theorem Names.good {ns : List Str} {k : Int} (h : Names ns k) (hk : k ≤ 22) : NamesOk ns := ⟨fun x hx => ⟨(h.ok x hx).1, by have := (h.ok x hx).2.2.1; omega⟩, h.nd, by have := h.len; omega⟩
theorem name_pos {s : Str} (h : isNameS s = true) : s.length ≠ 0 := by
  unfold isNameS at h
  simp at h
  omega
theorem BookOk.good {ns : List Str} {kds : List Kd} {ls os : List Str} {m : Int} (h : BookOk ns kds ls os m) (hm : m ≤ 20) : BkOk ns kds := by
  obtain ⟨k, k0, k1, hn⟩ := h.n
  obtain ⟨j, j0, j1, hk⟩ := h.k
  have n1 := hn.len
  have n2 := hk.len
  rw [List.length_map] at n2
  have kx : ∀ x ∈ kds, x.1 ∈ kds.map (·.1) := fun x hx => List.mem_map_of_mem hx
  refine ⟨⟨by omega, by omega, fun x hx => (hn.ok x hx).2.2.1, fun x hx => (hk.ok _ (kx x hx)).2.2.1, fun x hx => by rw [(h.t x hx).1]; omega, fun x hx o ho s e => ?_⟩, hn.good (by omega), by omega, hk.good (by omega), fun x hx => (hn.ok x hx).2.1, fun x hx => (hk.ok _ (kx x hx)).2.1, fun x hx => (h.t x hx).1, fun x hx => (h.t x hx).2⟩
  have hs := hn.ok s ((h.t x hx).2 o ho s e)
  exact ⟨hs.2.2.1, name_pos hs.1⟩
theorem nodup_len {l : List Str} : ∀ {m : List Str}, l.Nodup → (∀ x ∈ l, x ∈ m) → l.length ≤ m.length := by
  induction l with
  | nil => intro m _ _; simp
  | cons x l ih =>
    intro m nd h
    have hx := h x List.mem_cons_self
    have n2 := List.nodup_cons.mp nd
    have := ih (m := m.erase x) n2.2 fun y hy => (List.mem_erase_of_ne (show y ≠ x from fun e => n2.1 (e ▸ hy))).mpr (h y (List.mem_cons_of_mem _ hy))
    rw [List.length_erase_of_mem hx] at this
    have := List.length_pos_of_mem hx
    rw [List.length_cons]
    omega
theorem BookOk.goodL {ns : List Str} {kds : List Kd} {ls os : List Str} {m : Int} (h : BookOk ns kds ls os m) (hm : m ≤ 20) : NamesOk ls ∧ NamesOk os := by
  obtain ⟨j, j0, j1, hk⟩ := h.k
  have n2 := hk.len
  obtain ⟨a, ha, h1⟩ := h.l
  obtain ⟨b, hb, h2⟩ := h.o
  have l1 := nodup_len ha.nd h1
  have l2 := nodup_len hb.nd h2
  have := ha.len
  have := hb.len
  exact ⟨ha.good (by omega), hb.good (by omega)⟩
theorem BkOk.args {C : Cells} {b : Bool} {d1 d2 d3 d4 : D} {ns : List Str} {ps : List (Kd × D)} {kds : List Kd} {ls os : List Str} (g : BkOk ns kds) (e : ps.map (·.1) = kds) (gl : NamesOk ls) (go : NamesOk os) (ml : ∀ x ∈ ls, x ∈ kds.map (·.1)) (mo : ∀ x ∈ os, x ∈ kds.map (·.1))
    (ch : ChOk C b d1 ns) (s2 : SeqD C d2 (ps.map kx)) (s3 : SeqD C d3 (ls.map D.str)) (s4 : SeqD C d4 (os.map D.str)) (st : ∀ p ∈ ps, SeqD C p.2 (p.1.2.map oD)) : BkArgs C b d1 d2 d3 d4 ns ps ls os := by
  subst e
  have e2 : (ps.map (·.1)).map (·.1) = ps.map fun p => p.1.1 := by rw [List.map_map]; rfl
  rw [e2] at ml mo
  have kn := g.kn
  rw [e2] at kn
  exact ⟨ch, s2, s3, s4, g.n, g.p, ⟨st, fun p hp => g.tn p.1 (List.mem_map_of_mem hp), fun p hp => g.tm p.1 (List.mem_map_of_mem hp)⟩, kn, gl, go, ml, mo⟩
/-- from lists that stand still -/
theorem mk_BookL (T : Tp P K mg) {b : Bool} {d1 d2 d3 d4 : D} {ns : List Str} {kds : List Kd} {ls os : List Str} {C : Cells} {Q : QE} {Xq : QX} (g : BkOk ns kds) (gl : NamesOk ls) (go : NamesOk os) (ml : ∀ x ∈ ls, x ∈ kds.map (·.1)) (mo : ∀ x ∈ os, x ∈ kds.map (·.1))
    (ch : ChOk C b d1 ns) (s2 : SeqD C d2 (kds.map kdD)) (s3 : SeqD C d3 (ls.map D.str)) (s4 : SeqD C d4 (os.map D.str)) (q : Q (bookD T.c_Book b ns kds ls os) C) : pMkF (fw_Book_init T) Xq T.c_Book [d1, d2, d3, d4] C Q := by
  have e : (kds.map fun k => (k, D.lst (k.2.map oD))).map (·.1) = kds := by rw [List.map_map]; exact List.map_id _
  refine mk_Book T (g.args (ps := kds.map fun k => (k, D.lst (k.2.map oD))) e gl go ml mo ch (by rw [List.map_map]; exact s2) s3 s4 fun p hp => ?_) (by rw [e]; exact q)
  obtain ⟨k, _, rfl⟩ := List.mem_map.mp hp
  exact .inl (.inl rfl)
/-! the fields of a book -/
section
variable {b : Bool} {ns : List Str} {kds : List Kd} {ls os : List Str} {C : Cells} {Q : QE}
theorem f_choices (T : Tp P K mg) (q : Q (.tup (ns.map D.str)) C) : pFldW K "choices" (bookD T.c_Book b ns kds ls os) C Q := s_fldW (.inl rfl) T.i_Book.c T.na_Book_choices (by rfl) (by rw [wk_chD]; exact q)
theorem f_choicesN (T : Tp P K mg) (q : Q (chD b ns) C) : pFld K "choices" (bookD T.c_Book b ns kds ls os) C Q := s_fld (.inl rfl) T.i_Book.c T.na_Book_choices (by rfl) q
theorem f_kinds (T : Tp P K mg) (q : Q (.tup ((kds.map (·.1)).map D.str)) C) : pFld K "kinds" (bookD T.c_Book b ns kds ls os) C Q := s_fld (.inl rfl) T.i_Book.c T.na_Book_kinds (by rfl) (by rw [List.map_map] at q; exact q)
theorem f_targets (T : Tp P K mg) (q : Q (.dic (kds.map fun k => .inr k.1) (kds.map fun k => D.tup (k.2.map oD))) C) : pFld K "targets" (bookD T.c_Book b ns kds ls os) C Q := s_fld (.inl rfl) T.i_Book.c T.na_Book_targets (by rfl) q
theorem f_loose (T : Tp P K mg) (q : Q (.tup ((inB kds ls).map D.str)) C) : pFld K "loose" (bookD T.c_Book b ns kds ls os) C Q := s_fld (.inl rfl) T.i_Book.c T.na_Book_loose (by rfl) q
theorem f_others (T : Tp P K mg) (q : Q (.tup ((inB kds os).map D.str)) C) : pFld K "others" (bookD T.c_Book b ns kds ls os) C Q := s_fld (.inl rfl) T.i_Book.c T.na_Book_others (by rfl) q
end
-- @c pFldW _ "choices" (bookD _ _ _ _ _ _) _ _ ==> refine f_choices T ?_
-- @c pFld _ "choices" (bookD _ _ _ _ _ _) _ _ ==> refine f_choicesN T ?_
-- @c pFld _ "kinds" (bookD _ _ _ _ _ _) _ _ ==> refine f_kinds T ?_
-- @c pFld _ "targets" (bookD _ _ _ _ _ _) _ _ ==> refine f_targets T ?_
-- @c pFld _ "loose" (bookD _ _ _ _ _ _) _ _ ==> refine f_loose T ?_
-- @c pFld _ "others" (bookD _ _ _ _ _ _) _ _ ==> refine f_others T ?_
theorem mk_BookT (T : Tp P K mg) {b : Bool} {d1 d2 d3 d4 : D} {ns : List Str} {kds : List Kd} {ls os : List Str} {C : Cells} {Q : QE} {Xq : QX} (g : BkOk ns kds) (gl : NamesOk ls) (go : NamesOk os) (ml : ∀ x ∈ ls, x ∈ kds.map (·.1)) (mo : ∀ x ∈ os, x ∈ kds.map (·.1))
    (ch : ChOk C b d1 ns) (s2 : SeqD C d2 (kds.map fun k => D.tup [.str k.1, .tup (k.2.map oD)])) (s3 : SeqD C d3 (ls.map D.str)) (s4 : SeqD C d4 (os.map D.str)) (q : Q (bookD T.c_Book b ns kds ls os) C) : pMkF (fw_Book_init T) Xq T.c_Book [d1, d2, d3, d4] C Q := by
  have e : (kds.map fun k => (k, D.tup (k.2.map oD))).map (·.1) = kds := by rw [List.map_map]; exact List.map_id _
  refine mk_Book T (g.args (ps := kds.map fun k => (k, D.tup (k.2.map oD))) e gl go ml mo ch (by rw [List.map_map]; exact s2) s3 s4 fun p hp => ?_) (by rw [e]; exact q)
  obtain ⟨k, _, rfl⟩ := List.mem_map.mp hp
  exact .t
theorem NamesOk.nil : NamesOk [] := ⟨fun _ h => (by cases h), .nil, by decide⟩

local macro_rules | `(tactic| walk_at "c") => `(tactic| first
  | ((with_reducible show pFldW _ "choices" (bookD _ _ _ _ _ _) _ _); refine f_choices T ?_)
  | ((with_reducible show pFld _ "choices" (bookD _ _ _ _ _ _) _ _); refine f_choicesN T ?_)
  | ((with_reducible show pFld _ "kinds" (bookD _ _ _ _ _ _) _ _); refine f_kinds T ?_)
  | ((with_reducible show pFld _ "targets" (bookD _ _ _ _ _ _) _ _); refine f_targets T ?_)
  | ((with_reducible show pFld _ "loose" (bookD _ _ _ _ _ _) _ _); refine f_loose T ?_)
  | ((with_reducible show pFld _ "others" (bookD _ _ _ _ _ _) _ _); refine f_others T ?_))

/-! books again -/
theorem inB_of {kds : List Kd} {ls ms : List Str} (h : ∀ x, x ∈ ms ↔ x ∈ inB kds ls) : inB kds ms = inB kds ls := by
  unfold inB at h ⊢
  refine List.filter_congr fun n hn => ?_
  rw [decide_eq_decide, h n, List.mem_filter, decide_eq_true_iff]
  exact ⟨fun z => z.2, fun z => ⟨hn, z⟩⟩
theorem inB_inB (kds : List Kd) (ls : List Str) : inB kds (inB kds ls) = inB kds ls := inB_of fun _ => Iff.rfl
theorem eqd_same {C : Cells} {xs : List D} (h : ∀ d ∈ xs, plainD d = true ∧ (toPy d).canLay0 = true ∧ (toPy d).depth ≤ 30) : EqD C (.lst xs) (.lst xs) true := by
  obtain ⟨a, b, c⟩ := lays h
  have sh : SeqAt.shaped (.list (toPys xs)) = true := by
    unfold SeqAt.shaped
    rw [PyData.canLay0, b, PyData.depth, Bool.true_and]
    exact decide_eq_true (by omega)
  exact ⟨.list (toPys xs), .list (toPys xs), .inl ⟨a, rfl⟩, .inl ⟨a, rfl⟩, sh, sh, SeqAt.eqv_refl _ (by rw [PyData.canLay0, b])⟩
theorem oD_plain {o : Option Str} (h : ∀ s, o = some s → PyData.strOk s = true) : plainD (oD o) = true ∧ (toPy (oD o)).canLay0 = true ∧ (toPy (oD o)).depth ≤ 30 := by
  cases o with
  | none => exact ⟨rfl, by decide +kernel, by decide +kernel⟩
  | some s =>
    have h1 := lay_strs (xs := [s]) (by simpa using h s rfl)
    simp only [List.map_cons, List.map_nil, toPys, PyData.canLayAll0, PyData.depthAll, Bool.and_true] at h1
    refine ⟨rfl, h1.1, ?_⟩
    have h2 := h1.2
    simp only [oD]
    omega
theorem Names.sub {xs ys : List Str} {k : Int} (h : Names xs k) (s : ys.Sublist xs) : Names ys ys.length := ⟨rfl, h.nd.sublist s, fun x hx => h.mem x (s.subset hx)⟩
/-- the names behind loose, others -/
theorem BookOk.names {ns : List Str} {kds : List Kd} {ls os : List Str} {m : Int} (h : BookOk ns kds ls os m) (xs : List Str) : Names (inB kds xs) (inB kds xs).length := by
  obtain ⟨j, _, _, hk⟩ := h.k
  exact hk.sub List.filter_sublist
theorem inB_mem {kds : List Kd} {ls : List Str} {x : Str} (h : x ∈ inB kds ls) : x ∈ kds.map (·.1) := (List.mem_filter.mp h).1
theorem bookLs_eq (ns : List Str) (kds : List Kd) (l1 l2 : List Str) : bookLs ns kds l1 l2 = lineV ns :: kds.map lineK ++ lineL "loose" l1 ++ lineL "others" l2 := rfl


/-! a kind that is needed -/
theorem p_need_kind (T : Tp P K mg) {b : Bool} {ns : List Str} {kds : List Kd} {ls os : List Str} {k : Str} {C : Cells} {Q : QE} {Qx : QX} (g : BkOk ns kds) (hk : k ∈ kds.map (·.1)) (q : Q .non C) : callW (fw_Book_need_kind T) Qx [bookD T.c_Book b ns kds ls os, .str k] C Q := by
  have hn := g.kn.o k hk
  refine call_all (show w_Book_need_kind T (bookD T.c_Book b ns kds ls os) (.str k) Qx Q C from ?_)
  unfold w_Book_need_kind
  walk_at "g"
  rw [hn.1]
  walk_at "g"
  rw [show decide (k ∈ kds.map (·.1)) = true from decide_eq_true hk]
  walk_at "g"
  exact q
/-- what is no kind is refused with itself -/
theorem p_need_bad (T : Tp P K mg) {b : Bool} {ns : List Str} {kds : List Kd} {ls os : List Str} {d : D} {C : Cells} {Q : QE} {Qx : QX} (ha : AnyD K C d) (hk : ∀ s, d = .str s → s ∉ kds.map (·.1)) (q : Qx (.ref T.c_NoKind) (some (["name"], [d])) C) : callW (fw_Book_need_kind T) Qx [bookD T.c_Book b ns kds ls os, d] C Q := by
  refine call_all (show w_Book_need_kind T (bookD T.c_Book b ns kds ls os) d Qx Q C from ?_)
  unfold w_Book_need_kind
  walk_at "g"
  refine p_is_name T ha ?_
  by_cases hn : isNameD d = true
  · rw [hn]
    obtain ⟨s, rfl⟩ : ∃ s, d = .str s := by cases d <;> first | exact ⟨_, rfl⟩ | cases hn
    walk_at "g"
    rw [show decide (s ∈ kds.map (·.1)) = false from decide_eq_false (hk s rfl)]
    walk_at "g"
    exact q
  · rw [show isNameD d = false by simpa using hn]
    walk_at "g"
    exact q


/-! a target -/
theorem p_target (T : Tp P K mg) {ns : List Str} {kds : List Kd} {ls os : List Str} {k : Kd} {j : Nat} {v : Str} {o : Option Str} {C : Cells} {Q : QE} {Qx : QX} (g : BkOk ns kds) (hk : k ∈ kds) (hj : ns[j]? = some v) (ho : k.2[j]? = some o) (q : Q (oD o) C) : callW (fw_Book_target T) Qx [bookD T.c_Book true ns kds ls os, .str k.1, .str v] C Q := by
  have hv := List.mem_of_getElem? hj
  have hn := g.n.o v hv
  refine call_all (show w_Book_target T (bookD T.c_Book true ns kds ls os) (.str k.1) (.str v) Qx Q C from ?_)
  unfold w_Book_target
  walk_at "g"
  refine p_need_kind T g (List.mem_map_of_mem hk) ?_
  walk_at "g"
  rw [hn.1]
  walk_at "g"
  rw [show decide (v ∈ ns) = true from decide_eq_true hv]
  walk_at "g"
  refine .inr ⟨_, _, .inr k.1, _, .inl rfl, rfl, look_map (fun k : Kd => k.1) (fun k => D.tup (k.2.map oD)) g.kn.d hk, ?_⟩
  walk_at "g"
  refine ⟨⟨_, rfl⟩, ?_⟩
  walk_at "g"
  refine s_indexT hj (fun m hm e => ?_) ?_
  · obtain ⟨h1, e1⟩ := List.getElem?_eq_some_iff.mp e
    obtain ⟨h2, e2⟩ := List.getElem?_eq_some_iff.mp hj
    have := (List.getElem_inj g.n.d).mp (e1.trans e2.symm)
    omega
  have h1 := (List.getElem?_eq_some_iff.mp ho).1
  refine s_ix_tup (d := oD o) ?_ q
  unfold atI ixN
  rw [if_pos (by omega), if_pos (by rw [List.length_map]; omega)]
  show (k.2.map oD)[((j : Nat) : Int).toNat]? = _
  rw [Int.toNat_natCast, List.getElem?_map, ho]
  rfl


/-- what the law's own any values are -/
def anyC : List D := [.non, .bl true, .bl false, .int 0, .int 1, .int (0 - 3), .int (10 ^ 9), .str "", .str "a", .str "no", .str "yes", .str "abcde", .str "A", .str "x y", .tup [.str "a", .tup [.str "a"]], .str "on"]
inductive AV : Nat → D → Prop
  | c {n d} (h : d ∈ anyC) : AV n d
  | l {n ds} (h : ∀ d ∈ ds, AV n d) (hl : ds.length ≤ 3) : AV (n + 1) (.lst ds)
  | t {n ds} (h : ∀ d ∈ ds, AV n d) (hl : ds.length ≤ 3) : AV (n + 1) (.tup ds)
theorem anyD_of {K : W.Frag} {C : Cells} {d : D} {t : String} (h : TyD K C d (.type t)) (hk : kitB t "str" = some (isStr d)) (hl : (strOf d).length ≤ 100000) : AnyD K C d := ⟨⟨_, h, kit_ty hk⟩, hl⟩
theorem AV.any {K : W.Frag} {C : Cells} {n : Nat} {d : D} (h : AV n d) : AnyD K C d := by
  cases h with
  | c h =>
    unfold anyC at h
    simp only [List.mem_cons, List.not_mem_nil, or_false] at h
    rcases h with rfl | rfl | rfl | rfl | rfl | rfl | rfl | rfl | rfl | rfl | rfl | rfl | rfl | rfl | rfl | rfl
    all_goals first
      | exact any_str (by decide)
      | exact anyD_of .non (by decide +kernel) (by decide)
      | exact anyD_of (.bl _) (by decide +kernel) (by decide)
      | exact anyD_of (.int _) (by decide +kernel) (by decide)
      | exact anyD_of (.tup _) (by decide +kernel) (by decide)
  | l h hl => exact anyD_of (.lst _) (show kitB "list" "str" = some false by decide +kernel) (by show Str.empty.length ≤ _; decide)
  | t h hl => exact anyD_of (.tup _) (show kitB "tuple" "str" = some false by decide +kernel) (by show Str.empty.length ≤ _; decide)
/-- a list, a tuple or neither -/
theorem AV.seq {K : W.Frag} {n : Nat} {d : D} (h : AV n d) : (∀ C, SqA K C d false) ∨ (∃ ds, (d = .lst ds ∨ d = .tup ds) ∧ ds.length ≤ 3 ∧ ∀ x ∈ ds, ∃ m, AV m x) ∨ d = .tup [.str "a", .tup [.str "a"]] := by
  cases h with
  | c h =>
    unfold anyC at h
    simp only [List.mem_cons, List.not_mem_nil, or_false] at h
    rcases h with rfl | rfl | rfl | rfl | rfl | rfl | rfl | rfl | rfl | rfl | rfl | rfl | rfl | rfl | rfl | rfl
    all_goals first
      | exact .inr (.inr rfl)
      | exact .inl fun C => sq_ty (.str _) (.inr ⟨by decide +kernel, by decide +kernel⟩)
      | exact .inl fun C => sq_ty .non (.inr ⟨by decide +kernel, by decide +kernel⟩)
      | exact .inl fun C => sq_ty (.bl _) (.inr ⟨by decide +kernel, by decide +kernel⟩)
      | exact .inl fun C => sq_ty (.int _) (.inr ⟨by decide +kernel, by decide +kernel⟩)
  | l h hl => exact .inr (.inl ⟨_, .inl rfl, hl, fun x hx => ⟨_, h x hx⟩⟩)
  | t h hl => exact .inr (.inl ⟨_, .inr rfl, hl, fun x hx => ⟨_, h x hx⟩⟩)
theorem AV.lay {n : Nat} {d : D} (h : AV n d) : plainD d = true ∧ (toPy d).canLay0 = true ∧ (toPy d).depth ≤ 3 + n := by
  induction h with
  | c h =>
    have all : ∀ d ∈ anyC, plainD d = true ∧ (toPy d).canLay0 = true ∧ (toPy d).depth ≤ 3 := by
      intro d h
      unfold anyC at h
      simp only [List.mem_cons, List.not_mem_nil, or_false] at h
      rcases h with rfl | rfl | rfl | rfl | rfl | rfl | rfl | rfl | rfl | rfl | rfl | rfl | rfl | rfl | rfl | rfl
      all_goals exact ⟨by decide +kernel, by decide +kernel, by decide +kernel⟩
    obtain ⟨a, b, c⟩ := all _ h
    exact ⟨a, b, by omega⟩
  | l h hl ih =>
    obtain ⟨a, b, c⟩ := lays ih
    exact ⟨a, b, by rw [toPy, PyData.depth]; omega⟩
  | t h hl ih =>
    obtain ⟨a, b, c⟩ := lays ih
    exact ⟨a, b, by rw [toPy, PyData.depth]; omega⟩
theorem p_any (T : Tp P K mg) : ∀ (k n : Nat) {p q : Addr} {s : St4} {Qx : QX} {Q : QE}, n < k → DkOk s → (∀ d s', AV n d → DkOk s' → Q d (dk p q s')) → fw__law_any T k [.raw (.ref p), .int (n : Int)] (dk p q s) Q Qx
  | 0, n, _, _, _, _, _, hk, _, _ => by omega
  | k + 1, n, p, q, s, Qx, Q, hk, hd, h => by
    show w__law_any T (fw__law_any T k) (.raw (.ref p)) (.int n) Qx Q (dk p q s)
    have leaf : ∀ {l : List D} {f : Int} {s : St4}, l = anyC → DkOk s → 0 ≤ f → f < 16 → pIx (.lst l) (.int f) (dk p q s) Q := by
      rintro l f s rfl hd h0 h1
      rw [show anyC = anyC.map id by rw [List.map_id]]
      exact s_ix_at h0 h1 fun d hm => h d s (.c hm) hd
    unfold w__law_any
    walk_at "g"
    refine ite2M (fun h1 => ?_) (fun h1 => ?_)
    · have hn : 0 < n := by have := of_decide_eq_true h1; omega
      walk_at "g"
      refine c_draw0 T hd (by decide) (by decide) fun f s1 _ _ hd1 => ?_
      walk_at "g"
      refine ite2M (fun h2 => ?_) (fun h2 => ?_)
      · walk_at "g"
        refine c_draw0 T hd1 (by decide) (by decide) fun c s2 hc0 hc1 hd2 => ?_
        walk_at "g"
        refine lcB_inv (fun i acc C1 => ∃ (s : St4), DkOk s ∧ acc.length = i ∧ i ≤ 3 ∧ (∀ x ∈ acc, AV (n - 1) x) ∧ C1 = dk p q s) ⟨s2, hd2, rfl, by decide, by simp, rfl⟩ ?_ ?_ (by rw [rangeD_len]; omega) ?_
        · rintro i d acc C1 kk hi ⟨s3, hd3, rfl, hl3, hx, rfl⟩ hkk
          have hlt : acc.length < 3 := by
            have := (List.getElem?_eq_some_iff.mp hi).1
            rw [rangeD_len] at this
            omega
          refine ⟨trivial, ?_⟩
          walk_at "g"
          rw [show (n : Int) - 1 = ((n - 1 : Nat) : Int) by omega]
          refine call_all (p_any T k (n - 1) (by omega) hd3 fun d s4 hv hd4 => hkk _ _ ⟨s4, hd4, by simp, by omega, fun x hx' => ?_, rfl⟩)
          rcases List.mem_append.mp hx' with h | h
          · exact hx x h
          · rw [List.mem_singleton.mp h]; exact hv
        rotate_left
        · rintro i acc C1 ⟨_, _, h, _⟩
          omega
        rintro acc C1 ⟨s5, hd5, hal, hl3, hx, rfl⟩
        refine ⟨trivial, ?_⟩
        walk_at "g"
        refine c_draw0 T hd5 (by decide) (by decide) fun f s6 _ _ hd6 => ?_
        walk_at "g"
        obtain ⟨j, rfl⟩ : ∃ j, n = j + 1 := ⟨n - 1, by omega⟩
        refine ite2M (fun h3 => ?_) (fun h3 => ?_)
        · walk_at "g"
          exact h _ _ (.l hx (by omega)) hd6
        · walk_at "g"
          exact h _ _ (.t hx (by omega)) hd6
      · walk_at "g"
        refine c_draw0 T hd1 (by decide) (by decide) fun f s2 hc0 hc1 hd2 => ?_
        exact leaf rfl hd2 hc0 hc1
    · walk_at "g"
      refine c_draw0 T hd (by decide) (by decide) fun f s2 hc0 hc1 hd2 => ?_
      exact leaf rfl hd2 hc0 hc1
theorem c_any (T : Tp P K mg) {k n : Nat} {p q : Addr} {s : St4} {Xq : QX} {Q : QE} {r : Cells} (hk : n < k) (hd : DkOk s) (h : ∀ d s', AV n d → DkOk s' → Q d (dk p q s' ++ r)) :
    callW (fw__law_any T k) Xq [.raw (.ref p), .int (n : Int)] (dk p q s ++ r) Q := ⟨dk p q s, r, List.Perm.refl _, p_any T k n hk hd h⟩
theorem c_any0 (T : Tp P K mg) {k n : Nat} {p q : Addr} {s : St4} {Xq : QX} {Q : QE} (hk : n < k) (hd : DkOk s) (h : ∀ d s', AV n d → DkOk s' → Q d (dk p q s')) :
    callW (fw__law_any T k) Xq [.raw (.ref p), .int (n : Int)] (dk p q s) Q := call_all (p_any T k n hk hd h)


/-! what any values show -/
theorem shows_of {k : Nat} : ∀ {ds : List D}, (∀ d ∈ ds, ShowOk (toPy d) ∧ (toPy d).weight ≤ k) → ShowsOk (toPys ds) ∧ PyData.weightAll (toPys ds) ≤ ds.length * (k + 1)
  | [], _ => ⟨.nil, Nat.zero_le _⟩
  | d :: ds, h => by
    obtain ⟨a, b⟩ := h d List.mem_cons_self
    obtain ⟨a2, b2⟩ := shows_of fun d hd => h d (List.mem_cons_of_mem _ hd)
    refine ⟨.cons a a2, ?_⟩
    rw [toPys, PyData.weightAll, List.length_cons, Nat.add_mul]
    omega
theorem AV.show {n : Nat} {d : D} (h : AV n d) : ShowOk (toPy d) ∧ (toPy d).weight ≤ 40 * 4 ^ n := by
  induction h with
  | c h =>
    rename_i m d
    have all : ∀ d ∈ anyC, ShowOk (toPy d) ∧ (toPy d).weight ≤ 40 := by
      intro d h
      unfold anyC at h
      simp only [List.mem_cons, List.not_mem_nil, or_false] at h
      rcases h with rfl | rfl | rfl | rfl | rfl | rfl | rfl | rfl | rfl | rfl | rfl | rfl | rfl | rfl | rfl | rfl
      all_goals exact ⟨⟨by decide +kernel, by decide +kernel, by decide +kernel, by decide +kernel⟩, by decide +kernel⟩
    obtain ⟨a, b⟩ := all _ h
    have : 1 ≤ 4 ^ m := Nat.one_le_pow _ _ (by decide)
    exact ⟨a, by omega⟩
  | l h hl ih =>
    rename_i m ds
    obtain ⟨a, b⟩ := shows_of ih
    have p1 : 1 ≤ 4 ^ m := Nat.one_le_pow _ _ (by decide)
    have p2 : ds.length * (40 * 4 ^ m + 1) ≤ 3 * (40 * 4 ^ m + 1) := Nat.mul_le_mul_right _ hl
    have p3 : 4 ^ (m + 1) = 4 * 4 ^ m := by rw [Nat.pow_succ]; omega
    exact ⟨.lst a, by rw [toPy, PyData.weight]; omega⟩
  | t h hl ih =>
    rename_i m ds
    obtain ⟨a, b⟩ := shows_of ih
    have p1 : 1 ≤ 4 ^ m := Nat.one_le_pow _ _ (by decide)
    have p2 : ds.length * (40 * 4 ^ m + 1) ≤ 3 * (40 * 4 ^ m + 1) := Nat.mul_le_mul_right _ hl
    have p3 : 4 ^ (m + 1) = 4 * 4 ^ m := by rw [Nat.pow_succ]; omega
    exact ⟨.tup a, by rw [toPy, PyData.weight]; omega⟩
/-- the repr of a thing and two truths -/
theorem any3_repr {d : D} {b1 b2 : Bool} {C : Cells} {Q : QE} (h0 : plainD d = true) (h1 : ShowOk (toPy d)) (h2 : (toPy d).depth ≤ 20) (h3 : (toPy d).weight ≤ 2600) (q : ∀ r, r = reprD (.tup [d, .bl b1, .bl b2]) → Q (.str r) C) : on1 pRepr1 [.tup [d, .bl b1, .bl b2]] C Q := by
  have bo : ∀ b : Bool, ShowOk (toPy (.bl b)) := fun b => by cases b <;> exact ⟨by decide +kernel, by decide +kernel, by decide +kernel, by decide +kernel⟩
  have bw : ∀ b : Bool, (toPy (.bl b)).weight ≤ 10 ∧ (toPy (.bl b)).depth ≤ 1 := fun b => by cases b <;> exact ⟨by decide +kernel, by decide +kernel⟩
  have w1 := bw b1
  have w2 := bw b2
  refine s_repr ?_ rfl (.tup (.cons h1 (.cons (bo b1) (.cons (bo b2) .nil)))) ?_ ?_ q
  · show plainDs [d, .bl b1, .bl b2] = true
    unfold plainDs
    rw [h0]; rfl
  · show (PyData.tuple (toPys [d, .bl b1, .bl b2])).depth ≤ 60
    simp only [toPys, PyData.depth, PyData.depthAll]
    omega
  · show (PyData.tuple (toPys [d, .bl b1, .bl b2])).weight ≤ 7000
    simp only [toPys, PyData.weight, PyData.weightAll]
    omega


/-- the repr of a word and a thing -/
theorem any2_repr {w : Str} {d : D} {C : Cells} {Q : QE} (hw : PyData.strOk w = true) (lw : w.length ≤ 20) (h0 : plainD d = true) (h1 : ShowOk (toPy d)) (h2 : (toPy d).depth ≤ 20) (h3 : (toPy d).weight ≤ 2600) (q : ∀ r, r = reprD (.tup [.str w, d]) → Q (.str r) C) : on1 pRepr1 [.tup [.str w, d]] C Q := by
  refine s_repr ?_ rfl (.tup (.cons (.str hw) (.cons h1 .nil))) ?_ ?_ q
  · show plainDs [.str w, d] = true
    unfold plainDs
    unfold plainDs
    rw [h0]; rfl
  · show (PyData.tuple (toPys [.str w, d])).depth ≤ 60
    simp only [toPys, toPy, PyData.depth, PyData.depthAll]
    omega
  · show (PyData.tuple (toPys [.str w, d])).weight ≤ 7000
    simp only [toPys, toPy, PyData.weight, PyData.weightAll]
    have : w.cps.size ≤ 20 := lw
    omega
theorem p_told_good (T : Tp P K mg) {ns : List Str} {kds : List Kd} {ls os : List Str} {k : Kd} {j : Nat} {v : Str} {o : Option Str} {C : Cells} {Q : QE} {Qx : QX} (g : BkOk ns kds) (hk : k ∈ kds) (hj : ns[j]? = some v) (ho : k.2[j]? = some o) (q : Q (.tup [.str "told", oD o]) C) : callW (fw__law_told T) Qx [bookD T.c_Book true ns kds ls os, .str k.1, .str v] C Q := by
  refine cl__law_told T ?_
  unfold w__law_told
  walk_at "g"
  refine p_target T g hk hj ho ?_
  walk_at "g"
  unfold w__law_told_j1
  walk_at "g"
  exact q
theorem p_told_k (T : Tp P K mg) {ns : List Str} {kds : List Kd} {ls os : List Str} {d v : D} {C : Cells} {Q : QE} {Qx : QX} (ha : AnyD K C d) (hk : ∀ s, d = .str s → s ∉ kds.map (·.1)) (q : Q (.tup [.str "none", d]) C) : callW (fw__law_told T) Qx [bookD T.c_Book true ns kds ls os, d, v] C Q := by
  refine cl__law_told T ?_
  unfold w__law_told
  walk_at "g"
  refine call_all (show w_Book_target T (bookD T.c_Book true ns kds ls os) d v _ _ C from ?_)
  unfold w_Book_target
  walk_at "g"
  refine p_need_bad T ha hk ⟨true, T.exm_NoKind_NoKind, ifT (part_id ?_)⟩
  walk_at "g"
  refine ⟨_, rfl, T.xc_NoKind, true, _, .ty _, T.isx_NoKind_KeyError, ?_⟩
  walk_at "g"
  refine ⟨_, rfl, T.xc_NoKind, false, _, .own _, T.isx_NoKind_HastyError, ?_⟩
  walk_at "g"
  refine ⟨_, _, _, _, rfl, rfl, T.xf_NoKind, T.na_NoKind_name, rfl, ?_⟩
  walk_at "g"
  unfold w__law_told_j1
  walk_at "g"
  exact q
theorem p_told_v (T : Tp P K mg) {ns : List Str} {kds : List Kd} {ls os : List Str} {k : Str} {d : D} {C : Cells} {Q : QE} {Qx : QX} (g : BkOk ns kds) (hk : k ∈ kds.map (·.1)) (ha : AnyD K C d) (hv : ∀ s, d = .str s → s ∉ ns) (q : Q (.tup [.str "none", d]) C) : callW (fw__law_told T) Qx [bookD T.c_Book true ns kds ls os, .str k, d] C Q := by
  refine cl__law_told T ?_
  unfold w__law_told
  walk_at "g"
  refine call_all (show w_Book_target T (bookD T.c_Book true ns kds ls os) (.str k) d _ _ C from ?_)
  unfold w_Book_target
  walk_at "g"
  refine p_need_kind T g hk ?_
  walk_at "g"
  refine p_is_name T ha ?_
  suffices fin : ∀ C' : Cells, C' = C → ∃ b, W.exmOne K (.ref T.c_NoKind) (.ref T.c_NoKind) = some b ∧ if b = true then mPart (mIf (tAnd (tVal (eIsX K (.ref T.c_NoKind) (eVal (.raw (.ty "KeyError"))))) (tNot (tVal (eIsX K (.ref T.c_NoKind) (eVal (.raw (.ref T.c_HastyError))))))) (mSet (eArgs (aCons (eVal (.str "none")) (aCons (eXf K "name" (.ref T.c_NoKind) (some (["name"], [d]))) aNil)) pTup) fun x_found2 => w__law_told_j1 T Qx Q x_found2) (w__law_told_j1 T Qx Q (.str "other"))) C' else Qx (.ref T.c_NoKind) (some (["name"], [d])) C' by
    by_cases hn : isNameD d = true
    · rw [hn]
      obtain ⟨s, rfl⟩ : ∃ s, d = .str s := by cases d <;> first | exact ⟨_, rfl⟩ | cases hn
      walk_at "g"
      rw [show decide (s ∈ ns) = false from decide_eq_false (hv s rfl)]
      walk_at "g"
      exact fin _ rfl
    · rw [show isNameD d = false by simpa using hn]
      walk_at "g"
      exact fin _ rfl
  rintro C' rfl
  refine ⟨true, T.exm_NoKind_NoKind, ifT (part_id ?_)⟩
  walk_at "g"
  refine ⟨_, rfl, T.xc_NoKind, true, _, .ty _, T.isx_NoKind_KeyError, ?_⟩
  walk_at "g"
  refine ⟨_, rfl, T.xc_NoKind, false, _, .own _, T.isx_NoKind_HastyError, ?_⟩
  walk_at "g"
  refine ⟨_, _, _, _, rfl, rfl, T.xf_NoKind, T.na_NoKind_name, rfl, ?_⟩
  walk_at "g"
  unfold w__law_told_j1
  walk_at "g"
  exact q
theorem none_ok : PyData.strOk ("none" : Str) = true ∧ PyData.strOk ("told" : Str) = true ∧ PyData.strOk ("zq" : Str) = true := by decide +kernel
theorem oD_show {o : Option Str} (h : ∀ s, o = some s → PyData.strOk s = true ∧ s.length ≤ 2000) : plainD (oD o) = true ∧ ShowOk (toPy (oD o)) ∧ (toPy (oD o)).depth ≤ 20 ∧ (toPy (oD o)).weight ≤ 2600 := by
  cases o with
  | none => exact ⟨rfl, ⟨by decide +kernel, by decide +kernel, by decide +kernel, by decide +kernel⟩, by decide +kernel, by decide +kernel⟩
  | some s =>
    obtain ⟨a, b⟩ := h s rfl
    refine ⟨rfl, .str a, by show (PyData.str s).depth ≤ 20; simp [PyData.depth], ?_⟩
    show (PyData.str s).weight ≤ 2600
    rw [PyData.weight]
    have : s.cps.size ≤ 2000 := b
    omega
theorem p_law_l8 (T : Tp P K mg) {ns : List Str} {kds : List Kd} {ls os : List Str} {k : Kd} {j : Nat} {v : Str} {C : Cells} {Qx : QX} {Q : QE} {nx bk : Unit → MB} (g : BkOk ns kds) (hk : k ∈ kds) (hj : ns[j]? = some v) (hn : nx () C) :
    w_law_l8 T (bookD T.c_Book true ns kds ls os) (.str k.1) (.lst (k.2.map oD)) Qx Q (.tup [.int (j : Nat), .str v]) () nx bk C := by
  have tn := g.tn k hk
  obtain ⟨h1, e1⟩ := List.getElem?_eq_some_iff.mp hj
  have h2 : j < k.2.length := by omega
  obtain ⟨o, ho⟩ : ∃ o, k.2[j]? = some o := ⟨_, List.getElem?_eq_getElem h2⟩
  have os' := oD_show (o := o) fun s hs => by
    have hm := g.tm k hk o (List.mem_of_getElem? ho) s hs
    have := g.len.nl s hm
    exact ⟨g.so s hm, by omega⟩
  have re : ∀ {Q : QE} {C : Cells}, (∀ r, r = reprD (.tup [.str "told", oD o]) → Q (.str r) C) → on1 pRepr1 [.tup [.str "told", oD o]] C Q := fun q => any2_repr none_ok.2.1 (by decide) os'.1 os'.2.1 os'.2.2.1 os'.2.2.2 q
  unfold w_law_l8
  walk_at "g"
  refine p_told_good T g hk hj ho ?_
  walk_at "g"
  refine re fun r1 e1 => ?_
  walk_at "g"
  refine s_ix_lst (atI_map oD (x := o) ?_) ?_
  · unfold atI ixN
    rw [if_pos (by omega), if_pos (by omega)]
    show k.2[((j : Nat) : Int).toNat]? = some o
    rw [Int.toNat_natCast, ho]
  walk_at "g"
  refine re fun r2 e2 => ?_
  refine s_ne_str ?_
  rw [show decide (r1 = r2) = true from decide_eq_true (by rw [e1, e2])]
  walk_at "g"
  exact part_id hn
theorem p_law_l3 (T : Tp P K mg) {ns : List Str} {kds : List Kd} {ls os : List Str} {k : Kd} {C : Cells} {Qx : QX} {Q : QE} {nx bk : Unit → MB} (g : BkOk ns kds) (hk : k ∈ kds) (hn : nx () C) :
    w_law_l3 T (.lst (ns.map D.str)) (bookD T.c_Book true ns kds ls os) Qx Q (kdD k) () nx bk C := by
  unfold w_law_l3 kdD
  walk_at "g"
  refine loop_inv (fun i _ C' => C' = C) rfl ?_ ?_
  · rintro i d u C' nx1 hi rfl hx
    obtain ⟨y, h1, rfl⟩ := enumD_get hi
    rw [List.getElem?_map] at h1
    obtain ⟨v, hv, rfl⟩ := Option.map_eq_some_iff.mp h1
    exact ⟨trivial, p_law_l8 T g hk (by rw [Nat.zero_add]; exact hv) (hx _ _ rfl)⟩
  · rintro u C' rfl
    refine ⟨trivial, ?_⟩
    unfold w_law_a9
    exact part_id hn
theorem tru_n {b : Bool} {C : Cells} {R : QT} (h : R (!b) C) : pTru (.bl (!b)) C R := h
theorem strOr {d : D} : (∃ z, d = .str z) ∨ isStr d = false := by cases d <;> first | exact .inl ⟨_, rfl⟩ | exact .inr rfl
theorem p_law_j7 (T : Tp P K mg) {ns : List Str} {kds : List Kd} {ls os : List Str} {d : D} {C : Cells} {Qx : QX} {Q : QE} {nx : Unit → MB} {u : Unit} (g : BkOk ns kds) (hv : AV 2 d) (hn : nx () C) :
    w_law_j7 T (.lst (ns.map D.str)) (bookD T.c_Book true ns kds ls os) (.lst (kds.map fun k => .str k.1)) d nx Qx Q u C := by
  have hl := hv.lay
  have hs := hv.show
  have re : ∀ {Q : QE} {C : Cells}, (∀ r, r = reprD (.tup [.str "none", d]) → Q (.str r) C) → on1 pRepr1 [.tup [.str "none", d]] C Q := fun q => any2_repr none_ok.1 (by decide) hl.1 hs.1 (by have := hl.2.2; omega) (by have := hs.2; omega) q
  unfold w_law_j7
  walk_at "g"
  refine s_neD (.inl rfl) (eqd_nil fun x hx => ?_) ?_
  · obtain ⟨k, hk, rfl⟩ := List.mem_map.mp hx
    exact ⟨rfl, (ShowOk.str (g.ko k hk)).lay, by show (PyData.str k.1).depth ≤ 30; simp [PyData.depth]⟩
  cases kds with
  | nil =>
    walk_at "g"
    exact part_id hn
  | cons k0 kr =>
    have k0m : k0.1 ∈ (k0 :: kr).map (·.1) := by simp
    simp only [List.map_cons, List.isEmpty_cons]
    walk_at "g"
    refine s_isStr hv.any ?_
    have fin : (∀ z, d = .str z → z ∉ ns) → mIf (tBin (eArgs (aCons (eArgs (aCons (eVal (bookD T.c_Book true ns (k0 :: kr) ls os)) (aCons (eBin (eVal (.lst (D.str k0.1 :: kr.map fun k => D.str k.1))) (eVal (.int 0)) pIx) (aCons (eVal d) aNil))) fun ds => callW (fw__law_told T) Qx (ds ++ [])) aNil) (on1 pRepr1)) (eArgs (aCons (eArgs (aCons (eVal (.str "none")) (aCons (eVal d) aNil)) pTup) aNil) (on1 pRepr1)) (oNe (ownB K T.c_Book (fw_Book_eq T) true))) (mRet (eVal (.bl false)) Q) (mPart (nx ())) C := fun hk => by
      walk_at "g"
      refine s_ix_lst (d := .str k0.1) ?_ ?_
      · unfold atI ixN
        rw [if_pos (by decide), if_pos (by simp only [List.length_cons]; omega)]
        rfl
      walk_at "g"
      refine p_told_v T g k0m hv.any hk ?_
      walk_at "g"
      refine re fun r1 e1 => ?_
      walk_at "g"
      refine re fun r2 e2 => ?_
      refine s_ne_str ?_
      rw [show decide (r1 = r2) = true from decide_eq_true (by rw [e1, e2])]
      walk_at "g"
      exact part_id hn
    rcases strOr (d := d) with ⟨z, rfl⟩ | hst
    · rw [show isStr (.str z) = true from rfl]
      walk_at "g"
      by_cases hz : z ∈ ns
      · rw [show decide (z ∈ ns) = true from decide_eq_true hz]
        walk_at "g"
        exact part_id hn
      · rw [show decide (z ∈ ns) = false from decide_eq_false hz]
        exact fin fun z' e => by cases e; exact hz
    · rw [hst]
      exact fin fun z' e => by rw [e] at hst; cases hst
theorem p_law_l5 (T : Tp P K mg) {p q : Addr} {s : St4} {ns : List Str} {kds : List Kd} {ls os : List Str} {dd : D} {Qx : QX} {Q : QE} {nx bk : Unit → MB} (g : BkOk ns kds) (hd : DkOk s) (hn : ∀ s, DkOk s → nx () (dk p q s)) :
    w_law_l5 T (.raw (.ref p)) (.lst (ns.map D.str)) (bookD T.c_Book true ns kds ls os) (.lst (kds.map fun k => .str k.1)) Qx Q dd () nx bk (dk p q s) := by
  unfold w_law_l5
  walk_at "g"
  refine c_any0 T (n := 2) (by decide) hd fun d s1 hv hd1 => ?_
  walk_at "g"
  refine c_any0 T (n := 2) (by decide) hd1 fun d2 s2 hv2 hd2 => ?_
  have hl := hv.lay
  have hs := hv.show
  have re : ∀ {Q : QE} {C : Cells}, (∀ r, r = reprD (.tup [.str "none", d]) → Q (.str r) C) → on1 pRepr1 [.tup [.str "none", d]] C Q := fun q => any2_repr none_ok.1 (by decide) hl.1 hs.1 (by have := hl.2.2; omega) (by have := hs.2; omega) q
  have nxt : w_law_j7 T (.lst (ns.map D.str)) (bookD T.c_Book true ns kds ls os) (.lst (kds.map fun k => .str k.1)) d2 nx Qx Q () (dk p q s2) := p_law_j7 T g hv2 (hn _ hd2)
  have fin : (∀ z, d = .str z → z ∉ kds.map (·.1)) → mIf (tBin (eArgs (aCons (eArgs (aCons (eVal (bookD T.c_Book true ns kds ls os)) (aCons (eVal d) (aCons (eVal d2) aNil))) fun ds => callW (fw__law_told T) Qx (ds ++ [])) aNil) (on1 pRepr1)) (eArgs (aCons (eArgs (aCons (eVal (.str "none")) (aCons (eVal d) aNil)) pTup) aNil) (on1 pRepr1)) (oNe (ownB K T.c_Book (fw_Book_eq T) true))) (mRet (eVal (.bl false)) Q) (w_law_j7 T (.lst (ns.map D.str)) (bookD T.c_Book true ns kds ls os) (.lst (kds.map fun k => .str k.1)) d2 nx Qx Q ()) (dk p q s2) := fun hk => by
    walk_at "g"
    refine p_told_k T hv.any hk ?_
    walk_at "g"
    refine re fun r1 e1 => ?_
    walk_at "g"
    refine re fun r2 e2 => ?_
    refine s_ne_str ?_
    rw [show decide (r1 = r2) = true from decide_eq_true (by rw [e1, e2])]
    walk_at "g"
    exact nxt
  walk_at "g"
  refine s_isStr hv.any ?_
  rcases strOr (d := d) with ⟨z, rfl⟩ | hst
  · rw [show isStr (.str z) = true from rfl]
    walk_at "g"
    refine s_notInS (xs := kds.map (·.1)) (by rw [List.map_map]; exact .l) ?_
    by_cases hz : z ∈ kds.map (·.1)
    · rw [show decide (z ∈ kds.map (·.1)) = true from decide_eq_true hz]
      walk_at "g"
      exact nxt
    · rw [show decide (z ∈ kds.map (·.1)) = false from decide_eq_false hz]
      exact fin fun z' e => by cases e; exact hz
  · rw [hst]
    exact fin fun z' e => by rw [e] at hst; cases hst
theorem p_law_a6 (T : Tp P K mg) {ns : List Str} {kds : List Kd} {ls os : List Str} {C : Cells} {Qx : QX} {Q : QE} {nx : Unit → MB} {u : Unit} (g : BkOk ns kds) (nz : ("zq" : Str) ∉ kds.map (·.1)) (hn : nx () C) :
    w_law_a6 T (bookD T.c_Book true ns kds ls os) (.lst (kds.map fun k => .str k.1)) nx Qx Q u C := by
  unfold w_law_a6
  walk_at "g"
  refine s_neD (.inl rfl) (eqd_nil fun x hx => ?_) ?_
  · obtain ⟨k, hk, rfl⟩ := List.mem_map.mp hx
    exact ⟨rfl, (ShowOk.str (g.ko k hk)).lay, by show (PyData.str k.1).depth ≤ 30; simp [PyData.depth]⟩
  have re : ∀ {Q : QE} {C : Cells}, (∀ r, r = reprD (.tup [.str "none", .str "zq"]) → Q (.str r) C) → on1 pRepr1 [.tup [.str "none", .str "zq"]] C Q := fun q => any2_repr none_ok.1 (by decide) rfl (.str none_ok.2.2) (by decide +kernel) (by decide +kernel) q
  cases kds with
  | nil =>
    walk_at "g"
    exact part_id hn
  | cons k0 kr =>
    simp only [List.map_cons, List.isEmpty_cons]
    walk_at "g"
    refine p_told_k T (any_str (by decide)) (fun z e => by cases e; exact nz) ?_
    walk_at "g"
    refine re fun r1 e1 => ?_
    walk_at "g"
    refine re fun r2 e2 => ?_
    refine s_ne_str ?_
    rw [show decide (r1 = r2) = true from decide_eq_true (by rw [e1, e2])]
    walk_at "g"
    exact part_id hn
theorem p_law_l1 (T : Tp P K mg) {p q : Addr} {s : St4} {d : D} {Qx : QX} {Q : QE} {nx bk : Unit → MB} (hd : DkOk s) (hn : ∀ s, DkOk s → nx () (dk p q s)) : w_law_l1 T (.raw (.ref p)) Qx Q d () nx bk (dk p q s) := by
  unfold w_law_l1
  walk_at "g"
  have pm0 : (dk p q s).Perm (dk p q s ++ []) := by rw [List.append_nil]
  refine c_lbook T pm0 hd (by decide) (by decide) fun ns kds ls os s1 hb hd1 => ?_
  rw [List.append_nil]
  have g := hb.good (by decide)
  have gl := hb.goodL (by decide)
  obtain ⟨_, _, ml⟩ := hb.l
  obtain ⟨_, _, mo⟩ := hb.o
  obtain ⟨kj, kj0, kj1, hkk⟩ := hb.k
  have nz : ("zq" : Str) ∉ kds.map (·.1) := fun h => absurd (hkk.mem _ h) (by decide +kernel)
  unfold formD
  walk_at "g"
  refine mk_BookL T (b := true) g gl.1 gl.2 ml mo (.inl ⟨.l, fun _ => .l⟩) .l .l .l ?_
  walk_at "g"
  refine lcB_map (l := kds) kdD (fun k => D.str k.1) trivial (fun k hk kk h => ?_) (by have := g.len.k; omega) ?_
  · unfold kdD
    walk_at "g"
    exact h
  walk_at "g"
  refine loop_inv (fun i _ C => C = dk p q s1) rfl ?_ ?_
  · rintro i d u C nx1 hi rfl hx
    rw [List.getElem?_map] at hi
    obtain ⟨k, hk2, rfl⟩ := Option.map_eq_some_iff.mp hi
    exact ⟨trivial, p_law_l3 T g (List.mem_of_getElem? hk2) (hx _ _ rfl)⟩
  · rintro u C rfl
    refine ⟨trivial, ?_⟩
    unfold w_law_a4
    walk_at "g"
    refine loop_inv (fun i _ C => ∃ s, DkOk s ∧ C = dk p q s) ⟨s1, hd1, rfl⟩ ?_ ?_
    · rintro i d u C nx1 hi ⟨s, hd, rfl⟩ hx
      exact ⟨trivial, p_law_l5 T g hd fun s hs => hx _ _ ⟨s, hs, rfl⟩⟩
    · rintro u C ⟨s, hd, rfl⟩
      exact ⟨trivial, p_law_a6 T g nz (hn _ hd)⟩
theorem p_law (T : Tp P K mg) {ns : List Int} {Qx : QX} {Q : QE} (hl : ns.length ≤ 63) (hq : ∀ C', Q (.bl true) C') : w_law T (.lst (ns.map .int)) Qx Q [] := by
  unfold w_law
  walk_at "g"
  refine c_dealS T hl (by decide) (by decide) fun p q s hd => ?_
  rw [List.append_nil]
  walk_at "g"
  refine loop_inv (fun _ _ C => ∃ s, DkOk s ∧ C = dk p q s) ⟨s, hd, rfl⟩ ?_ ?_
  · rintro i d u C nx hi ⟨s, hd, rfl⟩ hn
    exact ⟨trivial, p_law_l1 T hd fun s hs => hn _ _ ⟨s, hs, rfl⟩⟩
  · rintro u C ⟨s, hd, rfl⟩
    refine ⟨trivial, ?_⟩
    unfold w_law_a2
    walk_at "g"
    exact hq _
theorem law_ok (T : Tp P K mg) : FnG P w K mg base 14 T.f_law T.d_law ["_law_script"] lawFS :=
  ((ok_law T).imp (F' := lawFS) fun ds C Q Qx ⟨ns, e, hl, hC, hq⟩ => by subst e; subst hC; exact p_law T hl hq).mono (by decide)


end
set_option hygiene true
end Kk

open PySem PySem.W PyProof.Rows
set_option maxRecDepth 100000 in
set_option maxHeartbeats 0 in
theorem PySem.Challenge.cw_hastypage_k04_targets_told_holds : PySem.Challenge.rw_hastypage_k04_targets_told.Holds := by
  w_on; o_law; k_head; (case hw => w_witness2)
  k_fill
  refine Tr.law_walk (l := PySem.Challenge.rw_hastypage_k04_targets_told) (k := 14) (x := "_law_script") rfl rfl ⟨⟨rfl, by decide, by decide⟩, rfl⟩ (fun w h Y => PySem.W.kIn_of Y) ?F
  case F =>
    intro w mg fa h KX G hmg
    obtain ⟨T, eT⟩ : ∃ T : Kk.Tp PySem.Challenge.pw_hastypage_k04_targets_told _ mg, T.f_law = fa := by
      refine' Kk.tp_fa hmg (Kk.tp_mk KX G ?cnn ?ctt ?a_Book ?pg_Book ?hd_Book ?po_Book ?sa_Book ?ca_Book ?cm_Book ?na_Book_choices ?na_Book_kinds ?na_Book_targets ?na_Book_loose ?na_Book_others ?ss_Book_list ?ss_Book_tuple ?ss_Book_str ?ss_Book_int ?ss_Book_bool ?ss_Book_NoneType ?sk_Book_list ?sk_Book_tuple ?sk_Book_str ?sk_Book_int ?sk_Book_bool ?cl_Book ?ty_Book ?nf_Book_Book ?nf_Book_list ?nf_Book_tuple ?nf_Book_str ?nf_Book_int ?nf_Book_bool ?nf_Book_NoneType ?ne_Book ?a__wall ?l__wall ?cc__wall ?k__wall ?a_is_name ?l_is_name ?cc_is_name ?k_is_name ?a_is_sequence ?l_is_sequence ?cc_is_sequence ?k_is_sequence ?a_are_names ?l_are_names ?cc_are_names ?k_are_names ?a_is_targets ?l_is_targets ?cc_is_targets ?k_is_targets ?a_are_kinds ?l_are_kinds ?cc_are_kinds ?k_are_kinds ?a_are_some ?l_are_some ?cc_are_some ?k_are_some ?a_is_book_line ?l_is_book_line ?cc_is_book_line ?k_is_book_line ?a_may_follow ?l_may_follow ?cc_may_follow ?k_may_follow ?a__law_deal ?l__law_deal ?cc__law_deal ?k__law_deal ?a__law_draw ?l__law_draw ?cc__law_draw ?k__law_draw ?a__law_mixed ?l__law_mixed ?cc__law_mixed ?k__law_mixed ?a__law_words ?l__law_words ?cc__law_words ?k__law_words ?a__law_book ?l__law_book ?cc__law_book ?k__law_book ?a__law_any ?l__law_any ?cc__law_any ?k__law_any ?a__law_told ?l__law_told ?cc__law_told ?k__law_told ?a_law ?l_law ?cc_law ?k_law ?a_Book_init ?n_Book_init ?mm_Book ?kc_Book ?l_Book_init ?lT_Book_init ?cc_Book_init ?k_Book_init ?cr_Book_read ?cg_Book_read ?ca_Book_read ?rc_Book_read ?fi_Book_read ?l_Book_read ?cc_Book_read ?k_Book_read ?a_Book_need_kind ?n_Book_need_kind ?l_Book_need_kind ?cc_Book_need_kind ?k_Book_need_kind ?a_Book_target ?n_Book_target ?l_Book_target ?cc_Book_target ?k_Book_target ?a_Book_without ?n_Book_without ?l_Book_without ?cc_Book_without ?k_Book_without ?a_Book_eq ?n_Book_eq ?l_Book_eq ?cc_Book_eq ?k_Book_eq ?a_Book_str ?n_Book_str ?l_Book_str ?cc_Book_str ?k_Book_str ?a_HastyError ?cl_HastyError ?ty_HastyError ?zt_super ?zz_super ?zz_any ?a_InvalidBook ?lc_InvalidBook ?rv_InvalidBook ?sa_InvalidBook ?ex_InvalidBook ?ty_InvalidBook ?kc_InvalidBook ?ga_InvalidBook ?gg_InvalidBook ?hd_InvalidBook ?ca_InvalidBook ?cm_InvalidBook ?na_InvalidBook_word ?ai_InvalidBook ?ti_InvalidBook ?lf_InvalidBook ?ld_InvalidBook ?hv_InvalidBook ?hf_InvalidBook ?ci_InvalidBook ?lk_InvalidBook ?si_InvalidBook ?sv_InvalidBook ?a_InvalidText ?lc_InvalidText ?rv_InvalidText ?sa_InvalidText ?ex_InvalidText ?ty_InvalidText ?kc_InvalidText ?ga_InvalidText ?gg_InvalidText ?hd_InvalidText ?ca_InvalidText ?cm_InvalidText ?na_InvalidText_at ?ai_InvalidText ?ti_InvalidText ?lf_InvalidText ?ld_InvalidText ?hv_InvalidText ?hf_InvalidText ?ci_InvalidText ?lk_InvalidText ?si_InvalidText ?sv_InvalidText ?a_NoKind ?lc_NoKind ?rv_NoKind ?sa_NoKind ?ex_NoKind ?ty_NoKind ?kc_NoKind ?ga_NoKind ?gg_NoKind ?hd_NoKind ?ca_NoKind ?cm_NoKind ?su_NoKind_KeyError ?na_NoKind_name ?ai_NoKind ?ti_NoKind ?lf_NoKind ?ld_NoKind ?hv_NoKind ?hf_NoKind ?ci_NoKind ?lk_NoKind ?si_NoKind ?sv_NoKind ?su_NoKind_NoKind ?su_NoKind_HastyError ?nq_NoKind_HastyError ?z_abs ?z_all ?z_enumerate ?z_int ?z_isinstance ?z_len ?z_list ?z_range ?z_repr ?z_str ?z_tuple ?z_KeyError ?a_nSMALL ?a_nBARRED ?l_BARRED ?le_Book_init_0 ?le_Book_init_1)
      (case cnn => k_is)
      (case ctt => k_is)
      (case a_Book => k_is)
      (case pg_Book => k_is)
      (case hd_Book => k_is)
      (case po_Book => k_is)
      (case sa_Book => k_is)
      (case ca_Book => k_is)
      (case cm_Book => k_is)
      (case na_Book_choices => k_is)
      (case na_Book_kinds => k_is)
      (case na_Book_targets => k_is)
      (case na_Book_loose => k_is)
      (case na_Book_others => k_is)
      (case ss_Book_list => k_is)
      (case ss_Book_tuple => k_is)
      (case ss_Book_str => k_is)
      (case ss_Book_int => k_is)
      (case ss_Book_bool => k_is)
      (case ss_Book_NoneType => k_is)
      (case sk_Book_list => k_is)
      (case sk_Book_tuple => k_is)
      (case sk_Book_str => k_is)
      (case sk_Book_int => k_is)
      (case sk_Book_bool => k_is)
      (case cl_Book => k_is)
      (case ty_Book => k_is)
      (case nf_Book_Book => k_is)
      (case nf_Book_list => k_is)
      (case nf_Book_tuple => k_is)
      (case nf_Book_str => k_is)
      (case nf_Book_int => k_is)
      (case nf_Book_bool => k_is)
      (case nf_Book_NoneType => k_is)
      (case ne_Book => k_is)
      (case a__wall => k_is)
      (case l__wall => k_is)
      (case cc__wall => k_is)
      (case k__wall => k_is)
      (case a_is_name => k_is)
      (case l_is_name => k_is)
      (case cc_is_name => k_is)
      (case k_is_name => k_is)
      (case a_is_sequence => k_is)
      (case l_is_sequence => k_is)
      (case cc_is_sequence => k_is)
      (case k_is_sequence => k_is)
      (case a_are_names => k_is)
      (case l_are_names => k_is)
      (case cc_are_names => k_is)
      (case k_are_names => k_is)
      (case a_is_targets => k_is)
      (case l_is_targets => k_is)
      (case cc_is_targets => k_is)
      (case k_is_targets => k_is)
      (case a_are_kinds => k_is)
      (case l_are_kinds => k_is)
      (case cc_are_kinds => k_is)
      (case k_are_kinds => k_is)
      (case a_are_some => k_is)
      (case l_are_some => k_is)
      (case cc_are_some => k_is)
      (case k_are_some => k_is)
      (case a_is_book_line => k_is)
      (case l_is_book_line => k_is)
      (case cc_is_book_line => k_is)
      (case k_is_book_line => k_is)
      (case a_may_follow => k_is)
      (case l_may_follow => k_is)
      (case cc_may_follow => k_is)
      (case k_may_follow => k_is)
      (case a__law_deal => k_is)
      (case l__law_deal => k_is)
      (case cc__law_deal => k_is)
      (case k__law_deal => k_is)
      (case a__law_draw => k_is)
      (case l__law_draw => k_is)
      (case cc__law_draw => k_is)
      (case k__law_draw => k_is)
      (case a__law_mixed => k_is)
      (case l__law_mixed => k_is)
      (case cc__law_mixed => k_is)
      (case k__law_mixed => k_is)
      (case a__law_words => k_is)
      (case l__law_words => k_is)
      (case cc__law_words => k_is)
      (case k__law_words => k_is)
      (case a__law_book => k_is)
      (case l__law_book => k_is)
      (case cc__law_book => k_is)
      (case k__law_book => k_is)
      (case a__law_any => k_is)
      (case l__law_any => k_is)
      (case cc__law_any => k_is)
      (case k__law_any => k_is)
      (case a__law_told => k_is)
      (case l__law_told => k_is)
      (case cc__law_told => k_is)
      (case k__law_told => k_is)
      (case a_law => k_is)
      (case l_law => k_is)
      (case cc_law => k_is)
      (case k_law => k_is)
      (case a_Book_init => k_is)
      (case n_Book_init => k_is)
      (case mm_Book => k_is)
      (case kc_Book => k_is)
      (case l_Book_init => k_is)
      (case lT_Book_init => k_is)
      (case cc_Book_init => k_is)
      (case k_Book_init => k_is)
      (case cr_Book_read => k_is)
      (case cg_Book_read => k_is)
      (case ca_Book_read => k_is)
      (case rc_Book_read => k_is)
      (case fi_Book_read => k_is)
      (case l_Book_read => k_is)
      (case cc_Book_read => k_is)
      (case k_Book_read => k_is)
      (case a_Book_need_kind => k_is)
      (case n_Book_need_kind => k_is)
      (case l_Book_need_kind => k_is)
      (case cc_Book_need_kind => k_is)
      (case k_Book_need_kind => k_is)
      (case a_Book_target => k_is)
      (case n_Book_target => k_is)
      (case l_Book_target => k_is)
      (case cc_Book_target => k_is)
      (case k_Book_target => k_is)
      (case a_Book_without => k_is)
      (case n_Book_without => k_is)
      (case l_Book_without => k_is)
      (case cc_Book_without => k_is)
      (case k_Book_without => k_is)
      (case a_Book_eq => k_is)
      (case n_Book_eq => k_is)
      (case l_Book_eq => k_is)
      (case cc_Book_eq => k_is)
      (case k_Book_eq => k_is)
      (case a_Book_str => k_is)
      (case n_Book_str => k_is)
      (case l_Book_str => k_is)
      (case cc_Book_str => k_is)
      (case k_Book_str => k_is)
      (case a_HastyError => k_is)
      (case cl_HastyError => k_is)
      (case ty_HastyError => k_is)
      (case zt_super => first | rfl | decide +kernel | k_is)
      (case zz_super => k_is)
      (case zz_any => k_is)
      (case a_InvalidBook => k_is)
      (case lc_InvalidBook => k_is)
      (case rv_InvalidBook => first | rfl | decide +kernel | k_is)
      (case sa_InvalidBook => k_is)
      (case ex_InvalidBook => k_is)
      (case ty_InvalidBook => k_is)
      (case kc_InvalidBook => k_is)
      (case ga_InvalidBook => k_is)
      (case gg_InvalidBook => k_is)
      (case hd_InvalidBook => k_is)
      (case ca_InvalidBook => k_is)
      (case cm_InvalidBook => k_is)
      (case na_InvalidBook_word => k_is)
      (case ai_InvalidBook => k_is)
      (case ti_InvalidBook => k_is)
      (case lf_InvalidBook => k_is)
      (case ld_InvalidBook => k_is)
      (case hv_InvalidBook => first | rfl | decide +kernel | k_is)
      (case hf_InvalidBook => first | rfl | decide +kernel | k_is)
      (case ci_InvalidBook => k_is)
      (case lk_InvalidBook => k_is)
      (case si_InvalidBook => ks_is)
      (case sv_InvalidBook => k_is)
      (case a_InvalidText => k_is)
      (case lc_InvalidText => k_is)
      (case rv_InvalidText => first | rfl | decide +kernel | k_is)
      (case sa_InvalidText => k_is)
      (case ex_InvalidText => k_is)
      (case ty_InvalidText => k_is)
      (case kc_InvalidText => k_is)
      (case ga_InvalidText => k_is)
      (case gg_InvalidText => k_is)
      (case hd_InvalidText => k_is)
      (case ca_InvalidText => k_is)
      (case cm_InvalidText => k_is)
      (case na_InvalidText_at => k_is)
      (case ai_InvalidText => k_is)
      (case ti_InvalidText => k_is)
      (case lf_InvalidText => k_is)
      (case ld_InvalidText => k_is)
      (case hv_InvalidText => first | rfl | decide +kernel | k_is)
      (case hf_InvalidText => first | rfl | decide +kernel | k_is)
      (case ci_InvalidText => k_is)
      (case lk_InvalidText => k_is)
      (case si_InvalidText => ks_is)
      (case sv_InvalidText => k_is)
      (case a_NoKind => k_is)
      (case lc_NoKind => k_is)
      (case rv_NoKind => first | rfl | decide +kernel | k_is)
      (case sa_NoKind => k_is)
      (case ex_NoKind => k_is)
      (case ty_NoKind => k_is)
      (case kc_NoKind => k_is)
      (case ga_NoKind => k_is)
      (case gg_NoKind => k_is)
      (case hd_NoKind => k_is)
      (case ca_NoKind => k_is)
      (case cm_NoKind => k_is)
      (case su_NoKind_KeyError => k_is)
      (case na_NoKind_name => k_is)
      (case ai_NoKind => k_is)
      (case ti_NoKind => k_is)
      (case lf_NoKind => k_is)
      (case ld_NoKind => k_is)
      (case hv_NoKind => first | rfl | decide +kernel | k_is)
      (case hf_NoKind => first | rfl | decide +kernel | k_is)
      (case ci_NoKind => k_is)
      (case lk_NoKind => k_is)
      (case si_NoKind => ks_is)
      (case sv_NoKind => k_is)
      (case su_NoKind_NoKind => k_is)
      (case su_NoKind_HastyError => k_is)
      (case nq_NoKind_HastyError => first | rfl | decide +kernel | k_is)
      (case z_abs => k_is)
      (case z_all => k_is)
      (case z_enumerate => k_is)
      (case z_int => k_is)
      (case z_isinstance => k_is)
      (case z_len => k_is)
      (case z_list => k_is)
      (case z_range => k_is)
      (case z_repr => k_is)
      (case z_str => k_is)
      (case z_tuple => k_is)
      (case z_KeyError => k_is)
      (case a_nSMALL => k_is)
      (case a_nBARRED => k_is)
      (case l_BARRED => k_is)
      (case le_Book_init_0 => k_is)
      (case le_Book_init_1 => k_is)
    subst eT
    exact ⟨T.d_law, Kk.law_binds T, fun base _ _ => Kk.law_ok T⟩
