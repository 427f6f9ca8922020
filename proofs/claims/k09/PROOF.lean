import PyProof.Rows.All
import Wide.All
import OpenK.AllK
import Wide.FinOn
import HandS.ForMost
import HandS.Exc
import HandS.TryOnly
import HandS.ExcOwn
import HandS.WordsExc
import HandS.Defaults
import HandS.CallSlots
import HandS.Style
import HandS.TupAny
import HandS.IsInst
import HandS.FStr
import HandS.RaiseMore
import HandS.Ends
import HandS.Codes
import HandS.Iter
import HandS.Walk
import KE.GoesMore
import PyProof.EnumMake
import HandS.Conv
import KE.KSuper
import KE.KExcSuper
import HandS.ExcInit
import HandS.ExcField
import HandS.ExcIs
import KE.KExcIs
import HandS.ClsMeth
import HandS.Text
import HandS.Dict
import HandS.DictComp
import KE.KStar
import HandS.Flow
import HandS.Strs
import PyProof.FactsAll.tuple_0
import PyProof.FactsAll.tuple_2
import HandS.OwnEq
import KE.KOpsOwn
import PyProof.RulesMatch
import PyProof.DictUpdate
import PyProof.NeKinds
import HandS.Property
import HandS.SortInts
import KE.KDictZip
import HandS.Head2
import HandS.HeadHook2
import PySem.Challenge.RW_hastypage_k09_whole_other_names
set_option Elab.async false
set_option linter.all false
set_option maxRecDepth 100000
set_option maxHeartbeats 2000000
namespace Tr
open PySem L2

inductive D where
  | non
  | bl (b : Bool)
  | int (i : Int)
  | str (s : Str)
  | lst (ds : List D)
  | tup (ds : List D)
  | dic (ks : List Key) (ds : List D)
  | ins (C : Addr) (ns : List Str) (ds : List D)
  | raw (v : V)
  | tpn (ds : List D)

def NdT (H : Hp) (a : Addr) (vs : List V) : Prop := ∃ o, H a = some (.frz o (.tup vs)) ∧ o.dict = none

mutual
/-- the value v is the datum d -/
def Rep (K : W.Frag) (H : Hp) : D → V → Prop
  | .non, v => v = .non
  | .bl b, v => v = .bl b
  | .int i, v => v = .int i
  | .str s, v => v = .str s
  | .lst ds, v => ∃ a vs, v = .ref a ∧ SqL K H a vs ∧ Reps K H ds vs
  | .tup ds, v => ∃ a vs, v = .ref a ∧ SqT K H a vs ∧ Reps K H ds vs
  | .dic ks ds, v => ∃ a vs, v = .ref a ∧ Rd H a (.dK (ks.zip vs)) ∧ ks.length = vs.length ∧ Reps K H ds vs
  | .ins C ns ds, v => ∃ a dx vs, v = .ref a ∧ H a = some (.ins C dx (ns.zip vs)) ∧ ns.length = vs.length ∧ Reps K H ds vs
  | .raw w, v => v = w
  | .tpn ds, v => ∃ a vs, v = .ref a ∧ NdT H a vs ∧ Reps K H ds vs
def Reps (K : W.Frag) (H : Hp) : List D → List V → Prop
  | [], vs => vs = []
  | d :: ds, vs => ∃ v r, vs = v :: r ∧ Rep K H d v ∧ Reps K H ds r
end

theorem Same.rd {H H' : Hp} {a : Addr} {u : HO} (e : Same H H') (h : Rd H a u) : Rd H' a u := by
  rcases h with h | ⟨o, h⟩
  · exact .inl (e _ _ h)
  · exact .inr ⟨o, e _ _ h⟩
theorem Same.sqL {K : W.Frag} {H H' : Hp} {a : Addr} {xs : List V} (e : Same H H') (h : SqL K H a xs) : SqL K H' a xs := e.seq h
theorem Same.sqT {K : W.Frag} {H H' : Hp} {a : Addr} {xs : List V} (e : Same H H') (h : SqT K H a xs) : SqT K H' a xs := by
  rcases h with h | h
  · exact .inl (Same.rd e h)
  · exact .inr h

mutual
theorem Rep.mono {K : W.Frag} {H H' : Hp} (e : Same H H') : ∀ {d : D} {v : V}, Rep K H d v → Rep K H' d v
  | .non, _, h => h
  | .bl _, _, h => h
  | .int _, _, h => h
  | .str _, _, h => h
  | .lst _, _, ⟨a, vs, h1, h2, h3⟩ => ⟨a, vs, h1, Same.sqL e h2, Reps.mono e h3⟩
  | .tup _, _, ⟨a, vs, h1, h2, h3⟩ => ⟨a, vs, h1, Same.sqT e h2, Reps.mono e h3⟩
  | .dic _ _, _, ⟨a, vs, h1, h2, h4, h3⟩ => ⟨a, vs, h1, Same.rd e h2, h4, Reps.mono e h3⟩
  | .ins _ _ _, _, ⟨a, dx, vs, h1, h2, h4, h3⟩ => ⟨a, dx, vs, h1, e _ _ h2, h4, Reps.mono e h3⟩
  | .raw _, _, h => h
  | .tpn _, _, ⟨a, vs, h1, ⟨o, h2, h4⟩, h3⟩ => ⟨a, vs, h1, ⟨o, e _ _ h2, h4⟩, Reps.mono e h3⟩
theorem Reps.mono {K : W.Frag} {H H' : Hp} (e : Same H H') : ∀ {ds : List D} {vs : List V}, Reps K H ds vs → Reps K H' ds vs
  | [], _, h => h
  | _ :: _, _, ⟨v, r, h1, h2, h3⟩ => ⟨v, r, h1, Rep.mono e h2, Reps.mono e h3⟩
end

section
variable {K : W.Frag} {H H' : Hp}
theorem Reps.nil : Reps K H [] [] := rfl
theorem Reps.cons {d : D} {v : V} {ds : List D} {vs : List V} (h : Rep K H d v) (t : Reps K H ds vs) : Reps K H (d :: ds) (v :: vs) := ⟨v, vs, rfl, h, t⟩
theorem Reps.length : ∀ {ds : List D} {vs : List V}, Reps K H ds vs → ds.length = vs.length
  | [], _, h => by cases h; rfl
  | _ :: _, _, ⟨_, _, h1, _, h3⟩ => by subst h1; simp [Reps.length h3]
theorem Reps.append : ∀ {ds es : List D} {vs ws : List V}, Reps K H ds vs → Reps K H es ws → Reps K H (ds ++ es) (vs ++ ws)
  | [], _, _, _, h, t => by cases h; exact t
  | _ :: _, _, _, _, ⟨v, r, h1, h2, h3⟩, t => by subst h1; exact ⟨v, _, rfl, h2, Reps.append h3 t⟩
theorem Reps.get : ∀ {ds : List D} {vs : List V} {i : Nat} {d : D}, Reps K H ds vs → ds[i]? = some d → ∃ v, vs[i]? = some v ∧ Rep K H d v
  | [], _, _, _, _, e => by simp at e
  | _ :: _, _, 0, _, ⟨v, r, h1, h2, h3⟩, e => by subst h1; simp at e; subst e; exact ⟨v, rfl, h2⟩
  | _ :: _, _, i + 1, _, ⟨v, r, h1, h2, h3⟩, e => by
    subst h1
    obtain ⟨u, q1, q2⟩ := Reps.get (i := i) h3 (by simpa using e)
    exact ⟨u, by simpa using q1, q2⟩
theorem Reps.take : ∀ {ds : List D} {vs : List V} (n : Nat), Reps K H ds vs → Reps K H (ds.take n) (vs.take n)
  | _, _, 0, _ => by simp; exact Reps.nil
  | [], _, n + 1, h => by cases h; exact Reps.nil
  | _ :: _, _, n + 1, ⟨v, r, h1, h2, h3⟩ => by subst h1; exact ⟨v, _, rfl, h2, Reps.take n h3⟩
theorem Reps.drop : ∀ {ds : List D} {vs : List V} (n : Nat), Reps K H ds vs → Reps K H (ds.drop n) (vs.drop n)
  | _, _, 0, h => by simpa using h
  | [], _, n + 1, h => by cases h; exact Reps.nil
  | _ :: _, _, n + 1, ⟨v, r, h1, h2, h3⟩ => by subst h1; exact Reps.drop n h3
theorem Reps.set {d : D} {v : V} (h : Rep K H d v) : ∀ {ds : List D} {vs : List V} (i : Nat), Reps K H ds vs → Reps K H (ds.set i d) (vs.set i v)
  | [], _, _, q => by cases q; exact Reps.nil
  | _ :: _, _, 0, ⟨_, _, h1, _, h3⟩ => by subst h1; exact ⟨_, _, rfl, h, h3⟩
  | _ :: _, _, i + 1, ⟨_, _, h1, h2, h3⟩ => by subst h1; exact ⟨_, _, rfl, h2, Reps.set h i h3⟩
theorem Reps.one {d : D} {vs : List V} (h : Reps K H [d] vs) : ∃ v, vs = [v] ∧ Rep K H d v := by
  obtain ⟨v, r, h1, h2, h3⟩ := h
  cases h3; exact ⟨v, h1, h2⟩
theorem Reps.two {d e : D} {vs : List V} (h : Reps K H [d, e] vs) : ∃ v w, vs = [v, w] ∧ Rep K H d v ∧ Rep K H e w := by
  obtain ⟨v, r, h1, h2, w, r2, h3, h4, h5⟩ := h
  cases h5; subst h3; exact ⟨v, w, h1, h2, h4⟩
theorem Reps.split : ∀ {ds es : List D} {ws : List V}, Reps K H (ds ++ es) ws → ∃ a b, ws = a ++ b ∧ Reps K H ds a ∧ Reps K H es b
  | [], _, ws, h => ⟨[], ws, rfl, Reps.nil, h⟩
  | _ :: _, _, _, ⟨v, r, h1, h2, h3⟩ => by
    obtain ⟨a, b, e1, e2, e3⟩ := Reps.split h3
    exact ⟨v :: a, b, by rw [h1, e1]; rfl, Reps.cons h2 e2, e3⟩
theorem Reps.ints : ∀ (xs : List Int), Reps K H (xs.map D.int) (xs.map V.int)
  | [] => rfl
  | x :: r => ⟨_, _, rfl, rfl, Reps.ints r⟩
theorem Reps.strs : ∀ (xs : List Str), Reps K H (xs.map D.str) (xs.map V.str)
  | [] => rfl
  | x :: r => ⟨_, _, rfl, rfl, Reps.strs r⟩
theorem Reps.of_strs : ∀ {xs : List Str} {vs : List V}, Reps K H (xs.map D.str) vs → vs = xs.map V.str
  | [], _, h => h
  | x :: r, _, ⟨_, _, h1, h2, h3⟩ => by subst h1; rw [Reps.of_strs h3, h2]; rfl
end

inductive Cell where
  | lst (ds : List D)
  | dK (ks : List Key) (ds : List D)
  | ins (C : Addr) (ns : List Str) (ds : List D)
abbrev Cells := List (Addr × Cell)
def CellOk (K : W.Frag) (H0 H : Hp) (a : Addr) : Cell → Prop
  | .lst ds => ∃ vs, H a = some (.lst vs) ∧ Reps K H0 ds vs
  | .dK ks ds => ∃ vs, H a = some (.dK (ks.zip vs)) ∧ ks.length = vs.length ∧ Reps K H0 ds vs
  | .ins C ns ds => ∃ dx vs, H a = some (.ins C dx (ns.zip vs)) ∧ ns.length = vs.length ∧ Reps K H0 ds vs
def Dom (C : Cells) (a : Addr) : Prop := ∃ c, (a, c) ∈ C
structure CellsR (K : W.Frag) (H0 : Hp) (C : Cells) (H : Hp) : Prop where
  same : Same H0 H
  free : ∀ a, Dom C a → H0 a = none
  ok : ∀ a c, (a, c) ∈ C → CellOk K H0 H a c
  nd : (C.map (·.1)).Nodup
theorem CellOk.some {K : W.Frag} {H0 H : Hp} {a : Addr} {c : Cell} (h : CellOk K H0 H a c) : H a ≠ none := by
  cases c with
  | lst ds => obtain ⟨_, e, _⟩ := h; rw [e]; simp
  | dK ks ds => obtain ⟨_, e, _⟩ := h; rw [e]; simp
  | ins C ns ds => obtain ⟨_, _, e, _⟩ := h; rw [e]; simp
theorem CellOk.mono {K : W.Frag} {H0 H0' H H' : Hp} {a : Addr} {c : Cell} (h : CellOk K H0 H a c) (e : Same H0 H0') (ha : H' a = H a) : CellOk K H0' H' a c := by
  cases c with
  | lst ds => obtain ⟨vs, q, r⟩ := h; exact ⟨vs, ha.trans q, r.mono e⟩
  | dK ks ds => obtain ⟨vs, q, l, r⟩ := h; exact ⟨vs, ha.trans q, l, r.mono e⟩
  | ins C ns ds => obtain ⟨dx, vs, q, l, r⟩ := h; exact ⟨dx, vs, ha.trans q, l, r.mono e⟩
structure Stp (H0 : Hp) (C : Cells) (H : Hp) (H0' : Hp) (C' : Cells) (H' : Hp) : Prop where
  base : Same H0 H0'
  fr : ∀ a o, H a = some o → ¬ Dom C a → H' a = some o
  own : ∀ a, H a ≠ none → H0 a = none → ¬ Dom C a → H0' a = none ∧ ¬ Dom C' a
theorem Stp.refl (H0 : Hp) (C : Cells) (H : Hp) : Stp H0 C H H0 C H := ⟨Same.refl _, fun _ _ h _ => h, fun _ _ h n => ⟨h, n⟩⟩
theorem Stp.trans {K : W.Frag} {H0 H1 H2 HA HB HC : Hp} {C0 C1 C2 : Cells} (a : Stp H0 C0 HA H1 C1 HB) (r : CellsR K H1 C1 HB) (b : Stp H1 C1 HB H2 C2 HC) : Stp H0 C0 HA H2 C2 HC where
  base := a.base.trans b.base
  fr := fun x o h n => by
    have h1 := a.fr x o h n
    refine b.fr x o h1 fun d => ?_
    by_cases e : H0 x = none
    · exact (a.own x (by rw [h]; simp) e n).2 d
    · obtain ⟨u, hu⟩ := Option.ne_none_iff_exists'.mp e
      have := r.free x d
      rw [a.base x u hu] at this; cases this
  own := fun x h e n => by
    obtain ⟨q1, q2⟩ := a.own x h e n
    obtain ⟨o, ho⟩ := Option.ne_none_iff_exists'.mp h
    exact b.own x (by rw [a.fr x o ho n]; simp) q1 q2

section
variable {K : W.Frag} {H0 H : Hp} {C : Cells} {p : Addr} {o : HO}
theorem CellsR.nn (r : CellsR K H0 C H) (hp : H p = Option.none) : H0 p = Option.none := r.same.free hp
theorem CellsR.notDom (r : CellsR K H0 C H) (hp : H p = none) : ¬ Dom C p := fun ⟨c, hc⟩ => (r.ok p c hc).some hp
theorem stp_new (r : CellsR K H0 C H) (hp : H p = none) : Stp H0 C H (upd H0 p o) C (upd H p o) ∧ CellsR K (upd H0 p o) C (upd H p o) := by
  have n0 := r.nn hp
  have s0 : Same H0 (upd H0 p o) := fun a u h => by rw [upd_ne (ne_of_none h n0)]; exact h
  refine ⟨⟨s0, fun a u h _ => by rw [upd_ne (ne_of_none h hp)]; exact h, fun a h e n => ⟨?_, n⟩⟩, ⟨fun a u h => ?_, fun a d => ?_, fun a c hc => ?_, r.nd⟩⟩
  · rw [upd_ne (show a ≠ p from fun z => h (by rw [z]; exact hp))]; exact e
  · by_cases q : a = p
    · subst q; rw [upd_same] at h ⊢; exact h
    · rw [upd_ne q] at h ⊢; exact r.same a u h
  · rw [upd_ne (show a ≠ p from fun z => r.notDom hp (by rw [← z]; exact d))]; exact r.free a d
  · exact (r.ok a c hc).mono s0 (upd_ne fun z => (r.ok a c hc).some (z ▸ hp))
theorem stp_cell {c : Cell} (r : CellsR K H0 C H) (hp : H p = none) (ok : CellOk K H0 (upd H p o) p c) : Stp H0 C H H0 ((p, c) :: C) (upd H p o) ∧ CellsR K H0 ((p, c) :: C) (upd H p o) := by
  have n0 := r.nn hp
  refine ⟨⟨Same.refl _, fun a u h _ => by rw [upd_ne (ne_of_none h hp)]; exact h, fun a h e n => ⟨e, fun ⟨c', hc⟩ => ?_⟩⟩, ⟨fun a u h => ?_, fun a d => ?_, fun a c' hc => ?_, ?_⟩⟩
  · rcases List.mem_cons.mp hc with z | z
    · injection z with z1 _; exact h (z1 ▸ hp)
    · exact n ⟨c', z⟩
  · rw [upd_ne (ne_of_none h n0)]; exact r.same a u h
  · obtain ⟨c', hc⟩ := d
    rcases List.mem_cons.mp hc with z | z
    · injection z with z1 _; subst z1; exact n0
    · exact r.free a ⟨c', z⟩
  · rcases List.mem_cons.mp hc with z | z
    · injection z with z1 z2; subst z1; subst z2; exact ok
    · exact (r.ok a c' z).mono (Same.refl _) (upd_ne fun q => (r.ok a c' z).some (q ▸ hp))
  · rw [List.map_cons, List.nodup_cons]
    refine ⟨fun hm => ?_, r.nd⟩
    obtain ⟨⟨a, c'⟩, h1, h2⟩ := List.mem_map.mp hm
    simp only at h2; subst h2
    exact r.notDom hp ⟨c', h1⟩
theorem dom_set {i : Nat} {c c' : Cell} {a : Addr} (hi : C[i]? = some (p, c)) : Dom (C.set i (p, c')) a ↔ Dom C a := by
  constructor
  · rintro ⟨x, hx⟩
    obtain ⟨j, hj⟩ := List.mem_iff_getElem?.mp hx
    rw [List.getElem?_set] at hj
    split at hj
    · split at hj
      · cases hj; exact ⟨c, List.mem_iff_getElem?.mpr ⟨i, hi⟩⟩
      · cases hj
    · exact ⟨x, List.mem_iff_getElem?.mpr ⟨j, hj⟩⟩
  · rintro ⟨x, hx⟩
    obtain ⟨j, hj⟩ := List.mem_iff_getElem?.mp hx
    by_cases e : i = j
    · subst e; rw [hi] at hj; cases hj
      exact ⟨c', List.mem_iff_getElem?.mpr ⟨i, by rw [List.getElem?_set_self (List.getElem?_eq_some_iff.mp hi).1]⟩⟩
    · exact ⟨x, List.mem_iff_getElem?.mpr ⟨j, by rw [List.getElem?_set_ne e]; exact hj⟩⟩
theorem stp_write {i : Nat} {c c' : Cell} (r : CellsR K H0 C H) (hi : C[i]? = some (p, c)) (ok : CellOk K H0 (upd H p o) p c') :
    Stp H0 C H H0 (C.set i (p, c')) (upd H p o) ∧ CellsR K H0 (C.set i (p, c')) (upd H p o) := by
  have hm : (p, c) ∈ C := List.mem_iff_getElem?.mpr ⟨i, hi⟩
  have n0 := r.free p ⟨c, hm⟩
  refine ⟨⟨Same.refl _, fun a u h n => by rw [upd_ne (show a ≠ p from fun z => n ⟨c, by rw [z]; exact hm⟩)]; exact h, fun a h e n => ⟨e, fun d => n ((dom_set hi).mp d)⟩⟩, ⟨fun a u h => ?_, fun a d => r.free a ((dom_set hi).mp d), fun a c2 hc => ?_, ?_⟩⟩
  · rw [upd_ne (ne_of_none h n0)]; exact r.same a u h
  · obtain ⟨j, hj⟩ := List.mem_iff_getElem?.mp hc
    rw [List.getElem?_set] at hj
    split at hj
    · split at hj
      · cases hj; exact ok
      · cases hj
    · rename_i hne
      have hc2 : (a, c2) ∈ C := List.mem_iff_getElem?.mpr ⟨j, hj⟩
      refine (r.ok a c2 hc2).mono (Same.refl _) (upd_ne fun z => hne ?_)
      subst z
      have h1 : (C.map (·.1))[i]? = some a := by rw [List.getElem?_map, hi]; rfl
      have h2 : (C.map (·.1))[j]? = some a := by rw [List.getElem?_map, hj]; rfl
      obtain ⟨l1, e1⟩ := List.getElem?_eq_some_iff.mp h1
      obtain ⟨l2, e2⟩ := List.getElem?_eq_some_iff.mp h2
      exact (List.getElem_inj r.nd).mp (e1.trans e2.symm)
  · have : (C.set i (p, c')).map (·.1) = C.map (·.1) := by
      rw [List.map_set]
      apply List.ext_getElem?
      intro j
      rw [List.getElem?_set]
      split
      · rename_i e; subst e
        rw [List.getElem?_map, hi]
        have := (List.getElem?_eq_some_iff.mp hi).1
        simp [this]
      · rfl
    rw [this]; exact r.nd
end
end Tr

set_option maxHeartbeats 2000000
namespace Tr
open PySem L2 PySem.Spec PyProof.Rows

abbrev Rho := List (Option D)
abbrev SlotsR (K : W.Frag) (H0 : Hp) (ρ : Rho) (σ : L2.St) : Prop := ∀ (i : Nat) (d : D), ρ[i]? = some (some d) → ∃ v, σ[i]? = some (some v) ∧ Rep K H0 d v
theorem SlotsR.mono {K : W.Frag} {H0 H0' : Hp} {ρ : Rho} {σ : L2.St} (h : SlotsR K H0 ρ σ) (e : Same H0 H0') : SlotsR K H0' ρ σ := fun i d q => let ⟨v, a, b⟩ := h i d q; ⟨v, a, b.mono e⟩
theorem SlotsR.set {K : W.Frag} {H0 : Hp} {ρ : Rho} {σ : L2.St} {d : D} {v : V} (i : Nat) (h : SlotsR K H0 ρ σ) (r : Rep K H0 d v) (hl : ρ.length = σ.length) : SlotsR K H0 (ρ.set i (some d)) (σ.set i (some v)) := fun j e q => by
  rw [List.getElem?_set] at q
  split at q
  · rename_i hij; subst hij
    split at q
    · cases q
      rename_i hlt
      refine ⟨v, ?_, r⟩
      rw [List.getElem?_set_self (by omega)]
    · cases q
  · rename_i hij
    rw [List.getElem?_set_ne hij]
    exact h j e q
theorem SlotsR.unset {K : W.Frag} {H0 : Hp} {ρ : Rho} {σ : L2.St} (i : Nat) (h : SlotsR K H0 ρ σ) : SlotsR K H0 (ρ.set i none) (σ.set i none) := fun j e q => by
  rw [List.getElem?_set] at q
  split at q
  · split at q <;> cases q
  · rename_i hij
    rw [List.getElem?_set_ne hij]
    exact h j e q

abbrev XF := Option (List Str × List D)
def ExcR (K : W.Frag) (H0 H : Hp) : Option Addr → XF → Prop
  | none, none => True
  | some dd, some (ns, ds) => ∃ vs, H dd = some (.xd (ns.zip vs)) ∧ ns.length = vs.length ∧ Reps K H0 ds vs
  | _, _ => False

structure TX (X : Cx) where
  A : Hp → Cells → Hp → Prop
  up : ∀ {H0 C H H0' C' H'}, A H0 C H → CellsR X.K H0 C H → Stp H0 C H H0' C' H' → CellsR X.K H0' C' H' → A H0' C' H'
  XQ : Value → XF → Rho → Cells → Prop
  tk : Takes X (fun cls d σ H => ∃ fs ρ C H0, A H0 C H ∧ CellsR X.K H0 C H ∧ SlotsR X.K H0 ρ σ ∧ ρ.length = σ.length ∧ ExcR X.K H0 H d fs ∧ XQ cls fs ρ C)
  pass : PassesOwn (model X.prog X.w) X.A X.env X.xe

section
variable {X : Cx}
structure At (T : TX X) (H0 : Hp) (ρ : Rho) (C : Cells) (σ : L2.St) (H : Hp) : Prop where
  a : T.A H0 C H
  c : CellsR X.K H0 C H
  s : SlotsR X.K H0 ρ σ
  l : ρ.length = σ.length
theorem At.step {T : TX X} {H0 H0' H H' : Hp} {ρ : Rho} {C C' : Cells} {σ : L2.St} (h : At T H0 ρ C σ H) (p : Stp H0 C H H0' C' H') (c : CellsR X.K H0' C' H') : At T H0' ρ C' σ H' :=
  ⟨T.up h.a h.c p c, c, h.s.mono p.base, h.l⟩
abbrev QE := D → Cells → Prop
abbrev QA := List D → Cells → Prop
abbrev QT := Bool → Cells → Prop
abbrev Cont (X : Cx) (H0 : Hp) (C : Cells) (H : Hp) (Q : QE) (R : VK) : Prop := ∀ v d C' H' H0', Stp H0 C H H0' C' H' → CellsR X.K H0' C' H' → Rep X.K H0' d v → Q d C' → R v H'
abbrev ContA (X : Cx) (H0 : Hp) (C : Cells) (H : Hp) (Q : QA) (R : List V → Hp → Prop) : Prop := ∀ vs ds C' H' H0', Stp H0 C H H0' C' H' → CellsR X.K H0' C' H' → Reps X.K H0' ds vs → Q ds C' → R vs H'
abbrev ContT (X : Cx) (H0 : Hp) (C : Cells) (H : Hp) (Q : QT) (R : Bool → Hp → Prop) : Prop := ∀ b C' H' H0', Stp H0 C H H0' C' H' → CellsR X.K H0' C' H' → Q b C' → R b H'
theorem Cont.here {H0 H : Hp} {C : Cells} {Q : QE} {R : VK} (k : Cont X H0 C H Q R) (c : CellsR X.K H0 C H) {d : D} {v : V} (r : Rep X.K H0 d v) (q : Q d C) : R v H := k v d C H H0 (Stp.refl _ _ _) c r q
theorem Cont.after {H0 H0' H H' : Hp} {C C' : Cells} {Q Q' : QE} {R : VK} (k : Cont X H0 C H Q R) (p : Stp H0 C H H0' C' H') (c : CellsR X.K H0' C' H') (e : ∀ d C2, Q' d C2 → Q d C2) : Cont X H0' C' H' Q' R :=
  fun v d C2 H2 H02 p2 c2 r q => k v d C2 H2 H02 (p.trans c p2) c2 r (e d C2 q)

def TEx (T : TX X) (ρ : Rho) (C : Cells) (Q : QE) : TE := fun σ H R => ∃ H0, At T H0 ρ C σ H ∧ Cont X H0 C H Q R
def TAx (T : TX X) (ρ : Rho) (C : Cells) (Q : QA) : TA := fun σ H R => ∃ H0, At T H0 ρ C σ H ∧ ContA X H0 C H Q R
def TTx (T : TX X) (ρ : Rho) (C : Cells) (Q : QT) : TT := fun σ H R => ∃ H0, At T H0 ρ C σ H ∧ ContT X H0 C H Q R
def WE (T : TX X) (e : Expr) (ρ : Rho) (C : Cells) (Q : QE) : Prop := PE X e (TEx T ρ C Q)
def WA (T : TX X) (es : List Expr) (ρ : Rho) (C : Cells) (Q : QA) : Prop := PA X es (TAx T ρ C Q)
def WT (T : TX X) (e : Expr) (ρ : Rho) (C : Cells) (Q : QT) : Prop := PT X e (TTx T ρ C Q)
def WP (T : TX X) (e : Expr) (ρ : Rho) (C : Cells) (Q : QT) : Prop := PW X e (TTx T ρ C Q)

theorem PE.imp {e : Expr} {t t' : TE} (h : PE X e t) (i : ∀ σ H R, t' σ H R → t σ H R) : PE X e t' := ⟨fun pins s σ H Q I q => h.run pins s σ H Q I (i σ H Q q)⟩
theorem PA.imp {e : List Expr} {t t' : TA} (h : PA X e t) (i : ∀ σ H R, t' σ H R → t σ H R) : PA X e t' := ⟨fun pos pins s σ H Q I q => h.run pos pins s σ H Q I (i σ H Q q)⟩
theorem PT.imp {e : Expr} {t t' : TT} (h : PT X e t) (i : ∀ σ H R, t' σ H R → t σ H R) : PT X e t' := ⟨fun pins s σ H Q I q => h.run pins s σ H Q I (i σ H Q q)⟩
theorem PW.imp {e : Expr} {t t' : TT} (h : PW X e t) (i : ∀ σ H R, t' σ H R → t σ H R) : PW X e t' := ⟨fun wh pins s σ H Q I q => h.run wh pins s σ H Q I (i σ H Q q)⟩
theorem PS.imp {e : Stmt} {t t' : TS} (h : PS X e t) (i : ∀ D σ H, t' D σ H → t D σ H) : PS X e t' := ⟨fun pins s σ H Q I q => h.run pins s σ H Q I (i Q σ H q)⟩
theorem PSs.imp {e : List Stmt} {t t' : TS} (h : PSs X e t) (i : ∀ D σ H, t' D σ H → t D σ H) : PSs X e t' := ⟨fun pins s σ H Q I q => h.run pins s σ H Q I (i Q σ H q)⟩
theorem OpR.imp {f : Value → Value → Sem Value} {r r' : R2} (h : OpR X f r) (i : ∀ x y H R, r' x y H R → r x y H R) : OpR X f r' := fun pins s σ H x y v u Q I rx ry q => h pins s σ H x y v u Q I rx ry (i _ _ _ _ q)

def someE (T : TX X) (ρ : Rho) (e : Expr) : TE := fun σ H R => ∃ C Q, WE T e ρ C Q ∧ TEx T ρ C Q σ H R
theorem pe_some (T : TX X) (ρ : Rho) (e : Expr) : PE X e (someE T ρ e) := ⟨fun pins s σ H Q I ⟨C, q, h, t⟩ => h.run pins s σ H Q I t⟩
def someA (T : TX X) (ρ : Rho) (e : List Expr) : TA := fun σ H R => ∃ C Q, WA T e ρ C Q ∧ TAx T ρ C Q σ H R
theorem pa_some (T : TX X) (ρ : Rho) (e : List Expr) : PA X e (someA T ρ e) := ⟨fun pos pins s σ H Q I ⟨C, q, h, t⟩ => h.run pos pins s σ H Q I t⟩
def someP (T : TX X) (ρ : Rho) (e : Expr) : TT := fun σ H R => ∃ C Q, WP T e ρ C Q ∧ TTx T ρ C Q σ H R
theorem pw_some (T : TX X) (ρ : Rho) (e : Expr) : PW X e (someP T ρ e) := ⟨fun wh pins s σ H Q I ⟨C, q, h, t⟩ => h.run wh pins s σ H Q I t⟩

variable {T : TX X} {ρ : Rho} {C : Cells} {Q : QE} {e a b c : Expr} {pos : Pos} {es : List Expr}
theorem WE.mono {Q' : QE} (h : WE T e ρ C Q) (i : ∀ d C', Q d C' → Q' d C') : WE T e ρ C Q' :=
  PE.imp h fun σ H R ⟨H0, a, k⟩ => ⟨H0, a, fun v d C' H' H0' p c r q => k v d C' H' H0' p c r (i d C' q)⟩
theorem WT.mono {Q Q' : QT} (h : WT T e ρ C Q) (i : ∀ d C', Q d C' → Q' d C') : WT T e ρ C Q' :=
  PT.imp h fun σ H R ⟨H0, a, k⟩ => ⟨H0, a, fun v C' H' H0' p c q => k v C' H' H0' p c (i v C' q)⟩

theorem we_look {t : TE} {d : D} (h : PE X e t) (i : ∀ σ H H0, At T H0 ρ C σ H → ∃ v, Rep X.K H0 d v ∧ ∀ R : VK, R v H → t σ H R) (q : Q d C) : WE T e ρ C Q :=
  PE.imp h fun σ H R ⟨H0, a, k⟩ => let ⟨v, r, j⟩ := i σ H H0 a; j R (k.here a.c r q)
theorem we_int {i j} (q : Q (.int i) C) : WE T (.Constant (.int i) j pos) ρ C Q := we_look (d := .int i) pe_int (fun _ _ _ _ => ⟨.int i, rfl, fun _ r => r⟩) q
theorem we_bl {i j} (q : Q (.bl i) C) : WE T (.Constant (.bool i) j pos) ρ C Q := we_look (d := .bl i) pe_bl (fun _ _ _ _ => ⟨.bl i, rfl, fun _ r => r⟩) q
theorem we_non {j} (q : Q .non C) : WE T (.Constant .none j pos) ρ C Q := we_look (d := .non) pe_non (fun _ _ _ _ => ⟨.non, rfl, fun _ r => r⟩) q
theorem we_str {i j} (q : Q (.str i) C) : WE T (.Constant (.str i) j pos) ρ C Q := we_look (d := .str i) pe_str (fun _ _ _ _ => ⟨.str i, rfl, fun _ r => r⟩) q
theorem we_var (i : Nat) {x : Str} {d : D} (hd : ρ[i]? = some (some d)) (q : Q d C) (h : PE X (.Name x pos) (tVar i)) : WE T (.Name x pos) ρ C Q :=
  we_look h (fun σ H H0 a => let ⟨v, e, r⟩ := a.s i d hd; ⟨v, r, fun R k => ⟨v, e, k⟩⟩) q
theorem we_glob {x : Str} {v : V} {d : D} (h : PE X (.Name x pos) (tC v)) (r : ∀ H0 : Hp, Rep X.K H0 d v) (q : Q d C) : WE T (.Name x pos) ρ C Q :=
  we_look h (fun σ H H0 a => ⟨v, r H0, fun R k => k⟩) q

def OW (T : TX X) (f : Value → Value → Sem Value) (d1 d2 : D) (C : Cells) (Q : QE) : Prop :=
  OpR X f fun x y H R => ∃ H0, CellsR X.K H0 C H ∧ Rep X.K H0 d1 x ∧ Rep X.K H0 d2 y ∧ Cont X H0 C H Q R
def someO (T : TX X) (f : Value → Value → Sem Value) : R2 := fun x y H R => ∃ d1 d2 C Q, OW T f d1 d2 C Q ∧ ∃ H0, CellsR X.K H0 C H ∧ Rep X.K H0 d1 x ∧ Rep X.K H0 d2 y ∧ Cont X H0 C H Q R
theorem op_some (T : TX X) (f : Value → Value → Sem Value) : OpR X f (someO T f) := fun pins s σ H x y v u Q I rx ry ⟨d1, d2, C, q, h, k⟩ => h pins s σ H x y v u Q I rx ry k
theorem ow_look {f : Value → Value → Sem Value} {r : R2} {d1 d2 d : D} (h : OpR X f r) (i : ∀ x y H H0, CellsR X.K H0 C H → Rep X.K H0 d1 x → Rep X.K H0 d2 y → ∃ v, Rep X.K H0 d v ∧ ∀ R : VK, R v H → r x y H R) (q : Q d C) : OW T f d1 d2 C Q :=
  OpR.imp h fun x y H R ⟨H0, c, r1, r2, k⟩ => let ⟨v, rr, j⟩ := i x y H H0 c r1 r2; j R (k.here c rr q)
theorem both {r : R2} {f : Value → Value → Sem Value} (h : WE T a ρ C fun d1 C1 => WE T b ρ C1 fun d2 C2 => OW T f d1 d2 C2 Q) (hr : ∀ x y H R, someO T f x y H R → r x y H R) :
    ∀ σ H R, TEx T ρ C Q σ H R → tOp r (TEx T ρ C fun d1 C1 => WE T b ρ C1 fun d2 C2 => OW T f d1 d2 C2 Q) (someE T ρ b) σ H R := fun σ H R ⟨H0, at_, k⟩ => by
  refine ⟨H0, at_, fun v1 d1 C1 H1 H01 p1 c1 r1 q1 => ?_⟩
  have at1 := at_.step p1 c1
  refine ⟨C1, _, q1, H01, at1, fun v2 d2 C2 H2 H02 p2 c2 r2 q2 => ?_⟩
  exact hr _ _ _ _ ⟨d1, d2, C2, Q, q2, H02, c2, r1.mono p2.base, r2, k.after (p1.trans c1 p2) c2 fun _ _ z => z⟩
theorem we_bin {op : Operator} (h : WE T a ρ C fun d1 C1 => WE T b ρ C1 fun d2 C2 => OW T (binaryOp op) d1 d2 C2 Q) : WE T (.BinOp a op b pos) ρ C Q :=
  PE.imp (pe_op (op_some T (binaryOp op)) h (pe_some T ρ b)) (both h fun _ _ _ _ z => z)
theorem we_cmp {op : CmpOp} (h : WE T a ρ C fun d1 C1 => WE T b ρ C1 fun d2 C2 => OW T (compareOp op) d1 d2 C2 Q) (hm : behindInMarks op b = false) : WE T (.Compare a [op] [b] pos) ρ C Q :=
  PE.imp (pe_cmpR (op_some T (compareOp op)) h (pe_some T ρ b) hm) (both h fun _ _ _ _ z => z)
theorem wt_cmp {op : CmpOp} {Q : QT} (h : WE T a ρ C fun d1 C1 => WE T b ρ C1 fun d2 C2 => OW T (compareOp op) d1 d2 C2 fun d C3 => ∃ k, d = .bl k ∧ Q k C3) (hm : behindInMarks op b = false) : WT T (.Compare a [op] [b] pos) ρ C Q :=
  PT.imp (pt_cmpR (op_some T (compareOp op)) h (pe_some T ρ b) hm) fun σ H R ⟨H0, at_, k⟩ => both (Q := fun d C3 => ∃ k, d = .bl k ∧ Q k C3) h (fun _ _ _ _ z => z) σ H _ ⟨H0, at_, fun v d C' H' H0' p c r ⟨j, e, q⟩ => by
    subst e; cases r; exact ⟨j, rfl, k j C' H' H0' p c q⟩⟩

theorem wt_tB {Q : QT} {t : TE → TT} (ht : ∀ ta, PE X e ta → PT X e (t ta)) (hm : ∀ ta σ H R, tTest ta σ H R → t ta σ H R) (h : WE T e ρ C fun d C1 => ∃ k, d = .bl k ∧ Q k C1) : WT T e ρ C Q :=
  PT.imp (ht _ h) fun σ H R ⟨H0, at_, k⟩ => hm _ σ H R ⟨H0, at_, fun v d C' H' H0' p c r ⟨j, e, q⟩ => by subst e; cases r; exact ⟨j, rfl, k j C' H' H0' p c q⟩⟩
theorem wt_val {Q : QT} (h : WE T e ρ C fun d C1 => ∃ k, d = .bl k ∧ Q k C1) (he : ∀ whole, isTrue e X.env whole = (do let v ← whole; standAt e.pos; holding [v] (truthy v)) := by intro _; rfl) : WT T e ρ C Q :=
  wt_tB (t := tB) (fun _ z => pt_val z he) (fun _ _ _ _ z => z) h
theorem wt_not {Q : QT} (h : WT T a ρ C fun k C1 => Q (!k) C1) : WT T (.UnaryOp .Not a pos) ρ C Q :=
  PT.imp (pt_not h) fun σ H R ⟨H0, at_, k⟩ => ⟨H0, at_, fun j C' H' H0' p c q => k _ C' H' H0' p c q⟩
theorem wt_p {Q : QT} (h : WP T a ρ C Q) : WT T a ρ C Q := PW.pt h
theorem wp_and1 {Q : QT} (h : WT T a ρ C Q) : WP T (.BoolOp .And [a] pos) ρ C Q := pw_and1 h
theorem wp_or1 {Q : QT} (h : WT T a ρ C Q) : WP T (.BoolOp .Or [a] pos) ρ C Q := pw_or1 h
theorem wp_and {Q : QT} (h : WT T a ρ C fun k C1 => if k = true then WP T (.BoolOp .And (b :: es) pos) ρ C1 Q else Q false C1) : WP T (.BoolOp .And (a :: b :: es) pos) ρ C Q :=
  PW.imp (pw_and h (pw_some T ρ _)) fun σ H R ⟨H0, at_, k⟩ => ⟨H0, at_, fun j C' H' H0' p c q => by
    cases j with
    | true => exact ⟨C', Q, q, H0', at_.step p c, fun j C2 H2 H02 p2 c2 q2 => k j C2 H2 H02 (p.trans c p2) c2 q2⟩
    | false => exact k false C' H' H0' p c q⟩
theorem wp_or {Q : QT} (h : WT T a ρ C fun k C1 => if k = true then Q true C1 else WP T (.BoolOp .Or (b :: es) pos) ρ C1 Q) : WP T (.BoolOp .Or (a :: b :: es) pos) ρ C Q :=
  PW.imp (pw_or h (pw_some T ρ _)) fun σ H R ⟨H0, at_, k⟩ => ⟨H0, at_, fun j C' H' H0' p c q => by
    cases j with
    | false => exact ⟨C', Q, q, H0', at_.step p c, fun j C2 H2 H02 p2 c2 q2 => k j C2 H2 H02 (p.trans c p2) c2 q2⟩
    | true => exact k true C' H' H0' p c q⟩
theorem we_one {op} (h : WE T a ρ C Q) : WE T (.BoolOp op [a] pos) ρ C Q := pe_one h
theorem we_and (h : WE T a ρ C fun d C1 => ∃ k, d = .bl k ∧ if k = true then WE T (.BoolOp .And (b :: es) pos) ρ C1 Q else Q (.bl false) C1) : WE T (.BoolOp .And (a :: b :: es) pos) ρ C Q :=
  PE.imp (pe_and h (pe_some T ρ _)) fun σ H R ⟨H0, at_, k⟩ => ⟨H0, at_, fun v d C' H' H0' p c r ⟨j, e, q⟩ => by
    subst e; cases r
    refine ⟨j, rfl, ?_⟩
    cases j with
    | true => exact ⟨C', Q, q, H0', at_.step p c, k.after p c fun _ _ z => z⟩
    | false => exact k _ (.bl false) C' H' H0' p c rfl q⟩
theorem we_or (h : WE T a ρ C fun d C1 => ∃ k, d = .bl k ∧ if k = true then Q (.bl true) C1 else WE T (.BoolOp .Or (b :: es) pos) ρ C1 Q) : WE T (.BoolOp .Or (a :: b :: es) pos) ρ C Q :=
  PE.imp (pe_or h (pe_some T ρ _)) fun σ H R ⟨H0, at_, k⟩ => ⟨H0, at_, fun v d C' H' H0' p c r ⟨j, e, q⟩ => by
    subst e; cases r
    refine ⟨j, rfl, ?_⟩
    cases j with
    | false => exact ⟨C', Q, q, H0', at_.step p c, k.after p c fun _ _ z => z⟩
    | true => exact k _ (.bl true) C' H' H0' p c rfl q⟩
theorem we_ifExp (h : WT T c ρ C fun k C1 => if k = true then WE T a ρ C1 Q else WE T b ρ C1 Q) : WE T (.IfExp c a b pos) ρ C Q :=
  PE.imp (pe_ifExp h (pe_some T ρ a) (pe_some T ρ b)) fun σ H R ⟨H0, at_, k⟩ => ⟨H0, at_, fun j C' H' H0' p c q => by
    cases j with
    | true => exact ⟨C', Q, q, H0', at_.step p c, k.after p c fun _ _ z => z⟩
    | false => exact ⟨C', Q, q, H0', at_.step p c, k.after p c fun _ _ z => z⟩⟩

theorem wa_nil {Q : QA} (q : Q [] C) : WA T [] ρ C Q := PA.imp pa_nil fun σ H R ⟨H0, at_, k⟩ => k [] [] C H H0 (Stp.refl _ _ _) at_.c Reps.nil q
theorem wa_cons {Q : QA} (h : WE T a ρ C fun d C1 => WA T es ρ C1 fun ds C2 => Q (d :: ds) C2) (hs : starEach (a :: es) X.env = (false, eval a X.env) :: starEach es X.env := by rfl) : WA T (a :: es) ρ C Q :=
  PA.imp (pa_cons h (pa_some T ρ es) hs) fun σ H R ⟨H0, at_, k⟩ => ⟨H0, at_, fun v d C1 H1 H01 p1 c1 r1 q1 => ⟨C1, _, q1, H01, at_.step p1 c1, fun vs ds C2 H2 H02 p2 c2 r2 q2 =>
    k _ _ C2 H2 H02 (p1.trans c1 p2) c2 (Reps.cons (r1.mono p2.base) r2) q2⟩⟩
theorem we_tup {x1} (h : WA T es ρ C fun ds C1 => ds.length ≤ 100000 ∧ Q (.tup ds) C1) : WE T (.Tuple es x1 pos) ρ C Q :=
  PE.imp (pe_tup h) fun σ H R ⟨H0, at_, k⟩ => ⟨H0, at_, fun vs ds C1 H1 H01 p1 c1 r1 ⟨z, q⟩ => ⟨Nat.le_trans (by rw [← r1.length]; exact z) (by decide), fun p hp => by
    obtain ⟨p2, c2⟩ := stp_new (o := .tup vs) c1 hp
    exact k _ (.tup ds) C1 _ _ (p1.trans c1 p2) c2 ⟨p, vs, rfl, .inl (.inl upd_same), r1.mono p2.base⟩ q⟩⟩
theorem we_lst (h : WA T es ρ C fun ds C1 => ds.length ≤ 100000 ∧ Q (.lst ds) C1) : WE T (.List es pos) ρ C Q :=
  PE.imp (pe_lst h) fun σ H R ⟨H0, at_, k⟩ => ⟨H0, at_, fun vs ds C1 H1 H01 p1 c1 r1 ⟨z, q⟩ => ⟨Nat.le_trans (by rw [← r1.length]; exact z) (by decide), fun p hp => by
    obtain ⟨p2, c2⟩ := stp_new (o := .lst vs) c1 hp
    exact k _ (.lst ds) C1 _ _ (p1.trans c1 p2) c2 ⟨p, vs, rfl, .inl (.inl upd_same), r1.mono p2.base⟩ q⟩⟩
theorem we_lstC (h : WA T es ρ C fun ds C1 => ds.length ≤ 100000 ∧ ∀ p, Q (.raw (.ref p)) ((p, .lst ds) :: C1)) : WE T (.List es pos) ρ C Q :=
  PE.imp (pe_lst h) fun σ H R ⟨H0, at_, k⟩ => ⟨H0, at_, fun vs ds C1 H1 H01 p1 c1 r1 ⟨z, q⟩ => ⟨Nat.le_trans (by rw [← r1.length]; exact z) (by decide), fun p hp => by
    obtain ⟨p2, c2⟩ := stp_cell (o := .lst vs) (c := .lst ds) c1 hp ⟨vs, upd_same, r1⟩
    exact k _ (.raw (.ref p)) _ _ _ (p1.trans c1 p2) c2 rfl (q p)⟩⟩

def CW (T : TX X) (f : Value) (ds : List D) (C : Cells) (Q : QE) : Prop := CallR X f fun xs H R => ∃ H0, CellsR X.K H0 C H ∧ Reps X.K H0 ds xs ∧ Cont X H0 C H Q R
def someC (T : TX X) (f : Value) : List V → Hp → VK → Prop := fun xs H R => ∃ ds C Q, CW T f ds C Q ∧ ∃ H0, CellsR X.K H0 C H ∧ Reps X.K H0 ds xs ∧ Cont X H0 C H Q R
theorem call_some (T : TX X) (f : Value) : CallR X f (someC T f) := fun pins s σ H vs us Q I r ⟨ds, C, q, h, k⟩ => h pins s σ H vs us Q I r k
theorem CallR.imp {f : Value} {r r' : List V → Hp → VK → Prop} (h : CallR X f r) (i : ∀ xs H R, r' xs H R → r xs H R) : CallR X f r' := fun pins s σ H vs us Q I rv q => h pins s σ H vs us Q I rv (i _ _ _ q)
theorem cw_look {f : Value} {r : List V → Hp → VK → Prop} {ds : List D} {d : D} (h : CallR X f r) (i : ∀ xs H H0, CellsR X.K H0 C H → Reps X.K H0 ds xs → ∃ v, Rep X.K H0 d v ∧ ∀ R : VK, R v H → r xs H R) (q : Q d C) : CW T f ds C Q :=
  CallR.imp h fun xs H R ⟨H0, c, r1, k⟩ => let ⟨v, rr, j⟩ := i xs H H0 c r1; j R (k.here c rr q)
theorem args_some {t : List V → Hp → VK → Prop} {es : List Expr} {f : Value} (i : ∀ xs H R, someC T f xs H R → t xs H R) : ∀ σ H R, TEx T ρ C Q σ H R → tCB t (TAx T ρ C fun ds C1 => CW T f ds C1 Q) σ H R :=
  fun σ H R ⟨H0, at_, k⟩ => ⟨H0, at_, fun vs ds C1 H1 H01 p1 c1 r1 q1 => i _ _ _ ⟨ds, C1, Q, q1, H01, c1, r1, k.after p1 c1 fun _ _ z => z⟩⟩
theorem we_callB {x : Str} {p : Pos} {id : String} (hg : Gl X x) (hm : X.mg x = none) (hv : bootBuiltins x = some (.builtin id)) (h : WA T (a :: es) ρ C fun ds C1 => CW T (.builtin id) ds C1 Q)
    (hn : x ≠ "__name__" := by decide) (hdb : (x == ("__debug__" : Str)) = false := by decide) (he : starEach (a :: es) X.env = (false, eval a X.env) :: starEach es X.env := by rfl) (hpl : (backTo pos (starEach es X.env)).any (·.1) = false := by rfl) :
    WE T (.Call (.Name x p) (a :: es) [] pos) ρ C Q := PE.imp (pe_callB (call_some T _) hg hm hv h hn hdb he hpl) (args_some (es := es) fun _ _ _ z => z)
theorem we_callTy {x : Str} {p : Pos} {id : String} (hg : Gl X x) (hm : X.mg x = none) (hv : bootBuiltins x = some (.type id)) (h : WA T (a :: es) ρ C fun ds C1 => CW T (.type id) ds C1 Q)
    (hn : x ≠ "__name__" := by decide) (hdb : (x == ("__debug__" : Str)) = false := by decide) (he : starEach (a :: es) X.env = (false, eval a X.env) :: starEach es X.env := by rfl) (hpl : (backTo pos (starEach es X.env)).any (·.1) = false := by rfl) :
    WE T (.Call (.Name x p) (a :: es) [] pos) ρ C Q := PE.imp (pe_callTy (call_some T _) hg hm hv h hn hdb he hpl) (args_some (es := es) fun _ _ _ z => z)
end
end Tr

set_option maxHeartbeats 2000000
namespace Tr
open PySem L2 PySem.Spec PyProof.Rows
section
variable {X : Cx}
abbrev QS := Rho → Cells → Prop
structure TEnds where
  nx : QS
  rt : QE
  bk : QS := fun _ _ => False
  ct : QS := fun _ _ => False
abbrev ContS (X : Cx) (H0 : Hp) (C : Cells) (H : Hp) (Q : QS) (R : L2.St → Hp → Prop) : Prop :=
  ∀ (ρ' : Rho) (σ' : L2.St) C' H' H0', Stp H0 C H H0' C' H' → CellsR X.K H0' C' H' → SlotsR X.K H0' ρ' σ' → ρ'.length = σ'.length → Q ρ' C' → R σ' H'
structure Tail (X : Cx) (H0 : Hp) (C : Cells) (H : Hp) (N : TEnds) (Dn : Ends) : Prop where
  nx : ContS X H0 C H N.nx Dn.nx
  rt : Cont X H0 C H N.rt Dn.rt
  bk : ContS X H0 C H N.bk Dn.bk
  ct : ContS X H0 C H N.ct Dn.ct
theorem ContS.after {H0 H0' H H' : Hp} {C C' : Cells} {Q : QS} {R : L2.St → Hp → Prop} (k : ContS X H0 C H Q R) (p : Stp H0 C H H0' C' H') (c : CellsR X.K H0' C' H') : ContS X H0' C' H' Q R :=
  fun ρ σ C2 H2 H02 p2 c2 s l q => k ρ σ C2 H2 H02 (p.trans c p2) c2 s l q
theorem Tail.after {H0 H0' H H' : Hp} {C C' : Cells} {N : TEnds} {Dn : Ends} (k : Tail X H0 C H N Dn) (p : Stp H0 C H H0' C' H') (c : CellsR X.K H0' C' H') : Tail X H0' C' H' N Dn :=
  ⟨ContS.after k.nx p c, k.rt.after p c fun _ _ z => z, ContS.after k.bk p c, ContS.after k.ct p c⟩
def TSx (T : TX X) (ρ : Rho) (C : Cells) (N : TEnds) : TS := fun Dn σ H => ∃ H0, At T H0 ρ C σ H ∧ Tail X H0 C H N Dn
def WS (T : TX X) (st : Stmt) (ρ : Rho) (C : Cells) (N : TEnds) : Prop := PS X st (TSx T ρ C N)
def WSs (T : TX X) (st : List Stmt) (ρ : Rho) (C : Cells) (N : TEnds) : Prop := PSs X st (TSx T ρ C N)
def someS (T : TX X) (st : List Stmt) : TS := fun Dn σ H => ∃ ρ C N, WSs T st ρ C N ∧ TSx T ρ C N Dn σ H
theorem pss_some (T : TX X) (st : List Stmt) : PSs X st (someS T st) := ⟨fun pins s σ H D I ⟨ρ, C, N, h, t⟩ => h.run pins s σ H D I t⟩

variable {T : TX X} {ρ : Rho} {C : Cells} {N : TEnds} {e a b c : Expr} {pos : Pos} {es : List Expr} {st : Stmt} {rest body : List Stmt}
theorem ContS.here {H0 H : Hp} {Q : QS} {R : L2.St → Hp → Prop} {σ : L2.St} (k : ContS X H0 C H Q R) (at_ : At T H0 ρ C σ H) (q : Q ρ C) : R σ H := k ρ σ C H H0 (Stp.refl _ _ _) at_.c at_.s at_.l q

theorem wss_nil (h : N.nx ρ C) : WSs T [] ρ C N := PSs.imp pss_nil fun Dn σ H ⟨H0, at_, k⟩ => ContS.here k.nx at_ h
theorem wss_cons (h : WS T st ρ C { N with nx := fun ρ1 C1 => WSs T rest ρ1 C1 N }) : WSs T (st :: rest) ρ C N :=
  PSs.imp (pss_cons h (pss_some T rest)) fun Dn σ H ⟨H0, at_, k⟩ => ⟨H0, at_, ⟨fun ρ' σ' C' H' H0' p c s l q => ⟨ρ', C', N, q, H0', ⟨T.up at_.a at_.c p c, c, s, l⟩, k.after p c⟩, k.rt, k.bk, k.ct⟩⟩
theorem ws_expr (h : WE T e ρ C fun _ C1 => N.nx ρ C1) (hs : swapsWith e none pos.line X.env = pure false := by rfl) : WS T (.Expr e pos) ρ C N :=
  PS.imp (ps_expr h hs) fun Dn σ H ⟨H0, at_, k⟩ => ⟨H0, at_, fun v d C1 H1 H01 p c r q => ContS.here (k.after p c).nx (at_.step p c) q⟩
theorem ws_ret (h : WE T e ρ C N.rt) : WS T (.Return (some e) pos) ρ C N := PS.imp (ps_ret h) fun Dn σ H ⟨H0, at_, k⟩ => ⟨H0, at_, k.rt⟩
theorem ws_if {tb fb : List Stmt} (h : WT T c ρ C fun k C1 => if k = true then WSs T tb ρ C1 N else WSs T fb ρ C1 N) : WS T (.If c tb fb pos) ρ C N :=
  PS.imp (ps_if h (pss_some T tb) (pss_some T fb)) fun Dn σ H ⟨H0, at_, k⟩ => ⟨H0, at_, fun b C1 H1 H01 p c q => by
    cases b with
    | true => exact ⟨ρ, C1, N, q, H01, at_.step p c, k.after p c⟩
    | false => exact ⟨ρ, C1, N, q, H01, at_.step p c, k.after p c⟩⟩

def TGx (T : TX X) (d : D) (ρ : Rho) (C : Cells) (Q : QS) : TG := fun v σ H R => ∃ H0, At T H0 ρ C σ H ∧ Rep X.K H0 d v ∧ ContS X H0 C H Q R
def TGsx (T : TX X) (ds : List D) (ρ : Rho) (C : Cells) (Q : QS) : TGs := fun vs σ H R => ∃ H0, At T H0 ρ C σ H ∧ Reps X.K H0 ds vs ∧ ContS X H0 C H Q R
def WG (T : TX X) (tg : Expr) (d : D) (ρ : Rho) (C : Cells) (Q : QS) : Prop := PG X tg (TGx T d ρ C Q)
def WGs (T : TX X) (tg : List Expr) (ds : List D) (ρ : Rho) (C : Cells) (Q : QS) : Prop := PGs X tg (TGsx T ds ρ C Q)
theorem PG.imp {e : Expr} {t t' : TG} (h : PG X e t) (i : ∀ v σ H R, t' v σ H R → t v σ H R) : PG X e t' := ⟨fun pins s σ H v u Q I r q => h.run pins s σ H v u Q I r (i v σ H Q q)⟩
theorem PGs.imp {e : List Expr} {t t' : TGs} (h : PGs X e t) (i : ∀ v σ H R, t' v σ H R → t v σ H R) : PGs X e t' := ⟨fun pins s σ H v u Q I r q => h.run pins s σ H v u Q I r (i v σ H Q q)⟩
def someG (T : TX X) (tg : Expr) : TG := fun v σ H R => ∃ d ρ C Q, WG T tg d ρ C Q ∧ TGx T d ρ C Q v σ H R
theorem pg_some (T : TX X) (tg : Expr) : PG X tg (someG T tg) := ⟨fun pins s σ H v u Q I r ⟨d, ρ, C, q, h, t⟩ => h.run pins s σ H v u Q I r t⟩
def someGs (T : TX X) (tg : List Expr) : TGs := fun v σ H R => ∃ d ρ C Q, WGs T tg d ρ C Q ∧ TGsx T d ρ C Q v σ H R
theorem pgs_some (T : TX X) (tg : List Expr) : PGs X tg (someGs T tg) := ⟨fun pins s σ H v u Q I r ⟨d, ρ, C, q, h, t⟩ => h.run pins s σ H v u Q I r t⟩
theorem wg_name {d : D} {Q : QS} (i : Nat) {x : Str} (q : Q (ρ.set i (some d)) C) (h : PG X (.Name x pos) (gName i)) : WG T (.Name x pos) d ρ C Q :=
  PG.imp h fun v σ H R ⟨H0, at_, r, k⟩ => k _ _ C H H0 (Stp.refl _ _ _) at_.c (SlotsR.set i at_.s r at_.l) (by rw [List.length_set, List.length_set]; exact at_.l) q
theorem wgs_nil {Q : QS} (q : Q ρ C) : WGs T [] [] ρ C Q := PGs.imp pgs_nil fun v σ H R ⟨H0, at_, r, k⟩ => ⟨r, ContS.here k at_ q⟩
theorem wgs_cons {tg : Expr} {tgs : List Expr} {d : D} {ds : List D} {Q : QS} (h : WG T tg d ρ C fun ρ1 C1 => WGs T tgs ds ρ1 C1 Q)
    (hs : (assignEach (tg :: tgs) X.env).map (·.2) = assign tg X.env :: (assignEach tgs X.env).map (·.2) := by rfl) : WGs T (tg :: tgs) (d :: ds) ρ C Q :=
  PGs.imp (pgs_cons h (pgs_some T tgs) hs) fun v σ H R ⟨H0, at_, ⟨v1, r, e1, r1, r2⟩, k⟩ => ⟨v1, r, e1, H0, at_, r1, fun ρ' σ' C' H' H0' p c s l q =>
    ⟨ds, ρ', C', Q, q, H0', ⟨T.up at_.a at_.c p c, c, s, l⟩, r2.mono p.base, ContS.after k p c⟩⟩
theorem wg_tup {tgs : List Expr} {k : Nat} {ds : List D} {Q : QS} {n : Nat} (hc : X.calm = true) (h : WGs T tgs ds ρ C Q) (hl : ds.length = n)
    (hn : (assignEach tgs X.env).length = n := by rfl) (hst : (assignEach tgs X.env).findIdx? (·.1) = none := by rfl) : WG T (.Tuple tgs k pos) (.tup ds) ρ C Q :=
  PG.imp (pg_tup hc h hn hst) fun v σ H R ⟨H0, at_, ⟨a, vs, e1, q1, r1⟩, k⟩ => ⟨a, vs, e1, Same.sqT at_.c.same q1, by rw [← r1.length]; exact hl, H0, at_, r1, k⟩
theorem ws_asg {tg : Expr} (h : WE T e ρ C fun d C1 => WG T tg d ρ C1 N.nx) (hs : swapsWithSole [tg] e pos.line X.env = pure false := by rfl) (hw : swappedStores [tg] e X.env = pure none := by rfl)
    (h1 : (assignEach [tg] X.env).map (·.2) = [assign tg X.env] := by rfl) : WS T (.Assign [tg] e pos) ρ C N :=
  PS.imp (ps_asg h (pg_some T tg) hs hw h1) fun Dn σ H ⟨H0, at_, k⟩ => ⟨H0, at_, fun v d C1 H1 H01 p c r q => ⟨d, ρ, C1, N.nx, q, H01, at_.step p c, r, (k.after p c).nx⟩⟩
theorem ws_set (i : Nat) {x : Str} {pos' : Pos} (hN : X.N.Nodup) (hi : X.N[i]? = some x) (hx : Loc X.env.scope x) (h : WE T e ρ C fun d C1 => N.nx (ρ.set i (some d)) C1) (hs : swapsWith e (some (.Name x pos')) pos.line X.env = pure false := by rfl)
    (hf : X.fn x = true ∨ X.env.scope.names.lookup x = some .local := by first | exact .inl rfl | exact .inr rfl | assumption) : WS T (.Assign [.Name x pos'] e pos) ρ C N :=
  PS.imp (ps_set hN hi hx h hs hf) fun Dn σ H ⟨H0, at_, k⟩ => ⟨H0, at_, fun v d C1 H1 H01 p c r q =>
    (k.after p c).nx _ _ C1 H1 H01 (Stp.refl _ _ _) c (SlotsR.set i (at_.step p c).s r at_.l) (by rw [List.length_set, List.length_set]; exact at_.l) q⟩

structure Yields (K : W.Frag) (J : It) (H0 : Hp) (P : Cells → Prop) (ds : List D) : Prop where
  go : ∀ (i : Nat) H0' C H, Same H0 H0' → CellsR K H0' C H → P C → i < ds.length → J.go i H
  stop : ∀ (i : Nat) H0' C H, Same H0 H0' → CellsR K H0' C H → P C → ds.length ≤ i → J.stop i H
  yld : ∀ (i : Nat) H0' C H x H' d, Same H0 H0' → CellsR K H0' C H → P C → ds[i]? = some d → J.yld i H x H' → ∃ H0'', Stp H0' C H H0'' C H' ∧ CellsR K H0'' C H' ∧ Rep K H0'' d x
abbrev QI := List D → (Cells → Prop) → Cells → Prop
def TIx (T : TX X) (ρ : Rho) (C : Cells) (Q : QI) : TI := fun σ H R => ∃ H0, At T H0 ρ C σ H ∧ ∀ J ds P C' H' H0', Stp H0 C H H0' C' H' → CellsR X.K H0' C' H' → Yields X.K J H0' P ds → Q ds P C' → R J H'
def WI (T : TX X) (tg iter : Expr) (ρ : Rho) (C : Cells) (Q : QI) : Prop := PI X tg iter (TIx T ρ C Q)
theorem PI.imp {tg e : Expr} {t t' : TI} (h : PI X tg e t) (i : ∀ σ H R, t' σ H R → t σ H R) : PI X tg e t' := ⟨fun pins s σ H R I q => h.run pins s σ H R I (i σ H R q)⟩
theorem yields_list {K : W.Frag} {H0 : Hp} {a : Addr} {vs : List V} {ds : List D} (hs : SqL K H0 a vs) (r : Reps K H0 ds vs) : Yields K (Itl K a) H0 (fun _ => True) ds where
  go := fun i H0' C H e c _ hi => ⟨vs, vs[i]'(by rw [← r.length]; exact hi), Same.sqL (e.trans c.same) hs, by simp⟩
  stop := fun i H0' C H e c _ hi => ⟨vs, Same.sqL (e.trans c.same) hs, by rw [← r.length]; exact hi⟩
  yld := fun i H0' C H x H' d e c _ hd ⟨e1, y⟩ => by
    subst e1
    refine ⟨H0', Stp.refl _ _ _, c, ?_⟩
    have := y vs (Same.sqL (e.trans c.same) hs)
    obtain ⟨v, h1, h2⟩ := r.get hd
    rw [this] at h1; cases h1
    exact h2.mono e
def ForW (T : TX X) (tg : Expr) (body : List Stmt) (P : Cells → Prop) (N : TEnds) : List D → Rho → Cells → Prop
  | [], ρ, C => P C ∧ N.nx ρ C
  | d :: r, ρ, C => P C ∧ WG T tg d ρ C fun ρ1 C1 => WSs T body ρ1 C1 { nx := ForW T tg body P N r, ct := ForW T tg body P N r, bk := N.nx, rt := N.rt }
theorem ForW.p {tg : Expr} {P : Cells → Prop} {ds : List D} (h : ForW T tg body P N ds ρ C) : P C := by
  cases ds with
  | nil => exact h.1
  | cons d r => exact h.1
theorem ws_for {tg iter : Expr} (hc : X.calm = true) (h : WI T tg iter ρ C fun ds P C1 => ForW T tg body P N ds ρ C1) (hs : ∀ x, foldedSetIterable iter X.env x = pure x := by intro _; rfl) : WS T (.For tg iter body [] pos) ρ C N := by
  refine PS.imp (ps_for T.pass hc h (pg_some T tg) (pss_some T body) hs) fun Dn σ H ⟨H0, at_, k⟩ => ⟨H0, at_, fun J ds P C1 H1 H01 p1 c1 y1 q1 => ?_⟩
  refine ⟨fun i m σ2 H2 => m = ds.length - i ∧ i ≤ ds.length ∧ ∃ ρ2 C2 H02, At T H02 ρ2 C2 σ2 H2 ∧ Stp H01 C1 H1 H02 C2 H2 ∧ ForW T tg body P N (ds.drop i) ρ2 C2, ⟨_, rfl, Nat.zero_le _, ρ, C1, H01, at_.step p1 c1, Stp.refl _ _ _, q1⟩, ?_⟩
  rintro i m σ2 H2 ⟨rfl, hi, ρ2, C2, H02, at2, p2, q2⟩
  have hP : P C2 := ForW.p q2
  by_cases hlt : i < ds.length
  · refine .inr ⟨y1.go i _ _ _ p2.base at2.c hP hlt, fun σ3 H3 => ∃ ρ3 C3 H03, At T H03 ρ3 C3 σ3 H3 ∧ Stp H01 C1 H1 H03 C3 H3 ∧ ForW T tg body P N (ds.drop (i + 1)) ρ3 C3, fun σ3 H3 ⟨ρ3, C3, H03, at3, p3, q3⟩ => ⟨_, by omega, rfl, hlt, ρ3, C3, H03, at3, p3, q3⟩, fun x H3 hy => ?_⟩
    obtain ⟨H03, p3, c3, r3⟩ := y1.yld i _ _ _ x H3 ds[i] p2.base at2.c hP (by simp [hlt]) hy
    rw [List.drop_eq_getElem_cons hlt] at q2
    have at3 := at2.step p3 c3
    refine ⟨ds[i], ρ2, C2, _, q2.2, H03, at3, r3, fun ρ4 σ4 C4 H4 H04 p4 c4 s4 l4 q4 => ⟨ρ4, C4, _, q4, H04, ⟨T.up at3.a at3.c p4 c4, c4, s4, l4⟩, ?_⟩⟩
    have at4 : At T H04 ρ4 C4 σ4 H4 := ⟨T.up at3.a at3.c p4 c4, c4, s4, l4⟩
    have p14 : Stp H01 C1 H1 H04 C4 H4 := (p2.trans at2.c p3).trans at3.c p4
    have again : ContS X H04 C4 H4 (ForW T tg body P N (ds.drop (i + 1))) fun σ3 H3 => ∃ ρ3 C3 H03, At T H03 ρ3 C3 σ3 H3 ∧ Stp H01 C1 H1 H03 C3 H3 ∧ ForW T tg body P N (ds.drop (i + 1)) ρ3 C3 :=
      fun ρ5 σ5 C5 H5 H05 p5 c5 s5 l5 q5 => ⟨ρ5, C5, H05, ⟨T.up at4.a at4.c p5 c5, c5, s5, l5⟩, p14.trans c4 p5, q5⟩
    have tail := (k.after p1 c1).after p14 c4
    exact ⟨again, tail.rt, tail.nx, again⟩
  · have e : i = ds.length := by omega
    subst e
    rw [List.drop_length] at q2
    exact .inl ⟨y1.stop _ _ _ _ p2.base at2.c hP (Nat.le_refl _), ContS.here ((k.after p1 c1).after p2 at2.c).nx at2 q2.2⟩

theorem ws_while {cond : Expr} (W : Nat → Rho → Cells → Prop) (m0 : Nat) (h0 : W m0 ρ C)
    (turn : ∀ m ρ C, W m ρ C → WT T cond ρ C fun k C1 => if k = true then WSs T body ρ C1 { nx := fun ρ' C' => ∃ m', m' < m ∧ W m' ρ' C', ct := fun ρ' C' => ∃ m', m' < m ∧ W m' ρ' C', bk := N.nx, rt := N.rt } else N.nx ρ C1) :
    WS T (.While cond body [] pos) ρ C N := by
  have hcond : PT X cond (fun σ H R => ∃ ρ C Q, WT T cond ρ C Q ∧ TTx T ρ C Q σ H R) := ⟨fun pins s σ H Q I ⟨ρ, C, q, h, t⟩ => h.run pins s σ H Q I t⟩
  refine PS.imp (ps_while T.pass hcond (pss_some T body)) fun Dn σ H ⟨H0, at_, k⟩ => ?_
  refine ⟨fun m σ2 H2 => ∃ ρ2 C2 H02, At T H02 ρ2 C2 σ2 H2 ∧ Stp H0 C H H02 C2 H2 ∧ W m ρ2 C2, ⟨m0, ρ, C, H0, at_, Stp.refl _ _ _, h0⟩, ?_⟩
  rintro m σ2 H2 ⟨ρ2, C2, H02, at2, p2, w2⟩
  refine ⟨ρ2, C2, _, turn m ρ2 C2 w2, H02, at2, fun b C3 H3 H03 p3 c3 q3 => ?_⟩
  have at3 := at2.step p3 c3
  have tail := (k.after p2 at2.c).after p3 c3
  cases b with
  | false => exact ContS.here tail.nx at3 q3
  | true =>
    refine ⟨fun σ4 H4 => ∃ m', m' < m ∧ ∃ ρ4 C4 H04, At T H04 ρ4 C4 σ4 H4 ∧ Stp H0 C H H04 C4 H4 ∧ W m' ρ4 C4, fun σ4 H4 ⟨m', hm, z⟩ => ⟨m', hm, z⟩, ρ2, C3, _, q3, H03, at3, ?_⟩
    have again : ContS X H03 C3 H3 (fun ρ' C' => ∃ m', m' < m ∧ W m' ρ' C') fun σ4 H4 => ∃ m', m' < m ∧ ∃ ρ4 C4 H04, At T H04 ρ4 C4 σ4 H4 ∧ Stp H0 C H H04 C4 H4 ∧ W m' ρ4 C4 :=
      fun ρ5 σ5 C5 H5 H05 p5 c5 s5 l5 ⟨m', hm, w5⟩ => ⟨m', hm, ρ5, C5, H05, ⟨T.up at3.a at3.c p5 c5, c5, s5, l5⟩, (p2.trans at2.c p3).trans at3.c p5, w5⟩
    exact ⟨again, tail.rt, tail.nx, again⟩
end
end Tr

set_option maxHeartbeats 2000000
namespace Tr
open PySem L2 PySem.Spec PyProof.Rows

abbrev QX := Value → XF → Cells → Prop
abbrev FS := List D → Cells → QE → QX → Prop
abbrev ContX (K : W.Frag) (H0 : Hp) (C : Cells) (H : Hp) (Qx : QX) (E : XK) : Prop := ∀ cls dd fs C' H' H0', Stp H0 C H H0' C' H' → CellsR K H0' C' H' → ExcR K H0' H' dd fs → Qx cls fs C' → E cls dd H'
abbrev ContK (K : W.Frag) (H0 : Hp) (C : Cells) (H : Hp) (Q : QE) (R : VK) : Prop := ∀ v d C' H' H0', Stp H0 C H H0' C' H' → CellsR K H0' C' H' → Rep K H0' d v → Q d C' → R v H'
def spT (K : W.Frag) (F : FS) : Sp := fun vs H R E => ∃ H0 ds C Q Qx, CellsR K H0 C H ∧ Reps K H0 ds vs ∧ F ds C Q Qx ∧ ContK K H0 C H Q R ∧ ContX K H0 C H Qx E
def rho0 (N : List Str) (ds : List D) : Rho := ds.map some ++ List.replicate (N.length - ds.length) none
theorem slots_start {K : W.Frag} {H0 : Hp} {N : List Str} {ds : List D} {vs : List V} (r : Reps K H0 ds vs) : SlotsR K H0 (rho0 N ds) (L2.start N vs) ∧ (rho0 N ds).length = (L2.start N vs).length := by
  have hl := r.length
  refine ⟨fun i d h => ?_, by simp [rho0, L2.start, hl]⟩
  unfold rho0 at h
  by_cases hi : i < ds.length
  · rw [List.getElem?_append_left (by simpa using hi), List.getElem?_map] at h
    cases e : ds[i]? with
    | none => rw [e] at h; cases h
    | some d' =>
      rw [e] at h; cases h
      obtain ⟨v, h1, h2⟩ := r.get e
      refine ⟨v, ?_, h2⟩
      unfold L2.start
      rw [List.getElem?_append_left (by simp [← hl, hi]), List.getElem?_map, h1]; rfl
  · rw [List.getElem?_append_right (by simpa using hi), List.getElem?_replicate] at h
    split at h <;> cases h

section
variable {P : Program} {w : World} {K : W.Frag} {mg : Str → Option Value} {base : Heap}
def bodyT {N : List Str} {qual : Str} {scope : Scope} {f : Addr} {cdv : Value} {A : Around} {outer : List Env} {s : Shared} {H : Hp} {E : XK} {H0 : Hp} {C : Cells} {Qx : QX} (hE : ContX K H0 C H Qx E) :
    TX (cxOf (L2.CX P w) P w K mg base N qual scope f cdv A outer s H E) where
  A := fun H0' C' H' => Stp H0 C H H0' C' H'
  up := fun a c p c' => a.trans c p
  XQ := fun cls fs _ C' => Qx cls fs C'
  tk := (takes_of (X := cxOf (L2.CX P w) P w K mg base N qual scope f cdv A outer s H E) rfl rfl rfl rfl).imp fun cls d σ H' ⟨fs, ρ, C', H0', a, c, _, _, x, q⟩ => hE cls d fs C' H' H0' a c x q
  pass := passes_of rfl
structure RoomG (k : Nat) (A : Around) : Prop where
  rm : Room k A
  gd : A.guards = some []
theorem RoomG.mono {j k : Nat} {A : Around} (r : RoomG k A) (h : j ≤ k) : RoomG j A := ⟨r.rm.mono h, r.gd⟩
theorem RoomG.deeper {k : Nat} {A : Around} (r : RoomG (k + 1) A) (env : Env) : RoomG k (A.deeper env) := ⟨r.rm.deeper env, r.gd⟩
theorem RoomG.make {k : Nat} {A : Around} (r : RoomG (k + 1) A) (C : Addr) (us : List Value) (kw : List (Str × Value)) : RoomG k (A.under (.builtin "type.__call__" ⟨.ref C :: us, kw⟩)) := by
  refine ⟨r.rm.make C us kw, ?_⟩
  show pushGuards (Code.guards (.builtin "type.__call__" ⟨.ref C :: us, kw⟩)) A.guards = some []
  have e : Code.guards (.builtin "type.__call__" ⟨.ref C :: us, kw⟩) = [] := by
    have n : guardIds.contains "type.__call__" = false := by decide
    unfold Code.guards Code.isGuard
    simp only [n, Bool.false_eq_true, if_false]
  rw [e]; exact r.gd
structure FnG (P : Program) (w : World) (K : W.Frag) (mg : Str → Option Value) (base : Heap) (k : Nat) (f : Addr) (fd : FuncData) (ps : List Str) (F : FS) : Prop where
  len : ∀ ds C Q Qx, F ds C Q Qx → ds.length = ps.length
  run : ∀ (A : Around) (outer : List Env) (s : Shared) (H : Hp) (args : Args) (us : List Value) (vs : List V) (R : VK) (E : XK), RoomG k A → Env0 P w K mg base A outer s H → BindsTo s fd args (ps.zip us) → Vals vs us → spT K F vs H R E →
    codeAny (model P w) A (.call (.ref f) args) (CR (L2.CX P w) outer P w H s R E) s
theorem FnG.mono {P : Program} {w : World} {K : W.Frag} {mg : Str → Option Value} {base : Heap} {j k : Nat} {f : Addr} {fd : FuncData} {ps : List Str} {F : FS} (h : FnG P w K mg base j f fd ps F) (e : j ≤ k) : FnG P w K mg base k f fd ps F :=
  ⟨h.len, fun A outer s H args us vs R E hr => h.run A outer s H args us vs R E (hr.mono e)⟩
theorem FnG.imp {P : Program} {w : World} {K : W.Frag} {mg : Str → Option Value} {base : Heap} {k : Nat} {f : Addr} {fd : FuncData} {ps : List Str} {F F' : FS} (h : FnG P w K mg base k f fd ps F) (i : ∀ ds C Q Qx, F' ds C Q Qx → F ds C Q Qx) : FnG P w K mg base k f fd ps F' :=
  ⟨fun ds C Q Qx z => h.len _ _ _ _ (i _ _ _ _ z), fun A outer s H args us vs R E hr e0 hb rv ⟨H0, ds, C, Q, Qx, c, r, z, k1, k2⟩ => h.run A outer s H args us vs R E hr e0 hb rv ⟨H0, ds, C, Q, Qx, c, r, i _ _ _ _ z, k1, k2⟩⟩
theorem fnT {x qual : Str} {params : Arguments} {body : List Stmt} {scope : Scope} {dvs : List V} {kws : List (Str × V)} {f : Addr} {fd : FuncData} {N ps : List Str} {k : Nat} {F : FS}
    (Fd : FunD K x qual params body scope dvs kws f fd) (S : FnScope N ps scope) (len : ∀ ds C Q Qx, F ds C Q Qx → ds.length = ps.length)
    (hbody : ∀ (cdv : Value) (A : Around) (outer : List Env) (s : Shared) (H : Hp) (E : XK) (T : TX (cxOf (L2.CX P w) P w K mg base N qual scope f cdv A outer s H E)) (ds : List D) (C : Cells) (Q : QE),
      RoomG k (cxOf (L2.CX P w) P w K mg base N qual scope f cdv A outer s H E).A → F ds C Q (fun cls fs C' => ∀ ρ, T.XQ cls fs ρ C') → WSs T body (rho0 N ds) C { nx := fun _ C' => Q .non C', rt := Q }) :
    FnG P w K mg base (k + 1) f fd ps F := by
  obtain ⟨oc, od, dV, kV, doc, pm, an, cdv, ct, osl, efd, lk, hcd, _, _⟩ := Fd.ex
  subst efd
  refine ⟨len, fun A outer s H args us vs R E hr e0 hb rv ⟨H0, ds, C, Q, Qx, c, r, h, kR, kE⟩ => ?_⟩
  have nvs : vs.length = ps.length := r.length.symm.trans (len _ _ _ _ h)
  have keepB := fun (b : Addr) (o : Obj) (e : base.get? b = some o) => (e0.bs b o e).1
  have inHeap := e0.mod.kin.keeps keepB
  have quiet := e0.mod.nolimit.keeps keepB
  have cellsOk : ∀ y ∈ ps.zip us, scope.names.lookup y.1 = some .local ∨ (scope.names.lookup y.1 = some .cell ∧ ((cellsFrom (s.heap.objs.size + 1) scope.names []).lookup y.1).isSome = true) := by
    rintro ⟨n, v⟩ hy
    exact (S.par n (List.of_mem_zip hy).1).imp id fun q => ⟨q, W.cellsFrom_some _ _ _ (.inl q)⟩
  refine codeAny_call_function hr.rm.depth (inHeap _ _ lk) rfl S.co S.gen rfl (W.codeRec_of inHeap hcd) (hb _ _ _ _ (wpAny_newFunctionEnv_cells S.kind cellsOk ?_))
  intro env he s1 entered
  subst he
  refine ⟨quiet.keeps entered.toInCall.keep, codeAny_func ?_⟩
  have I := inv_start (CX := L2.CX P w) (N := N) (E := E) (H := H) S hr.rm.hd e0 nvs rv entered
  obtain ⟨sl, ln⟩ := slots_start (N := N) r
  have hb2 := hbody cdv A outer s H E (bodyT kE) ds C Q (hr.deeper _) (by
    have same : (fun cls fs C' => ∀ ρ : Rho, (bodyT (P := P) (w := w) (K := K) (mg := mg) (base := base) (N := N) (qual := qual) (scope := scope) (f := f) (cdv := cdv) (A := A) (outer := outer) (s := s) kE).XQ cls fs ρ C') = Qx := by
      funext cls fs C'
      exact propext ⟨fun z => z [], fun z _ => z⟩
    rw [same]; exact h)
  have went := hb2.run [] s1 _ H { nx := fun _ H' => R .non H', rt := R } I ⟨H0, ⟨Stp.refl _ _ _, c, sl, ln⟩, ⟨fun _ _ C' H' H0' p c' _ _ q => kR .non .non C' H' H0' p c' rfl q, kR, fun _ _ _ _ _ _ _ _ _ q => False.elim q, fun _ _ _ _ _ _ _ _ _ q => False.elim q⟩⟩
  refine wpAny_mono went ?_ fun _ _ z => z
  rintro (_ | _ | _ | u) s' hs
  · obtain ⟨_, H', J, q⟩ := hs
    exact ⟨.non, H', J.os, J.bare, J.base, J.hok, rfl, q⟩
  · exact False.elim (let ⟨_, _, _, q⟩ := hs; q)
  · exact False.elim (let ⟨_, _, _, q⟩ := hs; q)
  · obtain ⟨v, _, H', J, rv', q⟩ := hs
    exact ⟨v, H', J.os, J.bare, J.base, J.hok, rv', q⟩
end

theorem CellsR.part {K : W.Frag} {H0 H : Hp} {C μ r : Cells} (c : CellsR K H0 C H) (p : C.Perm (μ ++ r)) : CellsR K H0 μ H :=
  ⟨c.same, fun a ⟨x, hx⟩ => c.free a ⟨x, p.mem_iff.mpr (List.mem_append_left _ hx)⟩, fun a x hx => c.ok a x (p.mem_iff.mpr (List.mem_append_left _ hx)),
    (List.nodup_append.mp (by have := (p.map (·.1)).nodup_iff.mp c.nd; rwa [List.map_append] at this)).1⟩
theorem CellsR.back {K : W.Frag} {H0 H H0' H' : Hp} {C μ r μ' : Cells} (c : CellsR K H0 C H) (p : C.Perm (μ ++ r)) (st : Stp H0 μ H H0' μ' H') (c' : CellsR K H0' μ' H') :
    Stp H0 C H H0' (μ' ++ r) H' ∧ CellsR K H0' (μ' ++ r) H' := by
  have nd := (p.map (·.1)).nodup_iff.mp c.nd
  rw [List.map_append, List.nodup_append] at nd
  have off : ∀ a, Dom r a → ¬ Dom μ a := fun a ⟨x, hx⟩ ⟨y, hy⟩ => nd.2.2 a (List.mem_map.mpr ⟨_, hy, rfl⟩) a (List.mem_map.mpr ⟨_, hx, rfl⟩) rfl
  have inC : ∀ a, Dom r a → Dom C a := fun a ⟨x, hx⟩ => ⟨x, p.mem_iff.mpr (List.mem_append_right _ hx)⟩
  have rest : ∀ a, Dom r a → H0' a = none ∧ ¬ Dom μ' a ∧ H' a = H a := fun a d => by
    obtain ⟨x, hx⟩ := id d
    have ne := (c.ok a x (p.mem_iff.mpr (List.mem_append_right _ hx))).some
    obtain ⟨q1, q2⟩ := st.own a ne (c.free a (inC a d)) (off a d)
    obtain ⟨o, ho⟩ := Option.ne_none_iff_exists'.mp ne
    exact ⟨q1, q2, by rw [ho]; exact st.fr a o ho (off a d)⟩
  have domC : ∀ a, Dom C a ↔ Dom μ a ∨ Dom r a := fun a => by
    constructor
    · rintro ⟨x, hx⟩
      rcases List.mem_append.mp (p.mem_iff.mp hx) with h | h
      · exact .inl ⟨x, h⟩
      · exact .inr ⟨x, h⟩
    · rintro (⟨x, hx⟩ | h)
      · exact ⟨x, p.mem_iff.mpr (List.mem_append_left _ hx)⟩
      · exact inC a h
  refine ⟨⟨st.base, fun a o h n => st.fr a o h fun d => n ((domC a).mpr (.inl d)), fun a h e n => ?_⟩, ⟨c'.same, fun a d => ?_, fun a x hx => ?_, ?_⟩⟩
  · obtain ⟨q1, q2⟩ := st.own a h e fun d => n ((domC a).mpr (.inl d))
    refine ⟨q1, fun ⟨x, hx⟩ => ?_⟩
    rcases List.mem_append.mp hx with hx | hx
    · exact q2 ⟨x, hx⟩
    · exact n ((domC a).mpr (.inr ⟨x, hx⟩))
  · obtain ⟨x, hx⟩ := d
    rcases List.mem_append.mp hx with hx | hx
    · exact c'.free a ⟨x, hx⟩
    · exact (rest a ⟨x, hx⟩).1
  · rcases List.mem_append.mp hx with hx | hx
    · exact c'.ok a x hx
    · exact (c.ok a x (p.mem_iff.mpr (List.mem_append_right _ hx))).mono st.base (rest a ⟨x, hx⟩).2.2
  · rw [List.map_append, List.nodup_append]
    refine ⟨c'.nd, nd.2.1, fun a ha b hb e => ?_⟩
    subst e
    obtain ⟨⟨a1, x⟩, h1, h2⟩ := List.mem_map.mp ha
    obtain ⟨⟨a2, y⟩, h3, h4⟩ := List.mem_map.mp hb
    simp only at h2 h4
    subst h2; subst h4
    exact (rest _ ⟨y, h3⟩).2.1 ⟨x, h1⟩

section
variable {X : Cx} {T : TX X} {ρ : Rho} {C : Cells} {Q : QE} {e a b o : Expr} {pos p apos : Pos} {es : List Expr} {k : Nat} {f Cl : Addr} {fd : FuncData} {ps : List Str} {F : FS} {dvs : List V} {dds : List D} {dus : List Value} {x m : Str}
def Asks (T : TX X) (F : FS) (ρ : Rho) (ds : List D) (C : Cells) (Q : QE) : Prop :=
  ∃ μ r, C.Perm (μ ++ r) ∧ F ds μ (fun d μ' => Q d (μ' ++ r)) fun cls fs μ' => T.XQ cls fs ρ (μ' ++ r)
theorem asks_sp {H0 H : Hp} {ds : List D} {vs : List V} {R : VK} {σ : L2.St} (h : Asks T F ρ ds C Q) (at_ : At T H0 ρ C σ H) (r : Reps X.K H0 ds vs) (k : Cont X H0 C H Q R) :
    spT X.K F vs H R (L2.WE (fun cls d σ H => ∃ fs ρ C H0, T.A H0 C H ∧ CellsR X.K H0 C H ∧ SlotsR X.K H0 ρ σ ∧ ρ.length = σ.length ∧ ExcR X.K H0 H d fs ∧ T.XQ cls fs ρ C) σ) := by
  obtain ⟨μ, rr, pm, h⟩ := h
  refine ⟨H0, ds, μ, _, _, at_.c.part pm, r, h, fun v d C' H' H0' p c r' q => ?_, fun cls dd fs C' H' H0' p c x q => ?_⟩
  · obtain ⟨p2, c2⟩ := at_.c.back pm p c
    exact k v d _ H' H0' p2 c2 r' q
  · obtain ⟨p2, c2⟩ := at_.c.back pm p c
    have a2 := at_.step p2 c2
    exact ⟨fs, ρ, _, H0', a2.a, a2.c, a2.s, a2.l, x, q⟩
theorem run_T {pins : List (Addr × Obj)} {σ : L2.St} {H H0 : Hp} {s : Shared} {R : VK} {us : List Value} {vs : List V} {ds : List D} (Fk : FnG X.prog X.w X.K X.mg X.base k f fd ps F) (hr : RoomG k X.A) (hb : Binds X.K fd ps dus) (hd : Vals dvs dus) (hdd : ∀ H, Reps X.K H dds dvs)
    (I : Inv X pins σ H s) (rv : Vals vs us) (at_ : At T H0 ρ C σ H) (r : Reps X.K H0 ds vs) (h : Asks T F ρ (ds ++ dds) C Q) (k : Cont X H0 C H Q R) : wpAny (model X.prog X.w) X.A (call (.ref f) us) (EP X pins σ R) X.xe s := by
  have all := asks_sp h at_ (r.append (hdd H0)) k
  have nlen : (us ++ dus).length = ps.length := by
    obtain ⟨_, ds', _, _, _, _, r', h', _⟩ := id all
    rw [← (rv.append hd).length, ← r'.length]
    exact Fk.len _ _ _ _ h'
  have went := Fk.run X.A X.stack s H ⟨us, []⟩ (us ++ dus) (vs ++ dvs) R _ hr I.env0 (hb s us I.kIn nlen) (rv.append hd) all
  refine wpAny_call (codeAny_mono went ?_)
  rintro (e | (_ | _ | _ | u)) s' hq
  · exact passAt T.tk σ pins H s e s' I hq
  · exact False.elim hq
  · exact False.elim hq
  · exact False.elim hq
  · exact I.after hq
theorem we_call (Fk : FnG X.prog X.w X.K X.mg X.base k f fd ps F) (hr : RoomG k X.A) (hg : Gl X x) (hm : X.mg x = some (.ref f)) (hk : W.keepIn X.K (.ref f) = true) (hb : Binds X.K fd ps dus) (hd : Vals dvs dus) (hdd : ∀ H, Reps X.K H dds dvs)
    (h : WA T (a :: es) ρ C fun ds C1 => Asks T F ρ (ds ++ dds) C1 Q) (hdb : (x == ("__debug__" : Str)) = false := by decide) (he : starEach (a :: es) X.env = (false, eval a X.env) :: starEach es X.env := by rfl) (hpl : (backTo pos (starEach es X.env)).any (·.1) = false := by rfl) :
    WE T (.Call (.Name x p) (a :: es) [] pos) ρ C Q := by
  refine ⟨fun pins s σ H R I ⟨H0, at_, k⟩ => wpAny_Call_Name_kw (ld_glob I hg hm (W.callWith_K (h₀ := X.base) I.ok.mod.kin hk ?_ he hpl) hdb)⟩
  refine thn (h.run pos pins s σ H (fun vs H1 => ∃ ds C1 H01, At T H01 ρ C1 σ H1 ∧ Cont X H01 C1 H1 Q R ∧ Reps X.K H01 ds vs ∧ Asks T F ρ (ds ++ dds) C1 Q) I ⟨H0, at_, fun vs ds C1 H1 H01 p1 c1 r1 q1 => ⟨ds, C1, H01, at_.step p1 c1, k.after p1 c1 fun _ _ z => z, r1, q1⟩⟩) ?_
  exact fun us s1 ⟨vs, H1, I1, rv, ds, C1, H01, at1, k1, r1, q1⟩ => ⟨I1.kIn, run_T Fk hr hb hd hdd I1 rv at1 r1 q1 k1⟩
def InsD (C : Cells) (d : D) (Cl : Addr) (ns : List Str) (ds : List D) : Prop := d = .ins Cl ns ds ∨ ∃ a, d = .raw (.ref a) ∧ (a, Cell.ins Cl ns ds) ∈ C
theorem ins_at {H0 H : Hp} {d : D} {v : V} {ns : List Str} {ds : List D} (c : CellsR X.K H0 C H) (r : Rep X.K H0 d v) (h : InsD C d Cl ns ds) : ∃ a dx vs, v = .ref a ∧ H a = some (.ins Cl dx (ns.zip vs)) ∧ ns.length = vs.length ∧ Reps X.K H0 ds vs := by
  rcases h with rfl | ⟨a, rfl, hm⟩
  · obtain ⟨a, dx, vs, h1, h2, h3, h4⟩ := r
    exact ⟨a, dx, vs, h1, c.same _ _ h2, h3, h4⟩
  · obtain ⟨dx, vs, h2, h3, h4⟩ := c.ok a _ hm
    exact ⟨a, dx, vs, r, h2, h3, h4⟩
theorem lookup_zip {K : W.Frag} {H0 : Hp} {f : Str} {d : D} : ∀ {ns : List Str} {ds : List D} {vs : List V}, Reps K H0 ds vs → ns.length = vs.length → (ns.zip ds).lookup f = some d → ∃ v, (ns.zip vs).lookup f = some v ∧ Rep K H0 d v
  | [], _, _, _, _, h => by simp at h
  | n :: ns, [], _, _, _, h => by simp at h
  | n :: ns, d0 :: ds, vs, ⟨v, r, h1, h2, h3⟩, hl, h => by
    subst h1
    rw [List.zip_cons_cons, List.lookup_cons] at h ⊢
    cases e : f == n with
    | true => rw [e] at h; cases h; exact ⟨v, rfl, h2⟩
    | false => rw [e] at h; exact lookup_zip h3 (by simpa using hl) h
theorem lookup_zip_none {f : Str} : ∀ {ns : List Str} {vs : List V}, ns.contains f = false → (ns.zip vs).lookup f = none
  | [], _, _ => by simp
  | n :: ns, [], _ => by simp
  | n :: ns, v :: vs, h => by
    rw [List.contains_cons, Bool.or_eq_false_iff] at h
    rw [List.zip_cons_cons, List.lookup_cons, h.1]
    exact lookup_zip_none h.2
theorem we_fld (hb : attributeBase e m X.env (eval e X.env) = eval e X.env) (h : WE T e ρ C fun d C1 => ∃ Cl ns ds d', InsD C1 d Cl ns ds ∧ Cls X.K Cl ∧ NoAttr X.K Cl m ∧ (ns.zip ds).lookup m = some d' ∧ Q d' C1) : WE T (.Attribute e m pos) ρ C Q :=
  PE.imp (pe_fld h hb) fun σ H R ⟨H0, at_, k⟩ => ⟨H0, at_, fun v d C1 H1 H01 p1 c1 r1 ⟨Cl, ns, ds, d', hi, hc, hn, hl, q⟩ => by
    obtain ⟨a, dx, vs, e1, e2, e3, e4⟩ := ins_at c1 r1 hi
    obtain ⟨v', g1, g2⟩ := lookup_zip e4 e3 hl
    exact ⟨a, Cl, dx, _, v', e1, e2, hc, hn, g1, k _ d' C1 H1 H01 p1 c1 g2 q⟩⟩
theorem meth_T {pins : List (Addr × Obj)} {σ : L2.St} {H H0 : Hp} {s : Shared} {R : Value × List Value → Shared → Prop} {E : Value → Shared → Prop} {pl : Sem Bool} {g : Addr} {d : D} {v : V} {u : Value} {ns : List Str} {fds : List D} (c : Cls X.K Cl) (hm : Meth X.K Cl m g) (I : Inv X pins σ H s) (rv : RelV v u) (cr : CellsR X.K H0 C H) (r : Rep X.K H0 d v)
    (hi : InsD C d Cl ns fds) (hno : ns.contains m = false) (q : ∀ ad, u = .ref ad → v = .ref ad → R (.ref g, [.ref ad]) s) : wpAny (model X.prog X.w) X.A (getMethod u m pl) R E s := by
  obtain ⟨ad, dx, vs, e1, e2, e3, e4⟩ := ins_at cr r hi
  subst e1
  obtain rfl : u = Value.ref ad := rv
  exact getmeth_ok I e2 c hm (lookup_zip_none hno) (q ad rfl rfl)
theorem we_meth {pl : Sem Bool} {g : Addr} (c : Cls X.K Cl) (hm : Meth X.K Cl m g) (Fk : FnG X.prog X.w X.K X.mg X.base k g fd ps F) (hr : RoomG k X.A) (hb : Binds X.K fd ps dus) (hd : Vals dvs dus) (hdd : ∀ H, Reps X.K H dds dvs)
    (h : WE T o ρ C fun d C1 => ∃ ns fds, InsD C1 d Cl ns fds ∧ ns.contains m = false ∧ WA T (a :: es) ρ C1 fun ds C2 => Asks T F ρ (d :: (ds ++ dds)) C2 Q)
    (hst : starEach (a :: es) X.env = (false, eval a X.env) :: starEach es X.env := by rfl) (hpl : (backTo pos (starEach es X.env)).any (·.1) = false := by rfl)
    (ht : eval (.Call (.Attribute o m apos) (a :: es) [] pos) X.env = (do
      let ov ← eval o X.env
      standAt apos.atName
      let (f, first) ← holding [ov] (getMethod ov m pl)
      callWith pos f first (backTo pos (starEach (a :: es) X.env)) (backToKw pos (keywordEach [] X.env))) := by rfl) :
    WE T (.Call (.Attribute o m apos) (a :: es) [] pos) ρ C Q := by
  refine ⟨fun pins s σ H R I ⟨H0, at_, k⟩ => W.methodCall_KW (pl := pl) ?_ ht⟩
  refine thn (h.run pins s σ H (fun v H1 => ∃ d C1 H01 ns fds, At T H01 ρ C1 σ H1 ∧ Cont X H01 C1 H1 Q R ∧ Rep X.K H01 d v ∧ InsD C1 d Cl ns fds ∧ ns.contains m = false ∧ WA T (a :: es) ρ C1 fun ds C2 => Asks T F ρ (d :: (ds ++ dds)) C2 Q) I
    ⟨H0, at_, fun v d C1 H1 H01 p1 c1 r1 ⟨ns, fds, hi, hno, q⟩ => ⟨d, C1, H01, ns, fds, at_.step p1 c1, k.after p1 c1 fun _ _ z => z, r1, hi, hno, q⟩⟩) ?_
  rintro u s1 ⟨v, H1, I1, rv, d, C1, H01, ns, fds, at1, k1, r1, hi, hno, hw⟩
  refine meth_T c hm I1 rv at1.c r1 hi hno fun ad eu ev => ?_
  subst ev
  refine W.callWith_K (first := [.ref ad]) (h₀ := X.base) I1.ok.mod.kin hm.kp (thn (hw.run pos pins s1 σ H1 (fun vs H2 => ∃ ds C2 H02, At T H02 ρ C2 σ H2 ∧ Cont X H02 C2 H2 Q R ∧ Rep X.K H02 d (.ref ad) ∧ Reps X.K H02 ds vs ∧ Asks T F ρ (d :: (ds ++ dds)) C2 Q) I1
    ⟨H01, at1, fun vs ds C2 H2 H02 p2 c2 r2 q2 => ⟨ds, C2, H02, at1.step p2 c2, k1.after p2 c2 fun _ _ z => z, r1.mono p2.base, r2, q2⟩⟩) ?_) hst hpl
  rintro us s2 ⟨vs, H2, I2, rvs, ds, C2, H02, at2, k2, rd, rds, q2⟩
  exact ⟨I2.kIn, run_T (us := .ref ad :: us) (vs := .ref ad :: vs) (ds := d :: ds) Fk hr hb hd hdd I2 (.cons rfl rvs) at2 (Reps.cons rd rds) q2 k2⟩
end
end Tr

set_option maxHeartbeats 2000000
namespace Tr
open PySem L2 PySem.Spec PyProof.Rows

section
variable {X : Cx} {T : TX X} {ρ : Rho} {C : Cells} {Q : QE} {e a b o : Expr} {pos p apos : Pos} {es : List Expr} {k : Nat} {f Cl : Addr} {fd : FuncData} {ps : List Str} {F : FS} {dvs : List V} {dds : List D} {dus : List Value} {x m : Str}
def AsksM (T : TX X) (F : FS) (Cl : Addr) (ρ : Rho) (ds : List D) (C : Cells) (Q : QE) : Prop :=
  ∃ μ r, C.Perm (μ ++ r) ∧ ∀ z, F (.raw (.ref z) :: ds) ((z, .ins Cl [] []) :: μ) (fun d μ' => d = .non ∧ Q (.raw (.ref z)) (μ' ++ r)) fun cls fs μ' => T.XQ cls fs ρ (μ' ++ r)
theorem stp_made {K : W.Frag} {H0 H : Hp} {C : Cells} {z dz Cl : Addr} (c : CellsR K H0 C H) (hz : H z = none) (hdz : H dz = none) (ne : dz ≠ z) :
    Stp H0 C H (upd H0 dz (.own z)) ((z, .ins Cl [] []) :: C) (upd (upd H dz (.own z)) z (.ins Cl dz [])) ∧ CellsR K (upd H0 dz (.own z)) ((z, .ins Cl [] []) :: C) (upd (upd H dz (.own z)) z (.ins Cl dz [])) := by
  obtain ⟨p1, c1⟩ := stp_new (o := .own z) c hdz
  have hz1 : (upd H dz (.own z)) z = none := by rw [upd_ne (Ne.symm ne)]; exact hz
  obtain ⟨p2, c2⟩ := stp_cell (o := .ins Cl dz []) (c := .ins Cl [] []) c1 hz1 ⟨dz, [], by rw [upd_same]; rfl, rfl, Reps.nil⟩
  exact ⟨p1.trans c1 p2, c2⟩
theorem asksM_sp {H0 H : Hp} {ds : List D} {vs : List V} {R : VK} {σ : L2.St} (h : AsksM T F Cl ρ ds C Q) (at_ : At T H0 ρ C σ H) (r : Reps X.K H0 ds vs) (k : Cont X H0 C H Q R) {z dz : Addr} (hz : H z = none) (hdz : H dz = none) (ne : dz ≠ z) :
    spT X.K F (.ref z :: vs) (upd (upd H dz (.own z)) z (.ins Cl dz [])) (fun v H2 => v = .non ∧ R (.ref z) H2) (L2.WE (fun cls d σ H => ∃ fs ρ C H0, T.A H0 C H ∧ CellsR X.K H0 C H ∧ SlotsR X.K H0 ρ σ ∧ ρ.length = σ.length ∧ ExcR X.K H0 H d fs ∧ T.XQ cls fs ρ C) σ) := by
  obtain ⟨μ, rr, pm, h⟩ := h
  obtain ⟨p1, c1⟩ := stp_made (Cl := Cl) at_.c hz hdz ne
  have at1 := at_.step p1 c1
  have pm1 : ((z, Cell.ins Cl [] []) :: C).Perm (((z, Cell.ins Cl [] []) :: μ) ++ rr) := by rw [List.cons_append]; exact pm.cons _
  refine ⟨upd H0 dz (.own z), .raw (.ref z) :: ds, (z, .ins Cl [] []) :: μ, _, _, c1.part pm1, Reps.cons rfl (r.mono p1.base), h z, fun v d C' H' H0' p c r' ⟨q1, q2⟩ => ?_, fun cls dd fs C' H' H0' p c xr q => ?_⟩
  · subst q1
    obtain ⟨p2, c2⟩ := c1.back pm1 p c
    exact ⟨r', k (.ref z) (.raw (.ref z)) _ H' H0' (p1.trans c1 p2) c2 rfl q2⟩
  · obtain ⟨p2, c2⟩ := c1.back pm1 p c
    have a3 := at_.step (p1.trans c1 p2) c2
    exact ⟨fs, ρ, _, H0', a3.a, a3.c, a3.s, a3.l, xr, q⟩
theorem run_makeT {pins : List (Addr × Obj)} {σ : L2.St} {H H0 : Hp} {s : Shared} {R : VK} {us : List Value} {vs : List V} {ds : List D} (M : Mk X.K Cl f) (Fk : FnG X.prog X.w X.K X.mg X.base k f fd ps F) (hr : RoomG (k + 1) X.A) (hb : Binds X.K fd ps dus) (hd : Vals dvs dus) (hdd : ∀ H, Reps X.K H dds dvs)
    (I : Inv X pins σ H s) (rv : Vals vs us) (at_ : At T H0 ρ C σ H) (r : Reps X.K H0 ds vs) (h : AsksM T F Cl ρ (ds ++ dds) C Q) (k : Cont X H0 C H Q R) : wpAny (model X.prog X.w) X.A (call (.ref Cl) us) (EP X pins σ R) X.xe s := by
  have J := Inv.made (C := Cl) I
  have all := asksM_sp h at_ (r.append (hdd H0)) k (z := s.heap.objs.size + 1) (dz := s.heap.objs.size) (I.hok.fresh (Nat.le_succ _)) (I.hok.fresh (Nat.le_refl _)) (Nat.ne_of_lt (Nat.lt_succ_self _))
  have rall : Vals (V.ref (s.heap.objs.size + 1) :: (vs ++ dvs)) (Value.ref (s.heap.objs.size + 1) :: (us ++ dus)) := .cons rfl (rv.append hd)
  have nlen : ((Value.ref (s.heap.objs.size + 1) :: us) ++ dus).length = ps.length := by
    obtain ⟨_, ds', _, _, _, _, r', h', _⟩ := id all
    have e1 := Fk.len _ _ _ _ h'
    rw [r'.length, rall.length] at e1
    exact e1
  have went := Fk.run _ X.stack _ _ ⟨Value.ref (s.heap.objs.size + 1) :: us, []⟩ _ _ _ _ (hr.make Cl us []) (J.env0.make Cl us []) (hb _ (Value.ref (s.heap.objs.size + 1) :: us) J.kIn nlen) rall all
  refine wpAny_call (make_map (f := f) I.kIn M.makes M.init (beq_iff_eq.mp M.fn) (codeAny_mono went ?_))
  rintro (e | (_ | _ | _ | u)) s' hq
  · exact passAt T.tk σ pins _ _ e s' J hq
  · exact False.elim hq
  · exact False.elim hq
  · exact False.elim hq
  · obtain ⟨v, H', I', rv', ev, q⟩ := J.after hq
    subst ev
    exact ⟨rv', .ref (s.heap.objs.size + 1), H', I', rfl, q⟩
theorem we_make (M : Mk X.K Cl f) (Fk : FnG X.prog X.w X.K X.mg X.base k f fd ps F) (hr : RoomG (k + 1) X.A) (hg : Gl X x) (hm : X.mg x = some (.ref Cl)) (hb : Binds X.K fd ps dus) (hd : Vals dvs dus) (hdd : ∀ H, Reps X.K H dds dvs)
    (h : WA T (a :: es) ρ C fun ds C1 => AsksM T F Cl ρ (ds ++ dds) C1 Q) (hdb : (x == ("__debug__" : Str)) = false := by decide) (he : starEach (a :: es) X.env = (false, eval a X.env) :: starEach es X.env := by rfl) (hpl : (backTo pos (starEach es X.env)).any (·.1) = false := by rfl) :
    WE T (.Call (.Name x p) (a :: es) [] pos) ρ C Q := by
  refine ⟨fun pins s σ H R I ⟨H0, at_, k⟩ => wpAny_Call_Name_kw (ld_glob I hg hm (W.callWith_K (h₀ := X.base) I.ok.mod.kin M.kp ?_ he hpl) hdb)⟩
  refine thn (h.run pos pins s σ H (fun vs H1 => ∃ ds C1 H01, At T H01 ρ C1 σ H1 ∧ Cont X H01 C1 H1 Q R ∧ Reps X.K H01 ds vs ∧ AsksM T F Cl ρ (ds ++ dds) C1 Q) I
    ⟨H0, at_, fun vs ds C1 H1 H01 p1 c1 r1 q1 => ⟨ds, C1, H01, at_.step p1 c1, k.after p1 c1 fun _ _ z => z, r1, q1⟩⟩) ?_
  exact fun us s1 ⟨vs, H1, I1, rv, ds, C1, H01, at1, k1, r1, q1⟩ => ⟨I1.kIn, run_makeT M Fk hr hb hd hdd I1 rv at1 r1 q1 k1⟩
def Cell.toD : Cell → D
  | .lst ds => .lst ds
  | .dK ks ds => .dic ks ds
  | .ins Cl ns ds => .ins Cl ns ds
theorem stp_freeze {K : W.Frag} {H0 H : Hp} {C : Cells} {i : Nat} {z : Addr} {c : Cell} (r : CellsR K H0 C H) (hi : C[i]? = some (z, c)) :
    ∃ o, H z = some o ∧ Stp H0 C H (upd H0 z o) (C.eraseIdx i) H ∧ CellsR K (upd H0 z o) (C.eraseIdx i) H ∧ Rep K (upd H0 z o) c.toD (.ref z) := by
  have hm : (z, c) ∈ C := List.mem_iff_getElem?.mpr ⟨i, hi⟩
  have ok := r.ok z c hm
  obtain ⟨o, ho⟩ := Option.ne_none_iff_exists'.mp ok.some
  have n0 := r.free z ⟨c, hm⟩
  have s0 : Same H0 (upd H0 z o) := fun a u h => by rw [upd_ne (ne_of_none h n0)]; exact h
  have er : ∀ a x, (a, x) ∈ C.eraseIdx i → (a, x) ∈ C ∧ a ≠ z := fun a x h => by
    have h' := List.mem_of_mem_eraseIdx h
    refine ⟨h', fun e => ?_⟩
    subst e
    obtain ⟨j, hj⟩ := List.mem_iff_getElem?.mp h
    rw [List.getElem?_eraseIdx] at hj
    have nd := r.nd
    have key : ∀ j', C[j']? = some (a, x) → j' = i := fun j' hj' => by
      have h1 : (C.map (·.1))[i]? = some a := by rw [List.getElem?_map, hi]; rfl
      have h2 : (C.map (·.1))[j']? = some a := by rw [List.getElem?_map, hj']; rfl
      obtain ⟨l1, e1⟩ := List.getElem?_eq_some_iff.mp h1
      obtain ⟨l2, e2⟩ := List.getElem?_eq_some_iff.mp h2
      exact ((List.getElem_inj nd).mp (e1.trans e2.symm)).symm
    split at hj
    · have := key _ hj; omega
    · have := key _ hj; omega
  refine ⟨o, ho, ⟨s0, fun a u h _ => h, fun a h e n => ⟨?_, fun ⟨x, hx⟩ => n ⟨x, (er a x hx).1⟩⟩⟩, ⟨fun a u h => ?_, fun a ⟨x, hx⟩ => ?_, fun a x hx => (r.ok a x (er a x hx).1).mono s0 rfl, ?_⟩, ?_⟩
  · rw [upd_ne (show a ≠ z from fun q => n ⟨c, by rw [q]; exact hm⟩)]; exact e
  · by_cases q : a = z
    · subst q; rw [upd_same] at h; cases h; exact ho
    · rw [upd_ne q] at h; exact r.same a u h
  · rw [upd_ne (er a x hx).2]; exact r.free a ⟨x, (er a x hx).1⟩
  · exact r.nd.sublist ((List.eraseIdx_sublist _ _).map _)
  · cases c with
    | lst ds =>
      obtain ⟨vs, q1, q2⟩ := ok
      rw [ho] at q1; cases q1
      exact ⟨z, vs, rfl, .inl (.inl upd_same), q2.mono s0⟩
    | dK ks ds =>
      obtain ⟨vs, q1, q3, q2⟩ := ok
      rw [ho] at q1; cases q1
      exact ⟨z, vs, rfl, .inl upd_same, q3, q2.mono s0⟩
    | ins Cl ns ds =>
      obtain ⟨dx, vs, q1, q3, q2⟩ := ok
      rw [ho] at q1; cases q1
      exact ⟨z, dx, vs, rfl, upd_same, q3, q2.mono s0⟩
theorem we_frz (h : WE T e ρ C fun d C1 => ∃ (i : Nat) (z : Addr) (c : Cell), d = .raw (.ref z) ∧ C1[i]? = some (z, c) ∧ Q c.toD (C1.eraseIdx i)) : WE T e ρ C Q :=
  PE.imp h fun σ H R ⟨H0, at_, k⟩ => ⟨H0, at_, fun v d C1 H1 H01 p1 c1 r1 ⟨i, z, c, e1, hi, q⟩ => by
    subst e1
    obtain rfl : v = .ref z := r1
    obtain ⟨o, ho, p2, c2, r2⟩ := stp_freeze c1 hi
    exact k _ _ _ H1 _ (p1.trans c1 p2) c2 r2 q⟩
theorem wss_frz {N : TEnds} {st : List Stmt} (j i : Nat) {z : Addr} {c : Cell} (hj : ρ[j]? = some (some (.raw (.ref z)))) (hi : C[i]? = some (z, c)) (h : WSs T st (ρ.set j (some c.toD)) (C.eraseIdx i) N) : WSs T st ρ C N :=
  PSs.imp h fun Dn σ H ⟨H0, at_, k⟩ => by
    obtain ⟨o, ho, p2, c2, r2⟩ := stp_freeze at_.c hi
    have at2 := at_.step p2 c2
    obtain ⟨v, hv, rv⟩ := at_.s j _ hj
    obtain rfl : v = .ref z := rv
    refine ⟨_, ⟨at2.a, at2.c, fun i' d hd => ?_, by rw [List.length_set]; exact at2.l⟩, k.after p2 c2⟩
    rw [List.getElem?_set] at hd
    split at hd
    · rename_i e; subst e
      split at hd
      · cases hd; exact ⟨_, hv, r2⟩
      · cases hd
    · exact at2.s i' d hd


def putN (f : Str) (d : D) : List Str → List D → List Str × List D
  | n :: ns, x :: ds => if n = f then (n :: ns, d :: ds) else (n :: (putN f d ns ds).1, x :: (putN f d ns ds).2)
  | _, _ => ([f], [d])
theorem reps_put {K : W.Frag} {H0 : Hp} {f : Str} {d : D} {v : V} (r : Rep K H0 d v) : ∀ {ns : List Str} {ds : List D} {vs : List V}, Reps K H0 ds vs → ns.length = vs.length →
    ∃ vs', putF f v (ns.zip vs) = (putN f d ns ds).1.zip vs' ∧ (putN f d ns ds).1.length = vs'.length ∧ Reps K H0 (putN f d ns ds).2 vs'
  | [], ds, vs, h, hl => by
    cases vs with
    | nil => cases ds with
      | nil => exact ⟨[v], rfl, rfl, Reps.cons r Reps.nil⟩
      | cons d0 ds => obtain ⟨_, _, q, _⟩ := h; cases q
    | cons v0 vs => cases hl
  | n :: ns, [], vs, h, hl => by cases h; cases hl
  | n :: ns, d0 :: ds, vs, ⟨v0, vr, h1, h2, h3⟩, hl => by
    subst h1
    rw [List.zip_cons_cons]
    unfold putN
    by_cases e : n = f
    · subst e
      rw [if_pos rfl]
      exact ⟨v :: vr, by unfold putF; rw [if_pos rfl]; rfl, by simpa using hl, Reps.cons r h3⟩
    · rw [if_neg e]
      obtain ⟨vs', q1, q2, q3⟩ := reps_put r h3 (by simpa using hl)
      exact ⟨v0 :: vs', by unfold putF; rw [if_neg e, q1]; rfl, by simp [q2], Reps.cons h2 q3⟩
end
end Tr

set_option maxHeartbeats 2000000
namespace Tr
open PySem L2 PySem.Spec PyProof.Rows

section
variable {X : Cx} {T : TX X} {ρ : Rho} {C : Cells} {Q : QE} {e a b o : Expr} {pos p apos cpos : Pos} {es : List Expr} {d d1 d2 : D} {ds ds2 : List D}

def LstD (C : Cells) (d : D) (ds : List D) : Prop := d = .lst ds ∨ ∃ a, d = .raw (.ref a) ∧ (a, Cell.lst ds) ∈ C
def SeqD (C : Cells) (d : D) (ds : List D) : Prop := LstD C d ds ∨ d = .tup ds
theorem LstD.l : LstD C (.lst ds) ds := .inl rfl
theorem LstD.c {i : Nat} {a : Addr} (h : C[i]? = some (a, .lst ds)) : LstD C (.raw (.ref a)) ds := .inr ⟨a, rfl, List.mem_iff_getElem?.mpr ⟨i, h⟩⟩
theorem SeqD.l : SeqD C (.lst ds) ds := .inl (.inl rfl)
theorem SeqD.t : SeqD C (.tup ds) ds := .inr rfl
theorem SeqD.c {i : Nat} {a : Addr} (h : C[i]? = some (a, .lst ds)) : SeqD C (.raw (.ref a)) ds := .inl (.c h)
theorem lst_at {K : W.Frag} {H0 H : Hp} {v : V} (c : CellsR K H0 C H) (r : Rep K H0 d v) (h : LstD C d ds) : ∃ a vs, v = .ref a ∧ SqL K H a vs ∧ Reps K H0 ds vs := by
  rcases h with rfl | ⟨a, rfl, hm⟩
  · obtain ⟨a, vs, h1, h2, h3⟩ := r
    exact ⟨a, vs, h1, Same.sqL c.same h2, h3⟩
  · obtain ⟨vs, h1, h2⟩ := c.ok a _ hm
    exact ⟨a, vs, r, .inl (.inl h1), h2⟩
theorem tup_at {K : W.Frag} {H0 H : Hp} {v : V} (c : CellsR K H0 C H) (r : Rep K H0 (.tup ds) v) : ∃ a vs, v = .ref a ∧ SqT K H a vs ∧ Reps K H0 ds vs := by
  obtain ⟨a, vs, h1, h2, h3⟩ := r
  exact ⟨a, vs, h1, Same.sqT c.same h2, h3⟩
theorem cw_len (h : SeqD C d ds) (q : Q (.int ds.length) C) : CW T (.builtin "len") [d] C Q :=
  cw_look (d := .int ds.length) call_len_seq (fun xs H H0 c r => by
    obtain ⟨v, e1, r1⟩ := r.one
    subst e1
    rcases h with h | h
    · obtain ⟨a, vs, e2, h2, h3⟩ := lst_at c r1 h
      subst e2
      exact ⟨.int ds.length, rfl, fun R k => ⟨a, vs, rfl, .inl h2, by rw [← h3.length]; exact k⟩⟩
    · subst h
      obtain ⟨a, vs, e2, h2, h3⟩ := tup_at c r1
      subst e2
      exact ⟨.int ds.length, rfl, fun R k => ⟨a, vs, rfl, .inr h2, by rw [← h3.length]; exact k⟩⟩) q
theorem cw_len_str {s : Str} (h : s.length ≤ 100000) (q : Q (.int s.length) C) : CW T (.builtin "len") [.str s] C Q :=
  cw_look (d := .int s.length) call_len_str (fun xs H H0 c r => by
    obtain ⟨v, e1, r1⟩ := r.one
    cases r1; subst e1
    exact ⟨.int s.length, rfl, fun R k => ⟨s, rfl, Nat.le_trans h (by decide), k⟩⟩) q
theorem cw_list (h : SeqD C d ds) (q : Q (.lst ds) C) : CW T (.type "list") [d] C Q :=
  CallR.imp call_list_of fun xs H R ⟨H0, c, r, k⟩ => by
    obtain ⟨v, e1, r1⟩ := r.one
    subst e1
    have fin : ∀ (vs : List V), Reps X.K H0 ds vs → ∀ l, H l = none → R (.ref l) (upd H l (.lst vs)) := fun vs h3 l hl => by
      obtain ⟨p2, c2⟩ := stp_new (o := .lst vs) c hl
      exact k _ (.lst ds) C _ _ p2 c2 ⟨l, vs, rfl, .inl (.inl upd_same), h3.mono p2.base⟩ q
    rcases h with h | h
    · obtain ⟨a, vs, e2, h2, h3⟩ := lst_at c r1 h
      subst e2
      exact ⟨a, vs, rfl, .inl h2, fin vs h3⟩
    · subst h
      obtain ⟨a, vs, e2, h2, h3⟩ := tup_at c r1
      subst e2
      exact ⟨a, vs, rfl, .inr h2, fin vs h3⟩
theorem cw_listC (h : SeqD C d ds) (q : ∀ p, Q (.raw (.ref p)) ((p, .lst ds) :: C)) : CW T (.type "list") [d] C Q :=
  CallR.imp call_list_of fun xs H R ⟨H0, c, r, k⟩ => by
    obtain ⟨v, e1, r1⟩ := r.one
    subst e1
    have fin : ∀ (vs : List V), Reps X.K H0 ds vs → ∀ l, H l = none → R (.ref l) (upd H l (.lst vs)) := fun vs h3 l hl => by
      obtain ⟨p2, c2⟩ := stp_cell (o := .lst vs) (c := .lst ds) c hl ⟨vs, upd_same, h3⟩
      exact k _ (.raw (.ref l)) _ _ _ p2 c2 rfl (q l)
    rcases h with h | h
    · obtain ⟨a, vs, e2, h2, h3⟩ := lst_at c r1 h
      subst e2
      exact ⟨a, vs, rfl, .inl h2, fin vs h3⟩
    · subst h
      obtain ⟨a, vs, e2, h2, h3⟩ := tup_at c r1
      subst e2
      exact ⟨a, vs, rfl, .inr h2, fin vs h3⟩
theorem cw_tuple (h : SeqD C d ds) (q : Q (.tup ds) C) : CW T (.type "tuple") [d] C Q :=
  CallR.imp call_tuple_of fun xs H R ⟨H0, c, r, k⟩ => by
    obtain ⟨v, e1, r1⟩ := r.one
    subst e1
    rcases h with h | h
    · obtain ⟨a, vs, e2, h2, h3⟩ := lst_at c r1 h
      subst e2
      refine ⟨a, vs, rfl, .inl ⟨h2, fun l hl => ?_⟩⟩
      obtain ⟨p2, c2⟩ := stp_new (o := .tup vs) c hl
      exact k _ (.tup ds) C _ _ p2 c2 ⟨l, vs, rfl, .inl (.inl upd_same), h3.mono p2.base⟩ q
    · subst h
      obtain ⟨a, vs, e2, h2, h3⟩ := tup_at c r1
      subst e2
      exact ⟨a, vs, rfl, .inr ⟨h2, k.here (d := .tup ds) c r1 q⟩⟩

def IW (T : TX X) (d1 d2 : D) (C : Cells) (Q : QE) : Prop := IxR X fun x y H R => ∃ H0, CellsR X.K H0 C H ∧ Rep X.K H0 d1 x ∧ Rep X.K H0 d2 y ∧ Cont X H0 C H Q R
theorem IxR.imp {r r' : R2} (h : IxR X r) (i : ∀ x y H R, r' x y H R → r x y H R) : IxR X r' := fun value slice pins s σ H x y v u Q I rx ry q hs => h value slice pins s σ H x y v u Q I rx ry (i _ _ _ _ q) hs
theorem ix_some (T : TX X) : IxR X (fun x y H R => ∃ d1 d2 C Q, IW T d1 d2 C Q ∧ ∃ H0, CellsR X.K H0 C H ∧ Rep X.K H0 d1 x ∧ Rep X.K H0 d2 y ∧ Cont X H0 C H Q R) :=
  fun value slice pins s σ H x y v u Q I rx ry ⟨d1, d2, C, q, h, k⟩ hs => h value slice pins s σ H x y v u Q I rx ry k hs
theorem we_ix (h : WE T a ρ C fun d1 C1 => WE T b ρ C1 fun d2 C2 => IW T d1 d2 C2 Q) (hs : PlainIx b) : WE T (.Subscript a b pos) ρ C Q := by
  refine PE.imp (pe_ix (ix_some T) h (pe_some T ρ b) hs) fun σ H R ⟨H0, at_, k⟩ => ⟨H0, at_, fun v1 d1 C1 H1 H01 p1 c1 r1 q1 => ?_⟩
  have at1 := at_.step p1 c1
  exact ⟨C1, _, q1, H01, at1, fun v2 d2 C2 H2 H02 p2 c2 r2 q2 => ⟨d1, d2, C2, Q, q2, H02, c2, r1.mono p2.base, r2, k.after (p1.trans c1 p2) c2 fun _ _ z => z⟩⟩
theorem atI_reps {K : W.Frag} {H0 : Hp} {vs : List V} {i : Int} (r : Reps K H0 ds vs) (h : atI ds i = some d) : ∃ v, atI vs i = some v ∧ Rep K H0 d v := by
  unfold atI at h ⊢
  rw [← r.length]
  cases e : ixN ds.length i with
  | none => rw [e] at h; cases h
  | some j => rw [e] at h; exact r.get h
theorem iw_lst {i : Int} (h : LstD C d1 ds) (hi : atI ds i = some d) (q : Q d C) : IW T d1 (.int i) C Q :=
  IxR.imp ix_list fun x y H R ⟨H0, c, r1, r2, k⟩ => by
    cases r2
    obtain ⟨a, vs, e2, h2, h3⟩ := lst_at c r1 h
    obtain ⟨v, g1, g2⟩ := atI_reps h3 hi
    exact ⟨a, vs, i, v, e2, rfl, h2, g1, k.here c g2 q⟩
theorem iw_tup {i : Int} (hi : atI ds i = some d) (q : Q d C) : IW T (.tup ds) (.int i) C Q :=
  IxR.imp ix_tup fun x y H R ⟨H0, c, r1, r2, k⟩ => by
    cases r2
    obtain ⟨a, vs, e2, h2, h3⟩ := tup_at c r1
    obtain ⟨v, g1, g2⟩ := atI_reps h3 hi
    exact ⟨a, vs, i, v, e2, rfl, h2, g1, k.here c g2 q⟩
theorem iw_str {s : Str} {i : Int} {c : Nat} (hl : s.length ≤ 100000) (hi : atI s.cps.toList i = some c) (q : Q (.str ⟨#[c]⟩) C) : IW T (.str s) (.int i) C Q :=
  IxR.imp ix_str fun x y H R ⟨H0, c, r1, r2, k⟩ => by
    cases r1; cases r2
    exact ⟨s, i, _, rfl, rfl, Nat.le_trans hl (by decide), hi, k.here (d := .str ⟨#[_]⟩) c rfl q⟩

def cutD (ds : List D) (lo hi : Option Int) : List D := (ds.drop (HT.sIx ds.length 0 lo)).take (HT.sIx ds.length ds.length hi - HT.sIx ds.length 0 lo)
theorem reps_cut {K : W.Frag} {H0 : Hp} {vs : List V} (r : Reps K H0 ds vs) (lo hi : Option Int) : Reps K H0 (cutD ds lo hi) (cutV vs lo hi) := by
  unfold cutD cutV
  rw [← r.length]
  exact (r.drop _).take _
def TOx (T : TX X) (ρ : Rho) (C : Cells) (Q : Option Int → Cells → Prop) : TO := fun σ H R => ∃ H0, At T H0 ρ C σ H ∧ ∀ i C' H' H0', Stp H0 C H H0' C' H' → CellsR X.K H0' C' H' → Q i C' → R i H'
def WO (T : TX X) (e : Option Expr) (ρ : Rho) (C : Cells) (Q : Option Int → Cells → Prop) : Prop := PO X e (TOx T ρ C Q)
theorem PO.imp {e : Option Expr} {t t' : TO} (h : PO X e t) (i : ∀ σ H R, t' σ H R → t σ H R) : PO X e t' := ⟨fun pins s σ H Q I q => h.run pins s σ H Q I (i σ H Q q)⟩
theorem po_any (T : TX X) (ρ : Rho) (e : Option Expr) : PO X e (fun σ H R => ∃ C Q, WO T e ρ C Q ∧ TOx T ρ C Q σ H R) := ⟨fun pins s σ H Q I ⟨C, q, h, t⟩ => h.run pins s σ H Q I t⟩
theorem wo_none {Q : Option Int → Cells → Prop} (q : Q none C) : WO T none ρ C Q := PO.imp po_none fun σ H R ⟨H0, at_, k⟩ => k none C H H0 (Stp.refl _ _ _) at_.c q
theorem wo_some {Q : Option Int → Cells → Prop} (h : WE T e ρ C fun d C1 => ∃ i, d = .int i ∧ Q (some i) C1) : WO T (some e) ρ C Q :=
  PO.imp (po_some h) fun σ H R ⟨H0, at_, k⟩ => ⟨H0, at_, fun v d C1 H1 H01 p1 c1 r1 ⟨i, e1, q⟩ => by subst e1; exact ⟨i, r1, k _ C1 H1 H01 p1 c1 q⟩⟩
def SW (T : TX X) (d : D) (lo hi : Option Int) (C : Cells) (Q : QE) : Prop := SlR X fun x l u H R => l = lo ∧ u = hi ∧ ∃ H0, CellsR X.K H0 C H ∧ Rep X.K H0 d x ∧ Cont X H0 C H Q R
theorem SlR.imp {r r' : V → Option Int → Option Int → Hp → VK → Prop} (h : SlR X r) (i : ∀ x l u H R, r' x l u H R → r x l u H R) : SlR X r' := fun pins s σ H x v vl vu lo hi sl Q I rx hs pl pu q => h pins s σ H x v vl vu lo hi sl Q I rx hs pl pu (i _ _ _ _ _ q)
theorem sl_some (T : TX X) : SlR X (fun x l u H R => ∃ d C Q, SW T d l u C Q ∧ ∃ H0, CellsR X.K H0 C H ∧ Rep X.K H0 d x ∧ Cont X H0 C H Q R) :=
  fun pins s σ H x v vl vu lo hi sl Q I rx hs pl pu ⟨d, C, q, h, k⟩ => h pins s σ H x v vl vu lo hi sl Q I rx hs pl pu ⟨rfl, rfl, k⟩
theorem we_slice {lo hi : Option Expr} {p2 : Pos} (h : WE T e ρ C fun d C1 => WO T lo ρ C1 fun l C2 => WO T hi ρ C2 fun u C3 => SW T d l u C3 Q) : WE T (.Subscript e (.Slice lo hi none p2) pos) ρ C Q := by
  refine PE.imp (pe_slice (sl_some T) h (po_any T ρ lo) (po_any T ρ hi)) fun σ H R ⟨H0, at_, k⟩ => ⟨H0, at_, fun v d C1 H1 H01 p1 c1 r1 q1 => ?_⟩
  have at1 := at_.step p1 c1
  exact ⟨C1, _, q1, H01, at1, fun l C2 H2 H02 p2 c2 q2 => ⟨C2, _, q2, H02, at1.step p2 c2, fun u C3 H3 H03 p3 c3 q3 => ⟨d, C3, Q, q3, H03, c3, (r1.mono p2.base).mono p3.base, k.after ((p1.trans c1 p2).trans c2 p3) c3 fun _ _ z => z⟩⟩⟩
theorem sw_lst {lo hi : Option Int} (h : LstD C d ds) (q : Q (.lst (cutD ds lo hi)) C) : SW T d lo hi C Q :=
  SlR.imp sl_list fun x l u H R ⟨e1, e2, H0, c, r1, k⟩ => by
    subst e1; subst e2
    obtain ⟨a, vs, e2, h2, h3⟩ := lst_at c r1 h
    refine ⟨a, vs, e2, h2, fun z hz => ?_⟩
    obtain ⟨p2, c2⟩ := stp_new (o := .lst (cutV vs l u)) c hz
    exact k _ (.lst (cutD ds l u)) C _ _ p2 c2 ⟨z, _, rfl, .inl (.inl upd_same), (reps_cut h3 l u).mono p2.base⟩ q
end
end Tr

set_option maxHeartbeats 2000000
namespace Tr
open PySem L2 PySem.Spec PyProof.Rows

section
variable {X : Cx} {T : TX X} {ρ : Rho} {C : Cells} {Q : QE} {e a b o : Expr} {pos p apos cpos : Pos} {es : List Expr} {d d1 d2 : D} {ds ds2 : List D}

theorem yields_tup {K : W.Frag} {H0 : Hp} {a : Addr} {vs : List V} (hs : SqT K H0 a vs) (r : Reps K H0 ds vs) : Yields K (Itt K a) H0 (fun _ => True) ds where
  go := fun i H0' C H e c _ hi => ⟨vs, vs[i]'(by rw [← r.length]; exact hi), Same.sqT (e.trans c.same) hs, by simp⟩
  stop := fun i H0' C H e c _ hi => ⟨vs, Same.sqT (e.trans c.same) hs, by rw [← r.length]; exact hi⟩
  yld := fun i H0' C H x H' d e c _ hd ⟨e1, y⟩ => by
    subst e1
    refine ⟨H0', Stp.refl _ _ _, c, ?_⟩
    have := y vs (Same.sqT (e.trans c.same) hs)
    obtain ⟨v, h1, h2⟩ := r.get hd
    rw [this] at h1; cases h1
    exact h2.mono e
theorem yields_cell {K : W.Frag} {H0 : Hp} {a : Addr} : Yields K (Itl K a) H0 (fun C => (a, Cell.lst ds) ∈ C) ds where
  go := fun i H0' C H e c hm hi => by
    obtain ⟨vs, h1, h2⟩ := c.ok a _ hm
    exact ⟨vs, vs[i]'(by rw [← h2.length]; exact hi), .inl (.inl h1), by simp⟩
  stop := fun i H0' C H e c hm hi => by
    obtain ⟨vs, h1, h2⟩ := c.ok a _ hm
    exact ⟨vs, .inl (.inl h1), by rw [← h2.length]; exact hi⟩
  yld := fun i H0' C H x H' d e c hm hd ⟨e1, y⟩ => by
    subst e1
    obtain ⟨vs, h1, h2⟩ := c.ok a _ hm
    have := y vs (.inl (.inl h1))
    obtain ⟨v, g1, g2⟩ := h2.get hd
    rw [this] at g1; cases g1
    exact ⟨H0', Stp.refl _ _ _, c, g2⟩
def rangeD (lo : Int) (n : Nat) : List D := (List.range n).map fun i => .int (lo + (i : Nat))
theorem rangeD_len (lo : Int) (n : Nat) : (rangeD lo n).length = n := by simp [rangeD]
theorem yields_range {K : W.Frag} {H0 : Hp} (lo : Int) (n : Nat) : Yields K (Itr lo n) H0 (fun _ => True) (rangeD lo n) where
  go := fun i H0' C H e c _ hi => by rw [rangeD_len] at hi; exact hi
  stop := fun i H0' C H e c _ hi => by rw [rangeD_len] at hi; exact hi
  yld := fun i H0' C H x H' d e c _ hd ⟨e1, e2⟩ => by
    subst e1; subst e2
    refine ⟨H0', Stp.refl _ _ _, c, ?_⟩
    unfold rangeD at hd
    rw [List.getElem?_map] at hd
    cases q : (List.range n)[i]? with
    | none => rw [q] at hd; cases hd
    | some j =>
      rw [q] at hd; cases hd
      obtain ⟨h1, h2⟩ := List.getElem?_eq_some_iff.mp q
      rw [List.getElem_range] at h2
      subst h2
      rfl
theorem wi_range1 {tg : Expr} {Q : QI} (hg : Gl X "range") (hm : X.mg "range" = none) (h : WE T a ρ C fun d C1 => ∃ j : Int, d = .int j ∧ -(2 ^ 62) ≤ j ∧ j < 2 ^ 62 ∧ Q (rangeD 0 j.toNat) (fun _ => True) C1)
    (hs : starEach [a] X.env = [(false, eval a X.env)] := by rfl) (hs2 : starEach [a] X.env = (false, eval a X.env) :: starEach [] X.env := by rfl) : WI T tg (.Call (.Name "range" p) [a] [] pos) ρ C Q := by
  refine PI.imp (pi_range1 hg hm (pa_cons h pa_nil hs2) hs) fun σ H R ⟨H0, at_, k⟩ => ⟨H0, at_, fun v d C1 H1 H01 p1 c1 r1 ⟨j, e1, l1, l2, q⟩ => ?_⟩
  subst e1; cases r1
  exact ⟨j, rfl, l1, l2, k _ _ _ C1 H1 H01 p1 c1 (yields_range 0 _) q⟩
def signsD (s : Str) : List D := s.cps.toList.map fun c => .str ⟨#[c]⟩
theorem yields_str {K : W.Frag} {H0 : Hp} (s : Str) : Yields K (Its s) H0 (fun _ => True) (signsD s) where
  go := fun i H0' C H e c _ hi => by show i < s.cps.size; simpa [signsD] using hi
  stop := fun i H0' C H e c _ hi => by show s.cps.size ≤ i; simpa [signsD] using hi
  yld := fun i H0' C H x H' d e c _ hd ⟨e1, k, hk, e2⟩ => by
    subst e1; subst e2
    refine ⟨H0', Stp.refl _ _ _, c, ?_⟩
    unfold signsD at hd
    rw [List.getElem?_map, Array.getElem?_toList, hk] at hd
    cases hd; rfl
theorem wi_str {tg : Expr} {Q : QI} (h : WE T e ρ C fun d C1 => ∃ s, d = .str s ∧ Q (signsD s) (fun _ => True) C1) : WI T tg e ρ C Q := by
  refine PI.imp (pi_str h) fun σ H R ⟨H0, at_, k⟩ => ⟨H0, at_, fun v d C1 H1 H01 p1 c1 r1 ⟨s, e1, q⟩ => ?_⟩
  subst e1; cases r1
  exact ⟨s, rfl, k _ _ _ C1 H1 H01 p1 c1 (yields_str s) q⟩

def TX.blk (T : TX X) (s : Shared) (H : Hp) (scope : Scope) (cenv : Env) (fp : List Addr) : TX (X.blk s H scope cenv fp) where
  A := T.A
  up := T.up
  XQ := fun _ _ _ _ => False
  tk := fun u s' ⟨_, _, _, _, _, _, _, _, _, _, _, _, _, _, _, _, w⟩ => let ⟨_, _, _, _, _, _, _, _, _, q⟩ := w; False.elim q
  pass := PassesOwn.never
theorem At.blk {T : TX X} {s : Shared} {H' : Hp} {scope : Scope} {cenv : Env} {fp : List Addr} {H0 : Hp} {σ : L2.St} {H : Hp} (h : At T H0 ρ C σ H) : At (T.blk s H' scope cenv fp) H0 ρ C σ H := ⟨h.a, h.c, h.s, h.l⟩
abbrev InBlk (T : TX X) (scope : Scope) (P : ∀ {Y : Cx}, TX Y → Prop) : Prop := ∀ (s : Shared) (H : Hp) (Ca : Addr) (cl : List (Str × Addr)) (fp : List Addr), P (T.blk s H scope (compEnvC scope cl Ca X.env) fp)
def wipeR (ρ : Rho) : List Nat → Rho
  | [] => ρ
  | v :: vs => (wipeR ρ vs).set v none
theorem wipeR_len (ρ : Rho) : ∀ vs : List Nat, (wipeR ρ vs).length = ρ.length
  | [] => rfl
  | v :: vs => by unfold wipeR; rw [List.length_set, wipeR_len ρ vs]
theorem slots_wipe {K : W.Frag} {H0 : Hp} {σ : L2.St} (h : SlotsR K H0 ρ σ) : ∀ vs : List Nat, SlotsR K H0 (wipeR ρ vs) (wipe σ vs)
  | [] => h
  | v :: vs => SlotsR.unset v (slots_wipe h vs)
theorem At.wipe {T : TX X} {H0 : Hp} {σ : L2.St} {H : Hp} (h : At T H0 ρ C σ H) (vs : List Nat) : At T H0 (wipeR ρ vs) C (L2.wipe σ vs) H := ⟨h.a, h.c, slots_wipe h.s vs, by rw [wipeR_len, wipe_length]; exact h.l⟩
inductive Bind where
  | one (i : Nat)
  | tup (is : List Nat)
def setAll {α : Type} (l : List (Option α)) : List Nat → List α → List (Option α)
  | i :: is, x :: xs => setAll (l.set i (some x)) is xs
  | _, _ => l
def Bind.to (b : Bind) (d : D) (ρ : Rho) : Option Rho := match b, d with
  | .one i, d => some (ρ.set i (some d))
  | .tup is, .tup ds => if is.length = ds.length then some (setAll ρ is ds) else none
  | _, _ => none
def gNames : List Nat → TGs
  | [] => gNil
  | i :: is => gCons (gName i) (gNames is)
def Bind.g (K : W.Frag) : Bind → TG
  | .one i => gName i
  | .tup is => gTup K is.length (gNames is)
def Bind.slots : Bind → List Nat
  | .one i => [i]
  | .tup is => is
theorem setAll_len {α : Type} : ∀ (is : List Nat) (xs : List α) (l : List (Option α)), (setAll l is xs).length = l.length
  | [], xs, l => by cases xs <;> rfl
  | i :: is, [], l => rfl
  | i :: is, x :: xs, l => by unfold setAll; rw [setAll_len is xs, List.length_set]
theorem slots_setAll {K : W.Frag} {H0 : Hp} : ∀ {is : List Nat} {ds : List D} {vs : List V} {ρ : Rho} {σ : L2.St}, Reps K H0 ds vs → SlotsR K H0 ρ σ → ρ.length = σ.length → SlotsR K H0 (setAll ρ is ds) (setAll σ is vs)
  | [], ds, vs, ρ, σ, r, h, l => by cases ds <;> cases vs <;> exact h
  | i :: is, [], vs, ρ, σ, r, h, l => by cases r; exact h
  | i :: is, d :: ds, vs, ρ, σ, ⟨v, rr, e1, r1, r2⟩, h, l => by
    subst e1
    have z : SlotsR K H0 (setAll (ρ.set i (some d)) is ds) (setAll (σ.set i (some v)) is rr) := slots_setAll r2 (SlotsR.set i h r1 l) (by simp [l])
    exact z
theorem gNames_to {R : L2.St → Hp → Prop} {H : Hp} : ∀ {is : List Nat} {vs : List V} {σ : L2.St}, is.length = vs.length → R (setAll σ is vs) H → gNames is vs σ H R
  | [], [], σ, _, h => ⟨rfl, h⟩
  | i :: is, v :: vs, σ, hl, h => ⟨v, vs, rfl, gNames_to (by simpa using hl) h⟩
theorem set_wipe {i : Nat} {x : V} : ∀ {vs : List Nat} {σ : L2.St}, i ∈ vs → wipe (σ.set i (some x)) vs = wipe σ vs
  | [], _, h => by cases h
  | v :: vs, σ, h => by
    show (wipe (σ.set i (some x)) vs).set v none = (wipe σ vs).set v none
    by_cases e : i ∈ vs
    · rw [set_wipe e]
    · have e' : i = v := (List.mem_cons.mp h).resolve_right e
      subst e'
      apply List.ext_getElem?
      intro j
      rw [List.getElem?_set, List.getElem?_set, wipe_length, wipe_length, List.length_set]
      by_cases q : i = j
      · subst q; simp
      · rw [if_neg q, if_neg q]
        by_cases hj : j ∈ vs
        · have z : ∀ τ : L2.St, (wipe τ vs)[j]? = if j < τ.length then some none else none := by
            intro τ
            induction vs with
            | nil => cases hj
            | cons w ws ih =>
              show ((wipe τ ws).set w none)[j]? = _
              rw [List.getElem?_set, wipe_length]
              by_cases q2 : w = j
              · subst q2; simp
              · rw [if_neg q2]
                rcases List.mem_cons.mp hj with q3 | q3
                · exact absurd q3.symm q2
                · exact ih (fun h1 => e (List.mem_cons_of_mem _ h1)) (by simp) q3
          rw [z, z, List.length_set]
        · rw [wipe_out hj, wipe_out hj, List.getElem?_set_ne q]
theorem wipe_wipe (σ : L2.St) : ∀ vs : List Nat, wipe (wipe σ vs) vs = wipe σ vs := by
  intro vs
  apply List.ext_getElem?
  intro j
  by_cases hj : j ∈ vs
  · have z : ∀ (τ : L2.St), (wipe τ vs)[j]? = if j < τ.length then some none else none := by
      intro τ
      induction vs with
      | nil => cases hj
      | cons w ws ih =>
        show ((wipe τ ws).set w none)[j]? = _
        rw [List.getElem?_set, wipe_length]
        by_cases q2 : w = j
        · subst q2; simp
        · rw [if_neg q2]
          rcases List.mem_cons.mp hj with q3 | q3
          · exact absurd q3.symm q2
          · exact ih q3
    rw [z, z, wipe_length]
  · rw [wipe_out hj]
theorem setAll_wipe : ∀ {is vs : List Nat} {xs : List V} {σ : L2.St}, (∀ i ∈ is, i ∈ vs) → wipe (setAll σ is xs) vs = wipe σ vs
  | [], vs, xs, σ, h => by cases xs <;> rfl
  | i :: is, vs, [], σ, h => rfl
  | i :: is, vs, x :: xs, σ, h => by
    unfold setAll
    rw [setAll_wipe (fun j hj => h j (List.mem_cons_of_mem _ hj)), set_wipe (h i List.mem_cons_self)]
theorem bind_to {bd : Bind} {d : D} {v : V} {ρ' : Rho} {H0 H : Hp} {σ : L2.St} {vs : List Nat} {R : L2.St → Hp → Prop} {K : W.Frag} (c : Same H0 H) (hb : bd.to d ρ = some ρ') (hv : ∀ i ∈ bd.slots, i ∈ vs) (r : Rep K H0 d v) (s : SlotsR K H0 ρ σ) (l : ρ.length = σ.length)
    (h : ∀ σ', SlotsR K H0 ρ' σ' → ρ'.length = σ'.length → wipe σ' vs = wipe σ vs → R σ' H) : bd.g K v σ H R := by
  cases bd with
  | one i =>
    cases hb
    exact h _ (SlotsR.set i s r l) (by simp [l]) (set_wipe (hv i (by simp [Bind.slots])))
  | tup is =>
    cases d with
    | tup ds =>
      simp only [Bind.to] at hb
      split at hb
      · rename_i hl
        cases hb
        obtain ⟨a, ws, h1, h2, h3⟩ := r
        refine ⟨a, ws, h1, Same.sqT c h2, by rw [← h3.length]; exact hl.symm, gNames_to (hl.trans h3.length) (h _ (slots_setAll h3 s l) (by rw [setAll_len, setAll_len]; exact l) (setAll_wipe hv))⟩
      · cases hb
    | _ => simp [Bind.to] at hb
def LcW (T : TX X) (scope : Scope) (bd : Bind) (elt : Expr) (vs : List Nat) (ρ : Rho) (P : Cells → Prop) (Q : QE) : List D → List D → Cells → Prop
  | [], acc, C => P C ∧ Q (.lst acc) C
  | d :: r, acc, C => P C ∧ ∃ ρ', bd.to d (wipeR ρ vs) = some ρ' ∧ InBlk T scope fun T' => WE T' elt ρ' C fun y C2 => acc.length < 100000 ∧ LcW T scope bd elt vs ρ P Q r (acc ++ [y]) C2
def LcW1 (T : TX X) (scope : Scope) (bd : Bind) (i elt : Expr) (vs : List Nat) (ρ : Rho) (P : Cells → Prop) (Q : QE) : List D → List D → Cells → Prop
  | [], acc, C => P C ∧ Q (.lst acc) C
  | d :: r, acc, C => P C ∧ ∃ ρ', bd.to d (wipeR ρ vs) = some ρ' ∧ InBlk T scope fun T' => WT T' i ρ' C fun k C1 =>
      if k = true then (InBlk T scope fun T' => WE T' elt ρ' C1 fun y C2 => acc.length < 100000 ∧ LcW1 T scope bd i elt vs ρ P Q r (acc ++ [y]) C2) else LcW1 T scope bd i elt vs ρ P Q r acc C1
structure Way (X : Cx) (H01 : Hp) (C1 : Cells) (H1 : Hp) (L : Addr) (acc : List D) (H0 : Hp) (C : Cells) (H : Hp) : Prop where
  st : Stp H01 C1 H1 H0 C H
  c : CellsR X.K H0 C H
  at_ : ∃ vs, H L = some (.lst vs) ∧ Reps X.K H0 acc vs
  n0 : H0 L = none
  nd : ¬ Dom C L
theorem Way.step {H01 H1 H0 H H0' H' : Hp} {C1 C' : Cells} {L : Addr} {acc : List D} (w : Way X H01 C1 H1 L acc H0 C H) (p : Stp H0 C H H0' C' H') (c' : CellsR X.K H0' C' H') : Way X H01 C1 H1 L acc H0' C' H' := by
  obtain ⟨vs, h1, h2⟩ := w.at_
  obtain ⟨q1, q2⟩ := p.own L (by rw [h1]; simp) w.n0 w.nd
  exact ⟨w.st.trans w.c p, c', ⟨vs, p.fr L _ h1 w.nd, h2.mono p.base⟩, q1, q2⟩
theorem Way.add {H01 H1 H0 H : Hp} {C1 : Cells} {L : Addr} {acc : List D} {d : D} {v : V} (w : Way X H01 C1 H1 L acc H0 C H) (hL : H1 L = none) (r : Rep X.K H0 d v) : ∃ vs, H L = some (.lst vs) ∧ vs.length = acc.length ∧ Way X H01 C1 H1 L (acc ++ [d]) H0 C (upd H L (.lst (vs ++ [v]))) := by
  obtain ⟨vs, h1, h2⟩ := w.at_
  have off : ∀ a x, (a, x) ∈ C → a ≠ L := fun a x hx e => w.nd ⟨x, e ▸ hx⟩
  refine ⟨vs, h1, h2.length.symm, ⟨⟨w.st.base, fun a o h n => ?_, w.st.own⟩, ⟨fun a o h => ?_, w.c.free, fun a x hx => (w.c.ok a x hx).mono (Same.refl _) (upd_ne (off a x hx)), w.c.nd⟩, ⟨_, upd_same, h2.append (Reps.cons r Reps.nil)⟩, w.n0, w.nd⟩⟩
  · rw [upd_ne (ne_of_none h hL)]; exact w.st.fr a o h n
  · rw [upd_ne (ne_of_none h w.n0)]; exact w.c.same a o h
theorem Way.fin {H01 H1 H0 H : Hp} {C1 : Cells} {L : Addr} {acc : List D} (w : Way X H01 C1 H1 L acc H0 C H) (hL : H1 L = none) : ∃ H0', Stp H01 C1 H1 H0' C H ∧ CellsR X.K H0' C H ∧ Rep X.K H0' (.lst acc) (.ref L) := by
  obtain ⟨vs, h1, h2⟩ := w.at_
  have s0 : Same H0 (upd H0 L (.lst vs)) := fun a u h => by rw [upd_ne (ne_of_none h w.n0)]; exact h
  refine ⟨upd H0 L (.lst vs), ⟨w.st.base.trans s0, w.st.fr, fun a h e n => ?_⟩, ⟨fun a o h => ?_, fun a d => ?_, fun a x hx => (w.c.ok a x hx).mono s0 rfl, w.c.nd⟩, ⟨L, vs, rfl, .inl (.inl upd_same), h2.mono s0⟩⟩
  · obtain ⟨q1, q2⟩ := w.st.own a h e n
    exact ⟨by rw [upd_ne (show a ≠ L from fun z => h (by rw [z]; exact hL))]; exact q1, q2⟩
  · by_cases q : a = L
    · subst q; rw [upd_same] at h; cases h; exact h1
    · rw [upd_ne q] at h; exact w.c.same a o h
  · rw [upd_ne (show a ≠ L from fun z => w.nd (by rw [← z]; exact d))]; exact w.c.free a d
theorem way0 {H0 H : Hp} {L : Addr} (c : CellsR X.K H0 C H) (hL : H L = none) : Way X H0 C H L [] H0 C (upd H L (.lst [])) := by
  have n0 := c.nn hL
  refine ⟨⟨Same.refl _, fun a o h n => by rw [upd_ne (ne_of_none h hL)]; exact h, fun a h e n => ⟨e, n⟩⟩, ⟨fun a o h => by rw [upd_ne (ne_of_none h n0)]; exact c.same a o h, c.free, fun a x hx => (c.ok a x hx).mono (Same.refl _) (upd_ne fun z => (c.ok a x hx).some (by rw [z]; exact hL)), c.nd⟩, ⟨[], upd_same, Reps.nil⟩, n0, c.notDom hL⟩
section
variable {scope : Scope} {own : List (Str × Nat)} {tg iter elt i : Expr} {bd : Bind}
def someB (T : TX X) (scope : Scope) (elt : Expr) : TE := fun σ H R => ∃ ρ C Q, InBlk T scope (fun T' => WE T' elt ρ C Q) ∧ TEx T ρ C Q σ H R
theorem pe_someB (T : TX X) (scope : Scope) (elt : Expr) (s : Shared) (H : Hp) (Ca : Addr) (cl : List (Str × Addr)) (fp : List Addr) : PE (X.blk s H scope (compEnvC scope cl Ca X.env) fp) elt (someB T scope elt) :=
  ⟨fun pins s' σ H' R I ⟨ρ, C, Q, h, H0, at_, k⟩ => (h s H Ca cl fp).run pins s' σ H' R I ⟨H0, at_.blk, k⟩⟩
def someBT (T : TX X) (scope : Scope) (elt : Expr) : TT := fun σ H R => ∃ ρ C Q, InBlk T scope (fun T' => WT T' elt ρ C Q) ∧ TTx T ρ C Q σ H R
theorem pt_someB (T : TX X) (scope : Scope) (elt : Expr) (s : Shared) (H : Hp) (Ca : Addr) (cl : List (Str × Addr)) (fp : List Addr) : PT (X.blk s H scope (compEnvC scope cl Ca X.env) fp) elt (someBT T scope elt) :=
  ⟨fun pins s' σ H' R I ⟨ρ, C, Q, h, H0, at_, k⟩ => (h s H Ca cl fp).run pins s' σ H' R I ⟨H0, at_.blk, k⟩⟩
theorem read_lc (own : List (Str × Nat)) (bd : Bind) (hv : ∀ i ∈ bd.slots, i ∈ own.map (·.2)) : ∀ σ H R, TEx T ρ C Q σ H R → tLc (TIx T ρ C fun ds P C1 => LcW T scope bd elt (own.map (·.2)) ρ P Q ds [] C1) (bd.g X.K) tYes (someB T scope elt) (own.map (·.2)) σ H R := by
  refine fun σ H R ⟨H0, at_, k⟩ => ⟨H0, at_, fun J ds P C1 H1 H01 p1 c1 y1 q1 L hL => ?_⟩
  have at1 := at_.step p1 c1
  refine ⟨fun j m H2 => m = ds.length - j ∧ j ≤ ds.length ∧ ∃ acc C2 H02, Way X H01 C1 H1 L acc H02 C2 H2 ∧ LcW T scope bd elt (own.map (·.2)) ρ P Q (ds.drop j) acc C2, ⟨_, rfl, Nat.zero_le _, [], C1, H01, way0 c1 hL, q1⟩, ?_⟩
  rintro j m H2 ⟨rfl, hj, acc, C2, H02, w2, q2⟩
  have hP : P C2 := by
    generalize ds.drop j = l at q2
    cases l with
    | nil => exact q2.1
    | cons d r => exact q2.1
  by_cases hlt : j < ds.length
  · rw [List.drop_eq_getElem_cons hlt] at q2
    obtain ⟨_, ρ', hb, qe⟩ := q2
    refine .inr ⟨y1.go j _ _ _ w2.st.base w2.c hP hlt, fun H3 => ∃ acc C3 H03, Way X H01 C1 H1 L acc H03 C3 H3 ∧ LcW T scope bd elt (own.map (·.2)) ρ P Q (ds.drop (j + 1)) acc C3, fun H3 ⟨acc, C3, H03, w3, q3⟩ => ⟨_, by omega, rfl, hlt, acc, C3, H03, w3, q3⟩, fun x H3 hy => ?_⟩
    obtain ⟨H03, p3, c3, r3⟩ := y1.yld j _ _ _ x H3 ds[j] w2.st.base w2.c hP (by simp [hlt]) hy
    have w3 := w2.step p3 c3
    have at3 := at1.step w3.st c3
    refine bind_to c3.same hb hv r3 (at3.wipe _).s (at3.wipe _).l fun σ' s' l' ew => ⟨by rw [ew, wipe_wipe], ρ', C2, _, qe, H03, ⟨at3.a, c3, s', l'⟩, fun v y C4 H4 H04 p4 c4 r4 ⟨hlen, q4⟩ => ?_⟩
    obtain ⟨vs, f1, f2, w5⟩ := (w3.step p4 c4).add hL r4
    exact ⟨vs, f1, by rw [f2]; exact Nat.lt_trans hlen (by decide), _, C4, H04, w5, q4⟩
  · have e : j = ds.length := by omega
    subst e
    rw [List.drop_length] at q2
    obtain ⟨H0', f1, f2, f3⟩ := w2.fin hL
    exact .inl ⟨y1.stop _ _ _ _ w2.st.base w2.c hP (Nat.le_refl _), k _ _ C2 H2 H0' (p1.trans c1 f1) f2 f3 q2.2⟩
theorem we_lc (own : List (Str × Nat)) (bd : Bind) (hc : X.calm = true) (hN : X.N.Nodup) (ok : BlkOk X.N X.env.scope scope own)
    (hg : ∀ (s : Shared) (H : Hp) (Ca : Addr) (cl : List (Str × Addr)) (fp : List Addr), PG (X.blk s H scope (compEnvC scope cl Ca X.env) fp) tg (bd.g X.K)) (hv : ∀ i ∈ bd.slots, i ∈ own.map (·.2))
    (h : WI T tg iter ρ C fun ds P C1 => LcW T scope bd elt (own.map (·.2)) ρ P Q ds [] C1) (hs : ∀ x, foldedSetIterable iter X.env x = pure x := by intro _; rfl) : WE T (.ListComp elt [⟨tg, iter, [], 0⟩] scope pos) ρ C Q := by
  exact PE.imp (pe_lc hc hN h ok hg (fun _ _ _ _ _ => pts_nil) (pe_someB T scope elt) hs) (read_lc own bd hv)
theorem ws_setLc {N : TEnds} {x : Str} {py spos : Pos} (own : List (Str × Nat)) (bd : Bind) (j : Nat) (hc : X.calm = true) (hN : X.N.Nodup) (hy : X.N[j]? = some x) (hyl : X.env.scope.names.lookup x = some .local)
    (hsw : swapsWith (.ListComp elt [⟨tg, iter, [], 0⟩] scope pos) (some (.Name x py)) spos.line X.env = pure true) (ok : BlkOk X.N X.env.scope scope own)
    (hg : ∀ (s : Shared) (H : Hp) (Ca : Addr) (cl : List (Str × Addr)) (fp : List Addr), PG (X.blk s H scope (compEnvC scope cl Ca X.env) fp) tg (bd.g X.K)) (hv : ∀ i ∈ bd.slots, i ∈ own.map (·.2))
    (h : WI T tg iter ρ C fun ds P C1 => LcW T scope bd elt (own.map (·.2)) ρ P (fun d C2 => N.nx (ρ.set j (some d)) C2) ds [] C1) (hs : ∀ x, foldedSetIterable iter X.env x = pure x := by intro _; rfl) : WS T (.Assign [.Name x py] (.ListComp elt [⟨tg, iter, [], 0⟩] scope pos) spos) ρ C N :=
  PS.imp (ps_setLc hc hN hy hyl hsw h ok hg (fun _ _ _ _ _ => pts_nil) (pe_someB T scope elt) hs) fun Dn σ H ⟨H0, at_, k⟩ => read_lc own bd hv σ H _ ⟨H0, at_, fun v d C1 H1 H01 p c r q =>
    (k.after p c).nx _ _ C1 H1 H01 (Stp.refl _ _ _) c (SlotsR.set j (at_.step p c).s r at_.l) (by rw [List.length_set, List.length_set]; exact at_.l) q⟩
theorem read_lc1 (own : List (Str × Nat)) (bd : Bind) (hv : ∀ i ∈ bd.slots, i ∈ own.map (·.2)) : ∀ σ H R, TEx T ρ C Q σ H R → tLc (TIx T ρ C fun ds P C1 => LcW1 T scope bd i elt (own.map (·.2)) ρ P Q ds [] C1) (bd.g X.K) (someBT T scope i) (someB T scope elt) (own.map (·.2)) σ H R := by
  refine fun σ H R ⟨H0, at_, k⟩ => ⟨H0, at_, fun J ds P C1 H1 H01 p1 c1 y1 q1 L hL => ?_⟩
  have at1 := at_.step p1 c1
  refine ⟨fun j m H2 => m = ds.length - j ∧ j ≤ ds.length ∧ ∃ acc C2 H02, Way X H01 C1 H1 L acc H02 C2 H2 ∧ LcW1 T scope bd i elt (own.map (·.2)) ρ P Q (ds.drop j) acc C2, ⟨_, rfl, Nat.zero_le _, [], C1, H01, way0 c1 hL, q1⟩, ?_⟩
  rintro j m H2 ⟨rfl, hj, acc, C2, H02, w2, q2⟩
  have hP : P C2 := by
    generalize ds.drop j = l at q2
    cases l with
    | nil => exact q2.1
    | cons d r => exact q2.1
  by_cases hlt : j < ds.length
  · rw [List.drop_eq_getElem_cons hlt] at q2
    obtain ⟨_, ρ', hb, qe⟩ := q2
    refine .inr ⟨y1.go j _ _ _ w2.st.base w2.c hP hlt, fun H3 => ∃ acc C3 H03, Way X H01 C1 H1 L acc H03 C3 H3 ∧ LcW1 T scope bd i elt (own.map (·.2)) ρ P Q (ds.drop (j + 1)) acc C3, fun H3 ⟨acc, C3, H03, w3, q3⟩ => ⟨_, by omega, rfl, hlt, acc, C3, H03, w3, q3⟩, fun x H3 hy => ?_⟩
    obtain ⟨H03, p3, c3, r3⟩ := y1.yld j _ _ _ x H3 ds[j] w2.st.base w2.c hP (by simp [hlt]) hy
    have w3 := w2.step p3 c3
    have at3 := at1.step w3.st c3
    refine bind_to c3.same hb hv r3 (at3.wipe _).s (at3.wipe _).l fun σ' s' l' ew => ⟨by rw [ew, wipe_wipe], ρ', C2, _, qe, H03, ⟨at3.a, c3, s', l'⟩, fun b C5 H5 H05 p5 c5 q5 => ?_⟩
    have w5 := w3.step p5 c5
    have at5 : At T H05 ρ' C5 σ' H5 := ⟨(at1.step w5.st c5).a, c5, SlotsR.mono s' p5.base, l'⟩
    cases b with
    | false => exact ⟨acc, C5, H05, w5, q5⟩
    | true =>
      refine ⟨ρ', C5, _, q5, H05, at5, fun v y C4 H4 H04 p4 c4 r4 ⟨hlen, q4⟩ => ?_⟩
      obtain ⟨vs, f1, f2, w6⟩ := (w5.step p4 c4).add hL r4
      exact ⟨vs, f1, by rw [f2]; exact Nat.lt_trans hlen (by decide), _, C4, H04, w6, q4⟩
  · have e : j = ds.length := by omega
    subst e
    rw [List.drop_length] at q2
    obtain ⟨H0', f1, f2, f3⟩ := w2.fin hL
    exact .inl ⟨y1.stop _ _ _ _ w2.st.base w2.c hP (Nat.le_refl _), k _ _ C2 H2 H0' (p1.trans c1 f1) f2 f3 q2.2⟩
theorem we_lc1 (own : List (Str × Nat)) (bd : Bind) (hc : X.calm = true) (hN : X.N.Nodup) (ok : BlkOk X.N X.env.scope scope own)
    (hg : ∀ (s : Shared) (H : Hp) (Ca : Addr) (cl : List (Str × Addr)) (fp : List Addr), PG (X.blk s H scope (compEnvC scope cl Ca X.env) fp) tg (bd.g X.K)) (hv : ∀ i ∈ bd.slots, i ∈ own.map (·.2))
    (h : WI T tg iter ρ C fun ds P C1 => LcW1 T scope bd i elt (own.map (·.2)) ρ P Q ds [] C1) (hs : ∀ x, foldedSetIterable iter X.env x = pure x := by intro _; rfl) : WE T (.ListComp elt [⟨tg, iter, [i], 0⟩] scope pos) ρ C Q := by
  exact PE.imp (pe_lc hc hN h ok hg (fun s H Ca cl fp => pts_one (pt_someB T scope i s H Ca cl fp)) (pe_someB T scope elt) hs) (read_lc1 own bd hv)
theorem ws_setLc1 {N : TEnds} {x : Str} {py spos : Pos} (own : List (Str × Nat)) (bd : Bind) (j : Nat) (hc : X.calm = true) (hN : X.N.Nodup) (hy : X.N[j]? = some x) (hyl : X.env.scope.names.lookup x = some .local)
    (hsw : swapsWith (.ListComp elt [⟨tg, iter, [i], 0⟩] scope pos) (some (.Name x py)) spos.line X.env = pure true) (ok : BlkOk X.N X.env.scope scope own)
    (hg : ∀ (s : Shared) (H : Hp) (Ca : Addr) (cl : List (Str × Addr)) (fp : List Addr), PG (X.blk s H scope (compEnvC scope cl Ca X.env) fp) tg (bd.g X.K)) (hv : ∀ i ∈ bd.slots, i ∈ own.map (·.2))
    (h : WI T tg iter ρ C fun ds P C1 => LcW1 T scope bd i elt (own.map (·.2)) ρ P (fun d C2 => N.nx (ρ.set j (some d)) C2) ds [] C1) (hs : ∀ x, foldedSetIterable iter X.env x = pure x := by intro _; rfl) : WS T (.Assign [.Name x py] (.ListComp elt [⟨tg, iter, [i], 0⟩] scope pos) spos) ρ C N :=
  PS.imp (ps_setLc hc hN hy hyl hsw h ok hg (fun s H Ca cl fp => pts_one (pt_someB T scope i s H Ca cl fp)) (pe_someB T scope elt) hs) fun Dn σ H ⟨H0, at_, k⟩ => read_lc1 own bd hv σ H _ ⟨H0, at_, fun v d C1 H1 H01 p c r q =>
    (k.after p c).nx _ _ C1 H1 H01 (Stp.refl _ _ _) c (SlotsR.set j (at_.step p c).s r at_.l) (by rw [List.length_set, List.length_set]; exact at_.l) q⟩
end
end
end Tr

set_option maxHeartbeats 2000000
namespace Tr
open PySem L2 PySem.Spec PyProof.Rows

section
variable {X : Cx} {T : TX X} {ρ : Rho} {C : Cells} {Q : QE} {e a b c o : Expr} {pos p apos cpos : Pos} {es : List Expr} {d d1 d2 : D} {ds ds2 : List D}

theorem ow_int0 {f : Value → Value → Sem Value} {g : Int → Int → V} {i j : Int} (gd : D) (ho : OpR X f (rI0 g)) (hg : ∀ H0 : Hp, Rep X.K H0 gd (g i j)) (q : Q gd C) : OW T f (.int i) (.int j) C Q :=
  ow_look ho (fun x y H H0 c r1 r2 => by cases r1; cases r2; exact ⟨g i j, hg H0, fun R k => ⟨i, j, rfl, rfl, k⟩⟩) q
theorem ow_intC {f : Value → Value → Sem Value} {P : Int → Int → Prop} {g : Int → Int → V} {i j : Int} (gd : D) (ho : OpR X f (rI P g)) (hp : P i j) (hg : ∀ H0 : Hp, Rep X.K H0 gd (g i j)) (q : Q gd C) : OW T f (.int i) (.int j) C Q :=
  ow_look ho (fun x y H H0 c r1 r2 => by cases r1; cases r2; exact ⟨g i j, hg H0, fun R k => ⟨i, j, rfl, rfl, hp, k⟩⟩) q
theorem ow_add {i j : Int} (q : Q (.int (i + j)) C) : OW T (binaryOp .Add) (.int i) (.int j) C Q := ow_int0 (.int (i + j)) op_add (fun _ => rfl) q
theorem ow_mul {i j : Int} (h : CMul i j) (q : Q (.int (i * j)) C) : OW T (binaryOp .Mult) (.int i) (.int j) C Q := ow_intC (.int (i * j)) op_mul h (fun _ => rfl) q
theorem ow_fdiv {i j : Int} (h : 0 < j ∧ j < 1073741824) (q : Q (.int (i / j)) C) : OW T (binaryOp .FloorDiv) (.int i) (.int j) C Q := ow_intC (.int (i / j)) op_fdiv h (fun _ => rfl) q
theorem ow_mod {i j : Int} (h : 0 < j) (q : Q (.int (i % j)) C) : OW T (binaryOp .Mod) (.int i) (.int j) C Q := ow_intC (.int (i % j)) op_mod h (fun _ => rfl) q
theorem ow_pow {i j : Int} (h : CPow i j) (q : Q (.int (i ^ j.toNat)) C) : OW T (binaryOp .Pow) (.int i) (.int j) C Q := ow_intC (.int (i ^ j.toNat)) op_pow h (fun _ => rfl) q
theorem ow_lt {i j : Int} (q : Q (.bl (decide (i < j))) C) : OW T (compareOp .Lt) (.int i) (.int j) C Q := ow_int0 (.bl (decide (i < j))) op_lt (fun _ => rfl) q
theorem ow_le {i j : Int} (q : Q (.bl (decide (i ≤ j))) C) : OW T (compareOp .LtE) (.int i) (.int j) C Q := ow_int0 (.bl (decide (i ≤ j))) op_le (fun _ => rfl) q
theorem ow_gt {i j : Int} (q : Q (.bl (decide (j < i))) C) : OW T (compareOp .Gt) (.int i) (.int j) C Q := ow_int0 (.bl (decide (j < i))) op_gt (fun _ => rfl) q
theorem ow_ge {i j : Int} (q : Q (.bl (decide (j ≤ i))) C) : OW T (compareOp .GtE) (.int i) (.int j) C Q := ow_int0 (.bl (decide (j ≤ i))) op_ge (fun _ => rfl) q
theorem we_neg {i : Int} (h : WE T a ρ C fun d C1 => ∃ i, d = .int i ∧ Q (.int (-i)) C1) : WE T (.UnaryOp .USub a pos) ρ C Q :=
  PE.imp (pe_un un_neg h) fun σ H R ⟨H0, at_, k⟩ => ⟨H0, at_, fun v d C1 H1 H01 p1 c1 r1 ⟨i, e1, q⟩ => by subst e1; cases r1; exact ⟨i, rfl, k _ (.int (-i)) C1 H1 H01 p1 c1 rfl q⟩⟩
theorem wt_chain {op op' : CmpOp} {Q : QT} (h : WE T a ρ C fun d1 C1 => WE T b ρ C1 fun d2 C2 => OW T (compareOp op) d1 d2 C2 fun d C3 => ∃ k, d = .bl k ∧ if k = true then WE T c ρ C3 (fun d3 C4 => OW T (compareOp op') d2 d3 C4 fun d C5 => ∃ k, d = .bl k ∧ Q k C5) else Q false C3)
    (hc : PT X (.Compare a [op, op'] [b, c] pos) (tB (tChain (someO T (compareOp op)) (someO T (compareOp op')) (TEx T ρ C fun d1 C1 => WE T b ρ C1 fun d2 C2 => OW T (compareOp op) d1 d2 C2 fun d C3 => ∃ k, d = .bl k ∧ if k = true then WE T c ρ C3 (fun d3 C4 => OW T (compareOp op') d2 d3 C4 fun d C5 => ∃ k, d = .bl k ∧ Q k C5) else Q false C3) (someE T ρ b) (someE T ρ c)))) : WT T (.Compare a [op, op'] [b, c] pos) ρ C Q :=
  PT.imp hc fun σ H R ⟨H0, at_, k⟩ => ⟨H0, at_, fun v1 d1 C1 H1 H01 p1 c1 r1 q1 => by
    have at1 := at_.step p1 c1
    refine ⟨C1, _, q1, H01, at1, fun v2 d2 C2 H2 H02 p2 c2 r2 q2 => ?_⟩
    have at2 := at1.step p2 c2
    have r1' := r1.mono p2.base
    refine ⟨d1, d2, C2, _, q2, H02, c2, r1', r2, fun v3 d3 C3 H3 H03 p3 c3 r3 ⟨j, e3, q3⟩ => ?_⟩
    subst e3; cases r3
    have at3 := at2.step p3 c3
    refine ⟨j, rfl, ?_⟩
    cases j with
    | false => exact ⟨false, rfl, k false C3 H3 H03 ((p1.trans c1 p2).trans c2 p3) c3 q3⟩
    | true =>
      refine ⟨C3, _, q3, H03, at3, fun v4 d4 C4 H4 H04 p4 c4 r4 q4 => ⟨d2, d4, C4, _, q4, H04, c4, (r2.mono p3.base).mono p4.base, r4, fun v5 d5 C5 H5 H05 p5 c5 r5 ⟨j, e5, q5⟩ => ?_⟩⟩
      subst e5; cases r5
      exact ⟨j, rfl, k j C5 H5 H05 ((((p1.trans c1 p2).trans c2 p3).trans c3 p4).trans c4 p5) c5 q5⟩⟩

mutual
def toPy : D → PyData
  | .non => .none
  | .bl b => .bool b
  | .int i => .int i
  | .str s => .str s
  | .lst ds => .list (toPys ds)
  | .tup ds => .tuple (toPys ds)
  | _ => .none
def toPys : List D → List PyData
  | [] => []
  | d :: ds => toPy d :: toPys ds
end
mutual
def plainD : D → Bool
  | .non | .bl _ | .int _ | .str _ => true
  | .lst ds => plainDs ds
  | .tup ds => plainDs ds
  | _ => false
def plainDs : List D → Bool
  | [] => true
  | d :: ds => plainD d && plainDs ds
end
mutual
theorem rep_dp {K : W.Frag} {H0 H : Hp} (c : Same H0 H) : ∀ {d : D} {v : V}, plainD d = true → Rep K H0 d v → Dp K H v (toPy d)
  | .non, _, _, h => by cases h; exact .non
  | .bl _, _, _, h => by cases h; exact .bl _
  | .int _, _, _, h => by cases h; exact .int _
  | .str _, _, _, h => by cases h; exact .str _
  | .lst _, _, hp, ⟨a, vs, h1, h2, h3⟩ => by subst h1; exact .lst (Same.sqL c h2) (reps_dp c hp h3)
  | .tup _, _, hp, ⟨a, vs, h1, h2, h3⟩ => by subst h1; exact .tup (Same.sqT c h2) (reps_dp c hp h3)
theorem reps_dp {K : W.Frag} {H0 H : Hp} (c : Same H0 H) : ∀ {ds : List D} {vs : List V}, plainDs ds = true → Reps K H0 ds vs → DpAll K H vs (toPys ds)
  | [], _, _, h => by cases h; exact .nil
  | d :: ds, _, hp, ⟨v, r, h1, h2, h3⟩ => by
    subst h1
    have hp' : (plainD d && plainDs ds) = true := hp
    rw [Bool.and_eq_true] at hp'
    exact .cons (rep_dp c hp'.1 h2) (reps_dp c hp'.2 h3)
end
def PyR (C : Cells) (d : D) (p : PyData) : Prop := (plainD d = true ∧ p = toPy d) ∨ ∃ a ds, d = .raw (.ref a) ∧ (a, Cell.lst ds) ∈ C ∧ plainDs ds = true ∧ p = .list (toPys ds)
theorem pyR_dp {K : W.Frag} {H0 H : Hp} {v : V} {p : PyData} (c : CellsR K H0 C H) (r : Rep K H0 d v) (h : PyR C d p) : Dp K H v p := by
  rcases h with ⟨h1, rfl⟩ | ⟨a, ds, rfl, hm, hp, rfl⟩
  · exact rep_dp c.same h1 r
  · obtain ⟨vs, g1, g2⟩ := c.ok a _ hm
    obtain rfl : v = .ref a := r
    exact .lst (.inl (.inl g1)) (reps_dp c.same hp g2)
theorem ow_eq {p1 p2 : PyData} (hu : X.A.units + 64 < cLine) (h1 : PyR C d1 p1) (h2 : PyR C d2 p2) (s1 : SeqAt.shaped p1 = true) (s2 : SeqAt.shaped p2 = true) (q : Q (.bl (PyData.eqv p1 p2)) C) : OW T (compareOp .Eq) d1 d2 C Q :=
  ow_look (d := .bl (PyData.eqv p1 p2)) (op_eqD hu) (fun x y H H0 c r1 r2 => ⟨.bl (PyData.eqv p1 p2), rfl, fun R k => ⟨p1, p2, pyR_dp c r1 h1, pyR_dp c r2 h2, s1, s2, k⟩⟩) q
theorem ow_ne {p1 p2 : PyData} (hu : X.A.units + 64 < cLine) (h1 : PyR C d1 p1) (h2 : PyR C d2 p2) (s1 : SeqAt.shaped p1 = true) (s2 : SeqAt.shaped p2 = true) (q : Q (.bl (!PyData.eqv p1 p2)) C) : OW T (compareOp .NotEq) d1 d2 C Q :=
  ow_look (d := .bl (!PyData.eqv p1 p2)) (op_neD hu) (fun x y H H0 c r1 r2 => ⟨.bl (!PyData.eqv p1 p2), rfl, fun R k => ⟨p1, p2, pyR_dp c r1 h1, pyR_dp c r2 h2, s1, s2, k⟩⟩) q
theorem ow_eq_str {x y : Str} (q : Q (.bl (decide (x = y))) C) : OW T (compareOp .Eq) (.str x) (.str y) C Q :=
  ow_look (d := .bl (decide (x = y))) op_eq (fun u v H H0 c r1 r2 => by cases r1; cases r2; exact ⟨.bl (decide (x = y)), rfl, fun R k => ⟨rfl, by
    rw [show decide (V.str x = V.str y) = decide (x = y) by by_cases e : x = y <;> simp [e]]; exact k⟩⟩) q
theorem ow_ne_str {x y : Str} (q : Q (.bl (!decide (x = y))) C) : OW T (compareOp .NotEq) (.str x) (.str y) C Q :=
  ow_look (d := .bl (!decide (x = y))) op_ne (fun u v H H0 c r1 r2 => by cases r1; cases r2; exact ⟨.bl (!decide (x = y)), rfl, fun R k => ⟨rfl, by
    rw [show decide (V.str x = V.str y) = decide (x = y) by by_cases e : x = y <;> simp [e]]; exact k⟩⟩) q
theorem ow_eq_int {x y : Int} (q : Q (.bl (decide (x = y))) C) : OW T (compareOp .Eq) (.int x) (.int y) C Q :=
  ow_look (d := .bl (decide (x = y))) op_eq (fun u v H H0 c r1 r2 => by cases r1; cases r2; exact ⟨.bl (decide (x = y)), rfl, fun R k => ⟨rfl, by
    rw [show decide (V.int x = V.int y) = decide (x = y) by by_cases e : x = y <;> simp [e]]; exact k⟩⟩) q
theorem ow_ne_int {x y : Int} (q : Q (.bl (!decide (x = y))) C) : OW T (compareOp .NotEq) (.int x) (.int y) C Q :=
  ow_look (d := .bl (!decide (x = y))) op_ne (fun u v H H0 c r1 r2 => by cases r1; cases r2; exact ⟨.bl (!decide (x = y)), rfl, fun R k => ⟨rfl, by
    rw [show decide (V.int x = V.int y) = decide (x = y) by by_cases e : x = y <;> simp [e]]; exact k⟩⟩) q
def isNon : D → Bool
  | .non => true
  | _ => false
theorem isNon_v {K : W.Frag} {H0 : Hp} {v : V} (r : Rep K H0 d v) (hr : ∀ w, d ≠ .raw w) : decide (v = .non) = isNon d := by
  cases d with
  | non => cases r; rfl
  | bl b => cases r; rfl
  | int i => cases r; rfl
  | str s => cases r; rfl
  | lst ds => obtain ⟨a, vs, h, _⟩ := r; subst h; rfl
  | tup ds => obtain ⟨a, vs, h, _⟩ := r; subst h; rfl
  | dic ks ds => obtain ⟨a, vs, h, _⟩ := r; subst h; rfl
  | ins Cl ns ds => obtain ⟨a, dx, vs, h, _⟩ := r; subst h; rfl
  | raw w => exact absurd rfl (hr w)
  | tpn ds => obtain ⟨a, vs, h, _⟩ := r; subst h; rfl
theorem ow_isN (hr : ∀ w, d ≠ .raw w) (q : Q (.bl (isNon d)) C) : OW T (compareOp .Is) d .non C Q :=
  ow_look (d := .bl (isNon d)) op_isN (fun x y H H0 c r1 r2 => by cases r2; exact ⟨.bl (isNon d), rfl, fun R k => ⟨rfl, by rw [isNon_v r1 hr]; exact k⟩⟩) q
theorem ow_add_str {x y : Str} (h : x.length + y.length ≤ 100000) (q : Q (.str (x ++ y)) C) : OW T (binaryOp .Add) (.str x) (.str y) C Q :=
  ow_look (d := .str (x ++ y)) op_add_str (fun u v H H0 c r1 r2 => by cases r1; cases r2; exact ⟨.str (x ++ y), rfl, fun R k => ⟨x, y, rfl, rfl, Nat.le_trans h (by decide), k⟩⟩) q
theorem sw_str {s : Str} {lo hi : Option Int} (h : s.length ≤ 100000) (q : Q (.str (cutS s lo hi)) C) : SW T (.str s) lo hi C Q :=
  SlR.imp sl_str fun x l u H R ⟨e1, e2, H0, c, r1, k⟩ => by
    subst e1; subst e2; cases r1
    exact ⟨s, rfl, Nat.le_trans h (by decide), k.here (d := .str (cutS s l u)) c rfl q⟩
theorem sw_tup {lo hi : Option Int} (q : Q (.tup (cutD ds lo hi)) C) : SW T (.tup ds) lo hi C Q :=
  SlR.imp sl_tupA fun x l u H R ⟨e1, e2, H0, c, r1, k⟩ => by
    subst e1; subst e2
    obtain ⟨a, vs, g1, g2, g3⟩ := id r1
    have hl := g3.length
    refine ⟨a, vs, g1, Same.sqT c.same g2, fun hw => ?_, fun _ z hz => ?_⟩
    · have e : cutD ds l u = ds := by
        unfold cutD
        rw [hl, hw.1, hw.2, ← hl]; simp
      rw [e] at q
      subst g1
      exact k.here (d := .tup ds) c r1 q
    · obtain ⟨p2, c2⟩ := stp_new (o := .tup (cutV vs l u)) c hz
      exact k _ (.tup (cutD ds l u)) C _ _ p2 c2 ⟨z, _, rfl, .inl (.inl upd_same), (reps_cut g3 l u).mono p2.base⟩ q
theorem cw_str_int {i : Int} (h : i.natAbs.log2 < 1920) (q : Q (.str (toString i)) C) : CW T (.type "str") [.int i] C Q :=
  cw_look (d := .str (toString i)) call_str_int (fun xs H H0 c r => by
    obtain ⟨v, e1, r1⟩ := r.one
    cases r1; subst e1
    exact ⟨.str (toString i), rfl, fun R k => ⟨i, rfl, h, k⟩⟩) q
theorem cw_str_str {s : Str} (q : Q (.str s) C) : CW T (.type "str") [.str s] C Q :=
  cw_look (d := .str s) SkE.call_str_str (fun xs H H0 c r => by
    obtain ⟨v, e1, r1⟩ := r.one
    cases r1; subst e1
    exact ⟨.str s, rfl, fun R k => ⟨s, rfl, k⟩⟩) q
theorem cw_int_str {s : Str} {n : Int} (h : intText? s = some n) (hl : s.length ≤ 640) (q : Q (.int n) C) : CW T (.type "int") [.str s] C Q :=
  cw_look (d := .int n) call_int_str (fun xs H H0 c r => by
    obtain ⟨v, e1, r1⟩ := r.one
    cases r1; subst e1
    exact ⟨.int n, rfl, fun R k => ⟨s, n, rfl, h, hl, k⟩⟩) q
theorem cw_int {i : Int} (q : Q (.int i) C) : CW T (.type "int") [.int i] C Q :=
  cw_look (d := .int i) call_int1 (fun xs H H0 c r => by
    obtain ⟨v, e1, r1⟩ := r.one
    cases r1; subst e1
    exact ⟨.int i, rfl, fun R k => .inl ⟨i, rfl, k⟩⟩) q
theorem cw_int_bl {k : Bool} (q : Q (.int (if k then 1 else 0)) C) : CW T (.type "int") [.bl k] C Q :=
  cw_look (d := .int (if k then 1 else 0)) call_int1 (fun xs H H0 c r => by
    obtain ⟨v, e1, r1⟩ := r.one
    cases r1; subst e1
    exact ⟨.int (if k then 1 else 0), rfl, fun R q => .inr ⟨k, rfl, q⟩⟩) q
theorem cw_abs {i : Int} (q : Q (.int (if i < 0 then -i else i)) C) : CW T (.builtin "abs") [.int i] C Q :=
  cw_look (d := .int (if i < 0 then -i else i)) call_abs (fun xs H H0 c r => by
    obtain ⟨v, e1, r1⟩ := r.one
    cases r1; subst e1
    exact ⟨.int (if i < 0 then -i else i), rfl, fun R k => ⟨i, rfl, k⟩⟩) q
theorem reps_bls {K : W.Frag} {H0 : Hp} : ∀ {bs : List Bool} {vs : List V}, Reps K H0 (bs.map D.bl) vs → vs = bs.map V.bl
  | [], _, h => h
  | x :: r, _, ⟨_, _, h1, h2, h3⟩ => by subst h1; rw [reps_bls h3, h2]; rfl
theorem cw_all {bs : List Bool} (hc : X.calm = true) (q : Q (.bl (bs.all id)) C) : CW T (.builtin "all") [.lst (bs.map D.bl)] C Q :=
  cw_look (d := .bl (bs.all id)) (cr_all hc) (fun xs H H0 c r => by
    obtain ⟨v, e1, a, vs, e2, h2, h3⟩ := r.one
    subst e1; subst e2
    rw [reps_bls h3] at h2
    exact ⟨.bl (bs.all id), rfl, fun R k => ⟨a, bs, rfl, Same.sqL c.same h2, k⟩⟩) q
end
end Tr

set_option maxHeartbeats 2000000
namespace Tr
open PySem L2 PySem.Spec PyProof.Rows

section
open Builtin
variable {prog : Program} {w : World} {A : Around} {E : Value → Shared → Prop} {s : Shared} {K : W.Frag} {x C f : Addr} {ox : Obj} {od : Option Obj} {b tb : Value}
theorem ne_call {Q : Value → Shared → Prop} (hu : A.in1.units < cLine) (X : K.In s.heap) (I : W.InstAt s.heap x ox C od) (ho : W.mroIn K C (.type "object") = some true) (hs : W.findIn K (.ref C) "__eq__" = some (some (.ref f))) (hf : W.isFn K (.ref f) = true)
    (h : wpAny (model prog w) A.in1 (call (.ref f) [.ref x, b]) (fun v s' => ∃ k, v = .bool k ∧ Q (.bool (!k)) s') E s) : wpAny (model prog w) A (call (.builtin "object.__ne__") [.ref x, b]) Q E s := by
  refine wpAny_call (codeAny_call_builtin PySem.F.cmp_object.ne.plain PySem.F.cmpEntry_ne ?_)
  have L0 := I.type (M := model prog w)
  have L1 := W.looks_mroIn (M := model prog w) X ho
  have chk : ∀ {P : Unit → Shared → Prop} {A : Around} {E : Value → Shared → Prop}, P () s → wpAny (model prog w) A (checkBuiltinCall "object.__ne__" ⟨[.ref x, b], []⟩) P E s := fun {P A E} hp => by
    have ha := PySem.F.cmpArgs_ne (.ref x) b
    unfold argsOk at ha
    unfold checkBuiltinCall
    simp only [PySem.F.cmpKind_ne, PySem.F.cmpSplit_ne]
    unfold isInstance
    repeat (first | (with_reducible refine L0.here ?_) | (with_reducible refine L1.here ?_) | wp_step)
    exact hp
  refine chk ?_
  unfold Builtin.«object.__ne__»
  repeat (first
    | with_reducible refine wpAny_cRoomFor hu ?_
    | (refine wpAny_bind (m := callSpecialIfBound? (.ref x) (Str.ofString "__eq__") [b]) (W.ifBound_K X I hs hf (wpAny_mono h (fun r s' hr => ?_) fun _ _ y => y)))
    | wp_step)
  obtain ⟨k, rfl, hq⟩ := hr
  repeat (first | exact hq | exact wpAny_pure hq | exact wpAny_truthy_bool hq | (refine wpAny_bind (m := truthy (.bool _)) (wpAny_truthy_bool ?_)) | wp_step)
theorem ne_K {Q : Value → Shared → Prop} (hu : A.in1.units < cLine) (X : K.In s.heap) (I : W.InstAt s.heap x ox C od) (hb : W.Looks (model prog w) s.heap (typeOf b) tb) (hn : W.notFirst K C tb = true) (ho : W.mroIn K C (.type "object") = some true)
    (hne : W.findIn K (.ref C) "__ne__" = some (some (.builtin "object.__ne__"))) (hs : W.findIn K (.ref C) "__eq__" = some (some (.ref f))) (hf : W.isFn K (.ref f) = true)
    (h : wpAny (model prog w) A.in1 (call (.ref f) [.ref x, b]) (fun v s' => ∃ k, v = .bool k ∧ Q (.bool (!k)) s') E s) : wpAny (model prog w) A (richCompare .NotEq (.ref x) b) Q E s := by
  have one : wpAny (model prog w) A (tryCompare (.ref x) "__ne__" b) (fun r s' => ∃ v, r = some v ∧ Q v s') E s := by
    have bd := PySem.F.cmp_object.ne.bind (.ref x)
    unfold tryCompare
    simp only [callSpecialIfBound?, bindSpecialIfBound?]
    refine wpAny_bind (wpAny_holding (wpAny_bind (wpAny_bind (wpAny_bind (I.type.here ((W.looks_findIn X hne).here ?_))))))
    dsimp only
    rw [bd]
    refine wpAny_bind (wpAny_askSetting (wpAny_ite ?_))
    have core : wpAny (model prog w) A (call (.builtin "object.__ne__") [.ref x, b]) (fun v s' => ∃ k, v = .bool k ∧ Q (.bool k) s') E s := ne_call hu X I ho hs hf (wpAny_mono h (fun v s' ⟨k, e, q⟩ => ⟨k, e, _, rfl, q⟩) fun _ _ y => y)
    split
    · refine wpAny_bind (wpAny_pure (wpAny_pure ?_))
      show wpAny _ _ (call (.builtin "object.__ne__") ([.ref x] ++ [b]) >>= fun v => pure (some v)) _ _ _
      exact wpAny_bind (wpAny_mono core (fun v s' ⟨k, e, q⟩ => by subst e; exact wpAny_pure (wpAny_pure ⟨_, rfl, q⟩)) fun _ _ h' => h')
    · refine wpAny_tryCatch (wpAny_bind (wpAny_pure (wpAny_pure ?_)))
      show wpAny _ _ (call (.builtin "object.__ne__") ([.ref x] ++ [b]) >>= fun v => pure (some v)) _ _ _
      exact wpAny_bind (wpAny_mono core (fun v s' ⟨k, e, q⟩ => by subst e; exact wpAny_pure (wpAny_pure ⟨_, rfl, q⟩)) fun _ _ h' => h')
  unfold richCompare
  simp only [oneThing_ref]
  refine wpAny_holding (wpAny_bind (wpAny_cRoomFor (Nat.lt_of_succ_lt hu) ?_))
  refine wpAny_bind (I.type.here (wpAny_bind (hb.here ?_)))
  split
  · rename_i q
    have e : W.subIn K tb (.ref C) = some false := by
      rcases Bool.or_eq_true_iff.mp hn with e | e
      · rw [beq_iff_eq.mp e] at q; simp at q
      · exact beq_iff_eq.mp e
    refine wpAny_bind ((W.looks_subIn X e).here ?_)
    simp only [Bool.false_eq_true, if_false]
    refine wpAny_bind (wpAny_mono one (fun r s' z => ?_) fun _ _ e => e)
    obtain ⟨v, rfl, hq⟩ := z
    exact wpAny_pure hq
  · refine wpAny_bind (wpAny_pure ?_)
    simp only [Bool.false_eq_true, if_false]
    refine wpAny_bind (wpAny_mono one (fun r s' z => ?_) fun _ _ e => e)
    obtain ⟨v, rfl, hq⟩ := z
    exact wpAny_pure hq
end

theorem in1_G {k : Nat} {A : Around} (r : RoomG (k + 1) A) : RoomG k A.in1 := ⟨r.rm.in1, r.gd⟩
structure ClsI (K : W.Frag) (Cl : Addr) : Prop where
  c : Cls K Cl
  ca : W.findIn K (.ref Cl) "__class__" = some (some (.builtin "object.__class__"))
  cn : W.specialIn K (.builtin "object.__class__") "__get__" = some (some (.builtin "getset_descriptor.__get__"))
  ct : W.takesIn K (.builtin "object.__class__") = some true
  cm : W.mroIn K Cl (.type "object") = some true
inductive TyD (K : W.Frag) (C : Cells) : D → Value → Prop
  | non : TyD K C .non (.type "NoneType")
  | bl (b) : TyD K C (.bl b) (.type "bool")
  | int (i) : TyD K C (.int i) (.type "int")
  | str (s) : TyD K C (.str s) (.type "str")
  | lst (ds) : TyD K C (.lst ds) (.type "list")
  | tup (ds) : TyD K C (.tup ds) (.type "tuple")
  | ins {Cl ns ds} (h : ClsI K Cl) : TyD K C (.ins Cl ns ds) (.ref Cl)
  | cl {a ds} (h : (a, Cell.lst ds) ∈ C) : TyD K C (.raw (.ref a)) (.type "list")
  | ci {a Cl ns ds} (h : (a, Cell.ins Cl ns ds) ∈ C) (hc : ClsI K Cl) : TyD K C (.raw (.ref a)) (.ref Cl)
theorem rd_tyL {K : W.Frag} {H : Hp} {a : Addr} {vs : List V} (h : SqL K H a vs) : TyX K H (.ref a) (.type "list") := by
  rcases h with (h | ⟨o, h⟩) | ⟨o, its, n, h1, h2, _⟩
  · exact .base (.lst h)
  · exact .base (.frz h)
  · exact .kList h1 h2
theorem rd_tyT {K : W.Frag} {H : Hp} {a : Addr} {vs : List V} (h : SqT K H a vs) : TyX K H (.ref a) (.type "tuple") := by
  rcases h with (h | ⟨o, h⟩) | ⟨o, its, n, h1, h2, _⟩
  · exact .base (.tup h)
  · exact .fTuple h
  · exact .kTuple h1 h2
theorem ty_at {K : W.Frag} {H0 H : Hp} {C : Cells} {d : D} {v : V} {t : Value} (c : CellsR K H0 C H) (r : Rep K H0 d v) (h : TyD K C d t) : TyX K H v t := by
  cases h with
  | non => cases r; exact .base .non
  | bl b => cases r; exact .base (.bl b)
  | int b => cases r; exact .base (.int b)
  | str b => cases r; exact .base (.str b)
  | lst ds => obtain ⟨a, vs, e, h, _⟩ := r; subst e; exact rd_tyL (Same.sqL c.same h)
  | tup ds => obtain ⟨a, vs, e, h, _⟩ := r; subst e; exact rd_tyT (Same.sqT c.same h)
  | ins h => obtain ⟨a, dx, vs, e, h1, _⟩ := r; subst e; exact .base (.ins (c.same _ _ h1) h.c h.ca h.cn h.ct h.cm)
  | cl hm => cases r; obtain ⟨vs, e, _⟩ := c.ok _ _ hm; exact .base (.lst e)
  | ci hm h => cases r; obtain ⟨dx, vs, e, _⟩ := c.ok _ _ hm; exact .base (.ins e h.c h.ca h.cn h.ct h.cm)
inductive ClsD : D → Value → Prop
  | ty (n : String) : ClsD (.raw (.ty n)) (.type n)
  | own (Cl : Addr) : ClsD (.raw (.ref Cl)) (.ref Cl)
theorem cls_at {K : W.Frag} {H0 : Hp} {d : D} {v : V} {u : Value} (r : Rep K H0 d v) (h : ClsD d u) : ClsV v u := by
  cases h with
  | ty n => cases r; exact .ty n
  | own C => cases r; exact .own C
theorem clss_at {K : W.Frag} {H0 : Hp} : ∀ {ds : List D} {vs : List V} {us : List Value}, Reps K H0 ds vs → Paired ClsD ds us → Paired ClsV vs us
  | [], _, _, r, .nil => by cases r; exact .nil
  | d :: ds, _, _, ⟨v, vs, e, r1, r2⟩, .cons h t => by subst e; exact .cons (cls_at r1 h) (clss_at r2 t)

section
variable {X : Cx} {T : TX X} {ρ : Rho} {C : Cells} {Q : QE} {e a b c o : Expr} {pos p apos cpos : Pos} {es : List Expr} {d d1 d2 : D} {ds ds2 : List D}
theorem we_ty {x : Str} {n : String} (hg : Gl X x) (hm : X.mg x = none) (hv : bootBuiltins x = some (.type n)) (q : Q (.raw (.ty n)) C) (hn : x ≠ "__name__" := by decide) (hd : (x == ("__debug__" : Str)) = false := by decide) : WE T (.Name x pos) ρ C Q :=
  we_look (d := .raw (.ty n)) (pe_bltn (v := .ty n) hg hm hv rfl hn hd) (fun σ H H0 a => ⟨.ty n, rfl, fun R k => k⟩) q
theorem call_isiS : CallR X (.builtin "isinstance") (fun xs H Q => ∃ (x : V) (tp : Addr) (cs : List V) (t : Value) (us : List Value) (b : Bool), xs = [x, .ref tp] ∧ SqT X.K H tp cs ∧ Paired ClsV cs us ∧ TyX X.K H x t ∧ W.kitAny X.K t us = some b ∧ Q (.bl b) H) := by
  intro pins s σ H xs us Q I r h
  obtain ⟨x, tp, cs, t, ws, b, rfl, hT, k, ty, e, q⟩ := h
  obtain ⟨u1, u2, rfl, r1, r2⟩ := vals2 r
  cases (show u2 = Value.ref tp from r2)
  obtain ⟨P, Z, p, hx⟩ := kit_of I r1 ty
  obtain ⟨its, rv, ⟨o, h1, h2, n, h3⟩, _⟩ := I.tuple hT
  have e3 := ClsV.all k rv
  subst e3
  obtain ⟨oc, od, dt, sl⟩ := o
  simp only at h2 h3
  subst h2 h3
  exact W.kia_tup Z I.kIn p h1 e hx fun tk => ⟨.bl b, H, I.tok tk, rfl, q⟩
theorem cw_isi {t u : Value} {b : Bool} (hc : ClsD d2 u) (ht : TyD X.K C d1 t) (hk : W.kitOne X.K t u = some b) (q : Q (.bl b) C) : CW T (.builtin "isinstance") [d1, d2] C Q :=
  cw_look (d := .bl b) call_isi (fun xs H H0 c r => by
    obtain ⟨v, w, e1, r1, r2⟩ := r.two
    subst e1
    exact ⟨.bl b, rfl, fun R k => ⟨v, w, t, u, b, rfl, cls_at r2 hc, ty_at c r1 ht, hk, k⟩⟩) q
theorem cw_isiT {t : Value} {us : List Value} {b : Bool} (hc : Paired ClsD ds us) (ht : TyD X.K C d1 t) (hk : W.kitAny X.K t us = some b) (q : Q (.bl b) C) : CW T (.builtin "isinstance") [d1, .tup ds] C Q :=
  cw_look (d := .bl b) call_isiS (fun xs H H0 c r => by
    obtain ⟨v, w, e1, r1, r2⟩ := r.two
    subst e1
    obtain ⟨a, vs, e2, h2, h3⟩ := tup_at c r2
    subst e2
    exact ⟨.bl b, rfl, fun R k => ⟨v, a, vs, t, us, b, rfl, h2, clss_at h3 hc, ty_at c r1 ht, hk, k⟩⟩) q
end

section
variable {X : Cx} {T : TX X} {ρ : Rho} {C : Cells} {Q : QE} {pos p apos : Pos} {k : Nat} {f Cl : Addr} {fd : FuncData} {ps : List Str} {F : FS} {dvs : List V} {dds : List D} {dus : List Value} {d1 d2 d : D} {ns : List Str} {ds : List D}
def AsksN (F : FS) (ds : List D) (C : Cells) (Q : QE) : Prop := ∃ μ r, C.Perm (μ ++ r) ∧ F ds μ (fun d μ' => Q d (μ' ++ r)) fun _ _ _ => False
theorem run_N {pins : List (Addr × Obj)} {σ : L2.St} {H H0 : Hp} {s : Shared} {R : VK} {us : List Value} {vs : List V} {A : Around} {E' : Value → Shared → Prop} (Fk : FnG X.prog X.w X.K X.mg X.base k f fd ps F) (hr : RoomG k A) (hb : Binds X.K fd ps [])
    (I : Inv X pins σ H s) (e0 : Env0 X.prog X.w X.K X.mg X.base A X.stack s H) (rv : Vals vs us) (c : CellsR X.K H0 C H) (r : Reps X.K H0 ds vs) (h : AsksN F ds C Q) (kk : Cont X H0 C H Q R) : wpAny (model X.prog X.w) A (call (.ref f) us) (EP X pins σ R) E' s := by
  obtain ⟨μ, rr, pm, h⟩ := h
  have all : spT X.K F vs H R (fun _ _ _ => False) := ⟨H0, ds, μ, _, _, c.part pm, r, h, fun v d C' H' H0' p c' r' q => by
    obtain ⟨p2, c2⟩ := c.back pm p c'
    exact kk v d _ H' H0' p2 c2 r' q, fun cls dd fs C' H' H0' p c x q => q⟩
  have nlen : us.length = ps.length := by
    rw [← rv.length, ← r.length]
    exact Fk.len _ _ _ _ h
  have bnd := hb s us I.kIn (by rw [List.append_nil]; exact nlen)
  rw [List.append_nil] at bnd
  have went := Fk.run A X.stack s H ⟨us, []⟩ us vs R _ hr e0 bnd rv all
  refine wpAny_call (codeAny_mono went ?_)
  rintro (e | (_ | _ | _ | u)) s' hq
  · obtain ⟨_, _, _, _, _, _, _, _, _, _, _, _, z⟩ := hq; exact z.elim
  · exact False.elim hq
  · exact False.elim hq
  · exact False.elim hq
  · exact I.after hq
theorem ins_inst {pins : List (Addr × Obj)} {σ : L2.St} {H H0 : Hp} {s : Shared} {v : V} {u : Value} (I : Inv X pins σ H s) (rv : RelV v u) (c : CellsR X.K H0 C H) (r : Rep X.K H0 d v) (h : InsD C d Cl ns ds) : ∃ ad ox od, v = .ref ad ∧ u = .ref ad ∧ W.InstAt s.heap ad ox Cl (some od) := by
  obtain ⟨ad, dx, vs, e1, e2, e3, e4⟩ := ins_at c r h
  subst e1
  obtain rfl : u = Value.ref ad := rv
  obtain ⟨mA, O, _⟩ := ins_get I.hok e2
  obtain ⟨od, J, _⟩ := O.look
  exact ⟨ad, _, od, rfl, rfl, J⟩
theorem ow_own {op : CmpOp} {t : Value} (hop : ∀ a b, compareOp op a b = richCompare op a b) (hs : W.findIn X.K (.ref Cl) (cmpInfo op).2.1 = some (some (.ref f))) (hf : W.isFn X.K (.ref f) = true) (hn : W.notFirst X.K Cl t = true)
    (Fk : FnG X.prog X.w X.K X.mg X.base k f fd ps F) (hr : RoomG k X.A) (hb : Binds X.K fd ps []) (h1 : InsD C d1 Cl ns ds) (h2 : TyD X.K C d2 t)
    (h : AsksN F [d1, d2] C fun d C' => ∃ j, d = .bl j ∧ Q (.bl j) C') : OW T (compareOp op) d1 d2 C Q := by
  intro pins s σ H x y v u R I rx ry ⟨H0, c, r1, r2, kk⟩
  obtain ⟨ad, ox, od, e1, e2, J⟩ := ins_inst I rx c r1 h1
  subst e1; subst e2
  obtain ⟨P, Z, p, hx⟩ := kit_of I ry (ty_at c r2 h2)
  obtain ⟨m, hF⟩ := I.fr
  rw [hop]
  refine W.cmp_K (op := op) hr.rm.units0 hF I.ok.mod.kin J (Z.ty _ _ I.kIn p) hn hs hf ?_
  refine wpAny_mono (run_N (us := [.ref ad, u]) (vs := [.ref ad, y]) (R := fun v H => ∃ j, v = .bl j ∧ R (.bl j) H) Fk hr hb I I.env0 (.cons rfl (.cons ry .nil)) c (Reps.cons r1 (Reps.cons r2 Reps.nil)) h
    (fun v d C' H' H0' p c' r ⟨j, e, q⟩ => by subst e; cases r; exact ⟨j, rfl, kk _ (.bl j) C' H' H0' p c' rfl q⟩)) (fun w s' z => ?_) fun _ _ x => x
  obtain ⟨z', H', I', rz, j, e, qz⟩ := z
  subst e
  cases (show w = Value.bool j from rz)
  exact ⟨.bl j, H', I', rfl, qz⟩
theorem ow_neOwn {t : Value} (hne : W.findIn X.K (.ref Cl) "__ne__" = some (some (.builtin "object.__ne__"))) (hs : W.findIn X.K (.ref Cl) "__eq__" = some (some (.ref f))) (hf : W.isFn X.K (.ref f) = true) (hn : W.notFirst X.K Cl t = true)
    (ho : W.mroIn X.K Cl (.type "object") = some true) (Fk : FnG X.prog X.w X.K X.mg X.base k f fd ps F) (hr : RoomG (k + 1) X.A) (hb : Binds X.K fd ps []) (h1 : InsD C d1 Cl ns ds) (h2 : TyD X.K C d2 t)
    (h : AsksN F [d1, d2] C fun d C' => ∃ j, d = .bl j ∧ Q (.bl (!j)) C') : OW T (compareOp .NotEq) d1 d2 C Q := by
  intro pins s σ H x y v u R I rx ry ⟨H0, c, r1, r2, kk⟩
  obtain ⟨ad, ox, od, e1, e2, J⟩ := ins_inst I rx c r1 h1
  subst e1; subst e2
  obtain ⟨P, Z, p, hx⟩ := kit_of I ry (ty_at c r2 h2)
  obtain ⟨m, hF⟩ := I.fr
  show wpAny _ _ (richCompare .NotEq _ _) _ _ _
  refine ne_K (in1_G hr).rm.units0 I.kIn J (Z.ty _ _ I.kIn p) hn ho hne hs hf ?_
  refine wpAny_mono (run_N (us := [.ref ad, u]) (vs := [.ref ad, y]) (R := fun v H => ∃ j, v = .bl j ∧ R (.bl (!j)) H) Fk (in1_G hr) hb I I.env0.in1 (.cons rfl (.cons ry .nil)) c (Reps.cons r1 (Reps.cons r2 Reps.nil)) h
    (fun v d C' H' H0' p c' r ⟨j, e, q⟩ => by subst e; cases r; exact ⟨j, rfl, kk _ (.bl (!j)) C' H' H0' p c' rfl q⟩)) (fun w s' z => ?_) fun _ _ x => x
  obtain ⟨z', H', I', rz, j, e, qz⟩ := z
  subst e
  cases (show w = Value.bool j from rz)
  exact ⟨j, rfl, .bl (!j), H', I', rfl, qz⟩
theorem cw_strOwn (hs : W.findIn X.K (.ref Cl) "__str__" = some (some (.ref f))) (hf : W.isFn X.K (.ref f) = true) (Fk : FnG X.prog X.w X.K X.mg X.base k f fd ps F) (hr : RoomG (k + 2) X.A) (hb : Binds X.K fd ps []) (h1 : InsD C d Cl ns ds)
    (h : AsksN F [d] C fun d C' => ∃ z : Str, d = .str z ∧ Q (.str z) C') : CW T (.type "str") [d] C Q := by
  intro pins s σ H vs us R I rv ⟨H0, c, r, kk⟩
  obtain ⟨v, e, r1⟩ := r.one
  subst e
  obtain ⟨u, rfl, ru⟩ := rv.one
  obtain ⟨ad, ox, od, e1, e2, J⟩ := ins_inst I ru c r1 h1
  subst e1; subst e2
  refine W.kso_call (in1_G (in1_G hr)).rm.units0 I.kIn J hs hf ?_
  refine wpAny_mono (run_N (us := [.ref ad]) (vs := [.ref ad]) (R := fun v H => ∃ z : Str, v = .str z ∧ R (.str z) H) Fk (in1_G (in1_G hr)) hb I I.env0.in1.in1 (.cons rfl .nil) c (Reps.cons r1 Reps.nil) h
    (fun v d C' H' H0' p c' r ⟨z, e, q⟩ => by subst e; cases r; exact ⟨z, rfl, kk _ (.str z) C' H' H0' p c' rfl q⟩)) (fun w s' z => ?_) fun _ _ x => x
  obtain ⟨z', H', I', rz, n, e, qz⟩ := z
  subst e
  obtain ⟨t, ht⟩ := (show ∃ t, w = Value.str n t from rz)
  subst ht
  exact ⟨.str n, H', I', ⟨_, rfl⟩, qz⟩
end

section
variable {X : Cx} {T : TX X} {ρ : Rho} {C : Cells} {Q : QE} {e a b c o : Expr} {pos p apos cpos : Pos} {es : List Expr} {d d1 d2 : D} {ds ds2 : List D}
def rCatS (K : W.Frag) : R2 := fun x y H Q => ∃ l b xs zs, x = .ref l ∧ y = .ref b ∧ SqL K H l xs ∧ SqL K H b zs ∧ xs.length + zs.length ≤ sizeLine ∧ ∀ p, H p = none → Q (.ref p) (upd H p (.lst (xs ++ zs)))
theorem op_catS : OpR X (binaryOp .Add) (rCatS X.K) := by
  intro pins s σ H x y v u Q I rx ry h
  obtain ⟨l, b, xs, zs, rfl, rfl, hH, hB, hz, q⟩ := h
  cases rx
  cases ry
  obtain ⟨its, r, ht, z1⟩ := I.list hH
  obtain ⟨its2, r2, ht2, z2⟩ := I.list hB
  have l1 := r.length
  have l2 := r2.length
  obtain ⟨⟨cl1, dd, data, sl⟩, n, ho, hc, _, hd⟩ := id ht
  obtain ⟨⟨cl2, dd2, data2, sl2⟩, n2, ho2, hc2, _, hd2⟩ := id ht2
  simp only at hc hd hc2 hd2
  subst hc hd hc2 hd2
  refine concat_meets ⟨_, ho, rfl⟩ ⟨_, ho2, rfl⟩ PySem.noFill_list_add PySem.seq_list_add PySem.F.slot_list_add PySem.F.entry_list_add (PySem.F.args_list_add_2 _ _) (list_addW l b its.toArray its2.toArray n n2 dd dd2 sl sl2 (by rw [List.size_toArray, List.size_toArray]; omega)) ⟨ho, ho2, ?_⟩
  rw [show its.toArray ++ its2.toArray = (its ++ its2).toArray by simp]
  exact ⟨.ref _, _, I.lnew (t' := s.toks) (r.append r2) (by rw [List.length_append]; omega), rfl, q _ I.fresh⟩
theorem ow_cat (h1 : LstD C d1 ds) (h2 : LstD C d2 ds2) (hl : ds.length + ds2.length ≤ 100000) (q : Q (.lst (ds ++ ds2)) C) : OW T (binaryOp .Add) d1 d2 C Q :=
  OpR.imp op_catS fun x y H R ⟨H0, c, r1, r2, k⟩ => by
    obtain ⟨a, vs, e1, g1, g2⟩ := lst_at c r1 h1
    obtain ⟨b, ws, e2, g3, g4⟩ := lst_at c r2 h2
    have l1 := g2.length
    have l2 := g4.length
    refine ⟨a, b, vs, ws, e1, e2, g1, g3, Nat.le_trans (by omega) (show 100000 ≤ sizeLine by decide), fun p hp => ?_⟩
    obtain ⟨p2, c2⟩ := stp_new (o := .lst (vs ++ ws)) c hp
    exact k _ (.lst (ds ++ ds2)) C _ _ p2 c2 ⟨p, _, rfl, .inl (.inl upd_same), (g2.append g4).mono p2.base⟩ q
theorem ow_catT (hl : ds.length + ds2.length ≤ 100000) (q : Q (.tup (ds ++ ds2)) C) : OW T (binaryOp .Add) (.tup ds) (.tup ds2) C Q :=
  OpR.imp op_catA fun x y H R ⟨H0, c, r1, r2, k⟩ => by
    obtain ⟨a, vs, e1, g1, g2⟩ := tup_at c r1
    obtain ⟨b, ws, e2, g3, g4⟩ := tup_at c r2
    have l1 := g2.length
    have l2 := g4.length
    refine ⟨a, b, vs, ws, e1, e2, g1, g3, Nat.le_trans (by omega) (show 100000 ≤ sizeLine by decide), fun e => ?_, fun _ e => ?_, fun _ _ p hp => ?_⟩
    · subst e; subst e2
      have : ds = [] := List.length_eq_zero_iff.mp l1
      subst this
      exact k.here (d := .tup ([] ++ ds2)) c r2 q
    · subst e; subst e1
      have : ds2 = [] := List.length_eq_zero_iff.mp l2
      subst this
      rw [List.append_nil] at q
      exact k.here (d := .tup ds) c r1 q
    · obtain ⟨p2, c2⟩ := stp_new (o := .tup (vs ++ ws)) c hp
      exact k _ (.tup (ds ++ ds2)) C _ _ p2 c2 ⟨p, _, rfl, .inl (.inl upd_same), (g2.append g4).mono p2.base⟩ q
theorem Reps.reverse {K : W.Frag} {H : Hp} : ∀ {ds : List D} {vs : List V}, Reps K H ds vs → Reps K H ds.reverse vs.reverse
  | [], _, h => by cases h; exact Reps.nil
  | d :: ds, _, ⟨v, r, e, h1, h2⟩ => by
    subst e
    rw [List.reverse_cons, List.reverse_cons]
    exact (Reps.reverse h2).append (Reps.cons h1 Reps.nil)
theorem we_revC {k : Nat} {p1 p2 p3 : Pos} (h : WE T e ρ C fun d C1 => ∃ ds, LstD C1 d ds ∧ ∀ p, Q (.raw (.ref p)) ((p, .lst ds.reverse) :: C1)) : WE T (.Subscript e (.Slice none none (some (.UnaryOp .USub (.Constant (.int 1) k p1) p2)) p3) pos) ρ C Q :=
  PE.imp (pe_revL h) fun σ H R ⟨H0, at_, k⟩ => ⟨H0, at_, fun v d C1 H1 H01 pp c1 r1 ⟨ds, hl, q⟩ => by
    obtain ⟨a, vs, e1, g1, g2⟩ := lst_at c1 r1 hl
    refine ⟨a, vs, e1, g1, fun p hp => ?_⟩
    obtain ⟨p2, c2⟩ := stp_cell (o := .lst vs.reverse) (c := .lst ds.reverse) c1 hp ⟨_, upd_same, Reps.reverse g2⟩
    exact k _ (.raw (.ref p)) _ _ _ (pp.trans c1 p2) c2 rfl (q p)⟩

theorem we_m1 {r : V → List V → Hp → VK → Prop} {m : Str} (hm : ∀ {to te : TE}, PE X o to → PE X e te → PE X (.Call (.Attribute o m apos) [e] [] pos) (tM1 r to te))
    (h : WE T o ρ C fun d1 C1 => ∃ s, d1 = .str s ∧ WE T e ρ C1 fun d2 C2 => ∀ v H H0 R, CellsR X.K H0 C2 H → Rep X.K H0 d2 v → Cont X H0 C2 H Q R → r (.str s) [v] H R) : WE T (.Call (.Attribute o m apos) [e] [] pos) ρ C Q :=
  PE.imp (hm h (pe_some T ρ e)) fun σ H R ⟨H0, at_, k⟩ => ⟨H0, at_, fun v d C1 H1 H01 p1 c1 r1 ⟨s, e1, q1⟩ => by
    subst e1; cases r1
    exact ⟨⟨s, rfl⟩, C1, _, q1, H01, at_.step p1 c1, fun v2 d2 C2 H2 H02 p2 c2 r2 q2 => q2 _ _ _ _ c2 r2 (k.after (p1.trans c1 p2) c2 fun _ _ z => z)⟩⟩
theorem strs_split {K : W.Frag} {H0 H : Hp} {C : Cells} {x : List Str} {R : VK} {Q : QE} (c : CellsR K H0 C H) (q : Q (.lst (x.map D.str)) C)
    (k : ∀ v d C' H' H0', Stp H0 C H H0' C' H' → CellsR K H0' C' H' → Rep K H0' d v → Q d C' → R v H') : rNewStrs x H R := by
  intro p hp
  obtain ⟨p2, c2⟩ := stp_new (o := .lst (x.map V.str)) c hp
  exact k _ (.lst (x.map D.str)) C _ _ p2 c2 ⟨p, _, rfl, .inl (.inl upd_same), Reps.strs x⟩ q
theorem we_split (h : WE T o ρ C fun d1 C1 => ∃ s, d1 = .str s ∧ WE T e ρ C1 fun d2 C2 => ∃ t : Str, d2 = .str t ∧ (t.length == 0) = false ∧ s.length ≤ 100000 ∧ Q (.lst ((Txt.split s t).map D.str)) C2)
    (hs : starEach [e] X.env = [(false, eval e X.env)] := by rfl) (hbase : attributeBase o "split" X.env (eval o X.env) = eval o X.env := by rfl) (hline : (apos.endLine == pos.line) = true := by rfl) : WE T (.Call (.Attribute o "split" apos) [e] [] pos) ρ C Q :=
  we_m1 (fun ho he => pe_split ho he hs hbase hline) (h.mono fun d1 C1 ⟨s, e1, w⟩ => ⟨s, e1, w.mono fun d2 C2 ⟨t, e2, ht, hs, q⟩ v H H0 R c r k => by
    subst e2; cases r
    exact ⟨s, t, rfl, rfl, ht, Nat.le_trans (show s.length + 2 ≤ 100002 by omega) (by decide), strs_split c q k⟩⟩)
theorem we_join (h : WE T o ρ C fun d1 C1 => ∃ s, d1 = .str s ∧ WE T e ρ C1 fun d2 C2 => ∃ ys : List Str, SeqD C2 d2 (ys.map D.str) ∧ (ys.map (·.length)).sum + ys.length * s.length ≤ 100000 ∧ Q (.str (Txt.join s ys)) C2)
    (hs : starEach [e] X.env = [(false, eval e X.env)] := by rfl) (hbase : attributeBase o "join" X.env (eval o X.env) = eval o X.env := by rfl) (hline : (apos.endLine == pos.line) = true := by rfl) : WE T (.Call (.Attribute o "join" apos) [e] [] pos) ρ C Q :=
  we_m1 (fun ho he => pe_join ho he hs hbase hline) (h.mono fun d1 C1 ⟨s, e1, w⟩ => ⟨s, e1, w.mono fun d2 C2 ⟨ys, hq, hz, q⟩ v H H0 R c r k => by
    rcases hq with hq | hq
    · obtain ⟨a, vs, e2, h2, h3⟩ := lst_at c r hq
      subst e2
      rw [Reps.of_strs h3] at h2
      exact ⟨s, a, ys, rfl, rfl, .inl h2, Nat.le_trans hz (by decide), k.here (d := .str (Txt.join s ys)) c rfl q⟩
    · subst hq
      obtain ⟨a, vs, e2, h2, h3⟩ := tup_at c r
      subst e2
      rw [Reps.of_strs h3] at h2
      exact ⟨s, a, ys, rfl, rfl, .inr h2, Nat.le_trans hz (by decide), k.here (d := .str (Txt.join s ys)) c rfl q⟩⟩)
def flatD : D → Bool
  | .non | .bl _ | .int _ | .str _ => true
  | _ => false
def toV : D → V
  | .bl b => .bl b
  | .int i => .int i
  | .str s => .str s
  | _ => .non
theorem flat_at {K : W.Frag} {H0 : Hp} {d : D} {v : V} (r : Rep K H0 d v) (h : flatD d = true) : v = toV d ∧ flatV v = true := by
  cases d <;> first | (cases r; exact ⟨rfl, rfl⟩) | cases h
theorem flats_at {K : W.Frag} {H0 : Hp} : ∀ {ds : List D} {vs : List V}, Reps K H0 ds vs → ds.all flatD = true → vs = ds.map toV ∧ vs.all flatV = true
  | [], _, r, _ => by cases r; exact ⟨rfl, rfl⟩
  | d :: ds, _, ⟨v, vs, e, r1, r2⟩, h => by
    subst e
    rw [List.all_cons, Bool.and_eq_true] at h
    obtain ⟨e1, f1⟩ := flat_at r1 h.1
    obtain ⟨e2, f2⟩ := flats_at r2 h.2
    exact ⟨by rw [e1, e2]; rfl, by rw [List.all_cons, f1, f2]; rfl⟩
def inD (d : D) (ds : List D) : Bool := inV (toV d) (ds.map toV)
theorem in_at {n : Bool} {H0 H : Hp} {x y : V} {R : VK} (c : CellsR X.K H0 C H) (r1 : Rep X.K H0 d1 x) (r2 : Rep X.K H0 d2 y) (h : SeqD C d2 ds) (f1 : flatD d1 = true) (f2 : ds.all flatD = true) (k : R (.bl (if n then !inD d1 ds else inD d1 ds)) H) : rIn X.K n x y H R := by
  obtain ⟨e1, g1⟩ := flat_at r1 f1
  rcases h with h | h
  · obtain ⟨a, vs, e2, h2, h3⟩ := lst_at c r2 h
    obtain ⟨e3, g3⟩ := flats_at h3 f2
    refine ⟨a, vs, e2, .inl h2, g1, g3, ?_⟩
    rw [e1, e3]; exact k
  · subst h
    obtain ⟨a, vs, e2, h2, h3⟩ := tup_at c r2
    obtain ⟨e3, g3⟩ := flats_at h3 f2
    refine ⟨a, vs, e2, .inr h2, g1, g3, ?_⟩
    rw [e1, e3]; exact k
theorem ow_in (h : SeqD C d2 ds) (f1 : flatD d1 = true) (f2 : ds.all flatD = true) (q : Q (.bl (inD d1 ds)) C) : OW T (compareOp .In) d1 d2 C Q :=
  ow_look (d := .bl (inD d1 ds)) op_in_seq (fun u v H H0 c r1 r2 => ⟨.bl (inD d1 ds), rfl, fun R k => in_at (n := false) c r1 r2 h f1 f2 k⟩) q
theorem ow_notIn (h : SeqD C d2 ds) (f1 : flatD d1 = true) (f2 : ds.all flatD = true) (q : Q (.bl (!inD d1 ds)) C) : OW T (compareOp .NotIn) d1 d2 C Q :=
  ow_look (d := .bl (!inD d1 ds)) op_notIn_seq (fun u v H H0 c r1 r2 => ⟨.bl (!inD d1 ds), rfl, fun R k => in_at (n := true) c r1 r2 h f1 f2 k⟩) q
theorem inD_strs {s : Str} : ∀ {xs : List Str}, inD (.str s) (xs.map D.str) = decide (s ∈ xs)
  | [] => by simp [inD, inV]
  | x :: xs => by
    have ih := inD_strs (s := s) (xs := xs)
    unfold inD inV at ih ⊢
    rw [List.map_cons, List.map_cons, List.any_cons, ih]
    have : eqV (toV (.str x)) (toV (.str s)) = (x == s) := rfl
    rw [this]
    by_cases h : x = s
    · simp [h]
    · simp [h, Ne.symm h]
theorem ow_inSign {n : Nat} {z : Str} (q : Q (.bl (decide (n ∈ z.cps.toList))) C) : OW T (compareOp .In) (.str ⟨#[n]⟩) (.str z) C Q :=
  ow_look (d := .bl (decide (n ∈ z.cps.toList))) op_in_sign (fun u v H H0 c r1 r2 => by cases r1; cases r2; exact ⟨.bl (decide (n ∈ z.cps.toList)), rfl, fun R k => ⟨n, z, rfl, rfl, k⟩⟩) q

end
end Tr

set_option maxHeartbeats 2000000
namespace Tr
open PySem L2 PySem.Spec PyProof.Rows

def lawFS : FS := fun ds C Q _ => ∃ ns : List Int, ds = [.lst (ns.map .int)] ∧ ns.length ≤ 63 ∧ C = [] ∧ ∀ C', Q (.bl true) C'
theorem cells_nil (K : W.Frag) (H : Hp) : CellsR K H [] H := ⟨Same.refl _, fun a ⟨_, h⟩ => (by cases h), fun a c h => (by cases h), List.nodup_nil⟩
theorem law_sp {K : W.Frag} {H : Hp} {a : Addr} {ns : List Int} (hl : ns.length ≤ 63) (hs : SqL K H a (ns.map V.int)) : spT K lawFS [.ref a] H (fun v _ => v = .bl true) fun _ _ _ => False :=
  ⟨H, [.lst (ns.map .int)], [], fun d _ => d = .bl true, fun _ _ _ => False, cells_nil K H, Reps.cons ⟨a, _, rfl, hs, Reps.ints ns⟩ Reps.nil, ⟨ns, rfl, hl, rfl, fun _ => rfl⟩,
    fun v d C' H' H0' _ _ r e => (by subst e; exact r), fun _ _ _ _ _ _ _ _ _ q => q⟩
section
variable {P : Program} {w : World} {K : W.Frag} {mg mb : Str → Option Value} {k : Nat} {fa a : Addr} {fd : FuncData} {x : Str} {s₁ : Shared} {vs : List Value} {ns : List Int}
theorem law_from (H : Hp) (hO : Only H) (hS : SqL K H a (ns.map V.int)) (hok : HOk P w H s₁.heap) (hA : ∀ b, H b ≠ none → b = a) (hK : H a ≠ none → K.lookup a = none)
    (KX : K.In s₁.heap) (hns : s₁.heap.Ns mainGlobals mg) (hb : s₁.heap.Ns builtinsNs mb) (hbb : ∀ x : Str, x ≠ "__name__" → mb x = bootBuiltins x) (hlim : s₁.heap.NoLimit) (hg : s₁.gens = #[])
    (ha : s₁.heap.get? a = some { cls := .type "list", data := .seq vs.toArray }) (hl : ns.length ≤ 63) (hr : RoomG k callerA)
    (F : ∀ base : Heap, K.In base → base.Ns mainGlobals mg → FnG P w K mg base k fa fd [x] lawFS) (hbind : ∀ (s : Shared) (u : Value), BindsTo s fd ⟨[u], []⟩ [(x, u)]) :
    codeAny (model P w) callerA (.call (.ref fa) ⟨[.ref a], []⟩) (fun r s' => r = .ok (.ret (.bool true)) ∧ OldK s₁.heap s'.heap ∧ s'.os = s₁.os ∧ AllBare s'.gens) s₁ := by
  have only : ∀ {b : Addr}, b ≠ a → H b = none := fun {b} ne => Classical.byContradiction fun h => ne (hA b h)
  have dicts : ∀ {b : Addr} {o : Obj} {es : Array DictEntry} {ep : Nat}, s₁.heap.get? b = some o → o.data = .dict es ep → (hidT s₁.heap H).get? b = some o := fun {b o es ep} e d => hidT_get e (by
    refine only fun eq => ?_
    subst eq
    rw [ha] at e; cases e; cases d)
  have names : ∀ {b : Addr} {m : Str → Option Value}, s₁.heap.Ns b m → (hidT s₁.heap H).Ns b m := fun {b m} ⟨o, es, ep, e, d, r⟩ => ⟨o, es, ep, dicts e d, d, r⟩
  have kin : K.In (hidT s₁.heap H) := fun b o e => hidT_get (KX b o e) (by
    by_cases eq : b = a
    · subst eq
      exact Classical.byContradiction fun h => by rw [hK h] at e; cases e
    · exact only eq)
  have lim : (hidT s₁.heap H).NoLimit := let ⟨mc, h1, h2⟩ := hlim; ⟨mc, names h1, h2⟩
  have e0 : Env0 P w K mg (hidT s₁.heap H) callerA [] s₁ H := ⟨rfl, ⟨kin, names hns, ⟨mb, names hb, hbb⟩, lim⟩, fun b o e => of_hidT e, Nat.le_of_eq (hidT_size _ _), trivial, fun b hb => absurd (show b ∈ ([] : List Addr) from hb) (by simp), hok, .of_eq hg⟩
  have went := (F _ kin (names hns)).run callerA [] s₁ H ⟨[.ref a], []⟩ [.ref a] [.ref a] _ _ hr e0 (hbind s₁ (.ref a)) (.cons rfl .nil) (law_sp hl hS)
  refine codeAny_mono went ?_
  rintro (e | (_ | _ | _ | u)) s' h
  · obtain ⟨_, _, _, _, _, _, _, _, _, _, _, _, z⟩ := h
    exact z.elim
  · exact False.elim h
  · exact False.elim h
  · exact False.elim h
  · obtain ⟨v, H', os, bare, un, hok', r', q⟩ := h
    subst q
    obtain rfl : u = Value.bool true := r'
    refine ⟨rfl, OldK.of_keep fun b o e => ?_, os, bare⟩
    rcases hO b with z | ⟨ob, xs, z⟩
    · exact un.keep b o e z (by intro z; exact absurd (show b ∈ ([] : List Addr) from z) (by simp)) (by simp)
    · obtain ⟨e1, _⟩ := hok b _ z
      obtain ⟨e2, _⟩ := hok' b _ (un.frzs b ob _ z)
      rw [e] at e1; cases e1
      exact e2
theorem law_goes (KX : K.In s₁.heap) (hns : s₁.heap.Ns mainGlobals mg) (hb : s₁.heap.Ns builtinsNs mb) (hbb : ∀ x : Str, x ≠ "__name__" → mb x = bootBuiltins x) (hlim : s₁.heap.NoLimit) (hg : s₁.gens = #[])
    (ha : s₁.heap.get? a = some { cls := .type "list", data := .seq vs.toArray }) (hi : IntsAre vs ns) (hl : ns.length ≤ 63) (hr : RoomG k callerA)
    (F : ∀ base : Heap, K.In base → base.Ns mainGlobals mg → FnG P w K mg base k fa fd [x] lawFS) (hbind : ∀ (s : Shared) (u : Value), BindsTo s fd ⟨[u], []⟩ [(x, u)]) :
    codeAny (model P w) callerA (.call (.ref fa) ⟨[.ref a], []⟩) (fun r s' => r = .ok (.ret (.bool true)) ∧ OldK s₁.heap s'.heap ∧ s'.os = s₁.os ∧ AllBare s'.gens) s₁ := by
  have rv := vals_ints hi
  have hsz : ns.length ≤ sizeLine := Nat.le_trans hl (by decide)
  cases hk : K.lookup a with
  | some o =>
    have e := KX a o hk
    rw [ha] at e; cases e
    exact law_from (fun _ => none) (fun _ => .inl rfl) (.inr ⟨_, vs.toArray, _, hk, rfl, rfl, rfl, by rw [List.size_toArray, hi.length]; exact hsz, by simpa using rv⟩) (fun b u z => by cases z) (fun b z => absurd rfl z) (fun z => absurd rfl z) KX hns hb hbb hlim hg ha hl hr F hbind
  | none =>
    have at_a : ∀ b u, (if b = a then some (HO.frz { cls := .type "list", data := .seq vs.toArray } (.lst (ns.map V.int))) else none) = some u → b = a ∧ u = HO.frz { cls := .type "list", data := .seq vs.toArray } (.lst (ns.map V.int)) := fun b u z => by
      split at z
      · rename_i e; exact ⟨e, (Option.some.inj z).symm⟩
      · cases z
    refine law_from (fun b => if b = a then some (.frz { cls := .type "list", data := .seq vs.toArray } (.lst (ns.map V.int))) else none) (fun b => ?_) (.inl (.inr ⟨{ cls := .type "list", data := .seq vs.toArray }, if_pos rfl⟩)) (fun b u z => ?_) (fun b z => ?_) (fun _ => hk) KX hns hb hbb hlim hg ha hl hr F hbind
    · by_cases e : b = a
      · exact .inr ⟨_, _, if_pos e⟩
      · exact .inl (if_neg e)
    · obtain ⟨e1, e2⟩ := at_a b u z
      subst e1; subst e2
      exact ⟨ha, by rw [List.length_map]; exact hsz, vs, _, rv, ha⟩
    · by_cases e : b = a
      · exact e
      · exact absurd (if_neg e) z
end
end Tr

set_option maxHeartbeats 2000000
namespace Tr
open PySem L2 PySem.Spec PyProof.Rows

section
open AutoSeq1 (wpAny_loadPart')
theorem meets_enumT (l : Addr) (items : Array Value) (n : Nat) (dct : Option Addr) (sl : Array (Option Value)) :
    Meets (Builtin.«enumerate.__new__» ⟨[.type "enumerate", .ref l], []⟩) (fun _ R s => s.heap.get? l = some { cls := .type "tuple", dict := dct, data := .seq items n, slots := sl } ∧
      R (.ok (.ret (.ref (s.heap.push { cls := .type "tuple_iterator", data := .fields #[.ref l, .int 0 0] }).objs.size)))
        { s with heap := (s.heap.push { cls := .type "tuple_iterator", data := .fields #[.ref l, .int 0 0] }).push { cls := .type "enumerate", data := .fields #[.none, .bool false, .ref s.heap.objs.size, rawInt 0, .none, .none] } }) :=
  .of_wp fun prog w A R s h => by
    obtain ⟨hp, g, d, tk, os⟩ := s
    obtain ⟨hl, h⟩ := h
    have hsub := sub_enumerate
    have hL : Heap.IsTuple (Shared.heap ⟨hp, g, d, tk, os⟩) l items := ⟨_, hl, rfl, n, rfl⟩
    wp_walk using wpAny_loadPart' hl
    refine wpAny_stack_any fun st => wpAny_pure ?_
    split
    · rename_i c _ _ _ _ _
      cases (c == Value.type "enumerate")
      · wp_walk using wpAny_loadPart' hl, wpAny_pyIter_tuple hL
        exact ⟨_, rfl, h⟩
      · wp_walk using wpAny_loadPart' hl, wpAny_pyIter_tuple hL
        exact ⟨_, rfl, h⟩
    · wp_walk using wpAny_loadPart' hl, wpAny_pyIter_tuple hL
      exact ⟨_, rfl, h⟩
end
theorem call_enumT {prog : Program} {w : World} {A : Around} {E : Value → Shared → Prop} {s : Shared} {l : Addr} {items : Array Value} {Q : Value → Shared → Prop} (hL : IsTup s.heap l items)
    (h : ∀ h', IsEnum h' (s.heap.objs.size + 1) s.heap.objs.size 0 .none → h'.IsTupleIter s.heap.objs.size l 0 → (∀ b o, s.heap.get? b = some o → h'.get? b = some o) → Q (.ref (s.heap.objs.size + 1)) { s with heap := h' }) :
    wpAny (model prog w) A (call (.type "enumerate") [.ref l]) Q E s := by
  obtain ⟨⟨c, dct, dt, sl⟩, hl, hc, n, hd⟩ := hL
  simp only at hc hd
  subst hc hd
  refine callType_new F.called_enumerate (by decide) (F.typeCall_enumerate_1 _) (F.newCall_enumerate_1 _) (fun obj => F.args_object_init_2 obj _) F.entry_enumerate_new (meets_enumT l items n dct sl) ⟨hl, ?_⟩
  have hz : (s.heap.push { cls := .type "tuple_iterator", data := .fields #[.ref l, .int 0 0] }).objs.size = s.heap.objs.size + 1 := Heap.size_push ..
  show _ ∧ _
  rw [hz]
  have he := Heap.get?_push_size (s.heap.push { cls := .type "tuple_iterator", data := .fields #[.ref l, .int 0 0] }) (o := { cls := .type "enumerate", data := .fields #[.none, .bool false, .ref s.heap.objs.size, rawInt 0, .none, .none] }) rfl
  rw [hz] at he
  exact ⟨⟨_, he, rfl⟩, h _ he ⟨_, Heap.get?_push_of_some _ (Heap.get?_push_size _ rfl), rfl, rfl⟩ fun b o x => Heap.get?_push_of_some _ (Heap.get?_push_of_some _ x)⟩
def IteT (K : W.Frag) (a : Addr) : It :=
  ⟨fun i H => ∃ (xs : List V) (x : V), SqT K H a xs ∧ xs[i]? = some x, fun i H v H' => ∃ T x, v = .ref T ∧ H T = none ∧ H' = upd H T (.tup [.int (i : Nat), x]) ∧ ∀ xs, SqT K H a xs → xs[i]? = some x, fun i H => ∃ xs : List V, SqT K H a xs ∧ xs.length ≤ i⟩
theorem turn_enumT {P : Program} {w : World} {K : W.Frag} {elts : List Expr} {kk : Nat} {tpos : Pos} (a e it : Addr) :
    Turn P w K (.Tuple elts kk tpos) (IteT K a) [e, it] e (fun i h => (∃ old, IsEnum h e it ((i : Nat) : Int) old) ∧ h.IsTupleIter it a i ∧ e ≠ it) where
  mem := by simp
  obj := fun i h st b hb => by
    obtain ⟨⟨old, he⟩, ⟨o, ho, hc, hd⟩, _⟩ := st
    rcases (show b = e ∨ b = it by simpa using hb) with z | z
    · rw [z]; exact ⟨_, he, fun v q => nomatch q⟩
    · rw [z]; exact ⟨o, ho, fun v q => by rw [hd] at q; cases q⟩
  keep := fun i h h' st k => let ⟨⟨old, he⟩, hi, hne⟩ := st; ⟨⟨old, k e (by simp) _ he⟩, hi.at fun o q => k it (by simp) o q, hne⟩
  item := by
    intro X hP hw hK hc i pins s σ H E I hf st ⟨xs, x, hq, hx⟩
    subst hP hw hK
    obtain ⟨⟨old, he⟩, hit, hne⟩ := st
    obtain ⟨its, rv, p, hz⟩ := I.tuple hq
    obtain ⟨u, hu, ru⟩ := rv.get hx
    have hel : e < s.heap.objs.size := Heap.lt_size he
    have hil : it < s.heap.objs.size := by obtain ⟨_, q, _⟩ := hit; exact Heap.lt_size q
    have hat : a ≠ it := fun z => by
      obtain ⟨o1, q1, c1, _⟩ := hit
      obtain ⟨o2, q2, c2, _⟩ := p
      rw [z] at q2
      rw [q1] at q2; cases q2
      rw [c1] at c2; injection c2 with z; exact absurd z (by decide)
    have hea : e ≠ a := fun z => by
      obtain ⟨o2, q2, c2, _⟩ := p
      rw [← z, show s.heap.get? e = _ from he] at q2; cases q2
      injection c2 with z; exact absurd z (by decide)
    have hxl : i < its.toArray.size := by
      have := (List.getElem?_eq_some_iff.mp hu).1
      simpa using this
    refine wpAny_pyNext_enum_itemD (Draws.tuple (A := X.A.in1) (show X.A.in1.handled = none from I.ok.hd hc) it a hat its.toArray) he ⟨hit, p⟩ hxl hne (by simp [hne, hea]) fun y h' tk hy ho st' hT hsz hk => ?_
    have ey : y = u := by
      have h1 : its.toArray[i]? = some y := hy
      have h2 : its.toArray[i]? = some u := by simpa using hu
      rw [h1] at h2; exact Option.some.inj h2
    subst ey
    obtain ⟨hit', _⟩ := st'
    refine ⟨_, rfl, wpAny_letOwnedTupleGo_enum (s := { s with heap := h', toks := tk + 1 }) ho fun h'' he' sb => ?_⟩
    have hT2 : h''.get? s.heap.objs.size = some { cls := .type "tuple", data := .seq #[.int i tk, y] } := (sb.2 _ (Nat.ne_of_gt hel)).trans hT
    have new : ObjOk X.prog X.w (upd H s.heap.objs.size (.tup [.int (i : Nat), x])) h'' s.heap.objs.size (.tup [.int (i : Nat), x]) :=
      ⟨by show 2 ≤ sizeLine; decide, [.int i tk, y], .cons ⟨_, rfl⟩ (.cons ru .nil), ⟨_, hT2, rfl, _, rfl⟩⟩
    have I1 : Inv X pins σ (upd H s.heap.objs.size (.tup [.int (i : Nat), x])) { s with heap := h'', toks := tk + 1 } :=
      I.turnedNew (ch := [e, it]) (fun b ob hb q => (sb.2 b (fun z => hb (by simp [z]))).trans (hk b ob (fun z => hb (by simp [z])) (fun z => hb (by simp [z])) q)) hf (Nat.le_refl _) new
    refine ⟨.ref s.heap.objs.size, _, I1, rfl, ⟨_, x, rfl, I.hok.fresh (Nat.le_refl _), rfl, fun ys hy => by rw [I.tuple_inj hy hq]; exact hx⟩, ⟨⟨y, ?_⟩, hit'.at fun o q => (sb.2 it (Ne.symm hne)).trans q, hne⟩, fun b hb => ?_⟩
    · rw [show ((i + 1 : Nat) : Int) = (i : Int) + 1 by omega]; exact he'
    · have hb' : b < s.heap.objs.size := by
        rcases (show b = e ∨ b = it by simpa using hb) with z | z
        · rw [z]; exact hel
        · rw [z]; exact hil
      rw [upd_ne (Nat.ne_of_lt hb')]
      exact (hf b hb).1
  done := by
    intro X hP hw hK hc i pins s σ H E I hf st ⟨xs, hq, hx⟩
    subst hP hw hK
    obtain ⟨⟨old, he⟩, hit, hne⟩ := st
    obtain ⟨its, rv, p, hz⟩ := I.tuple hq
    obtain ⟨f0, f1, f2, f3, f4, f5⟩ := hf it (by simp)
    have hl := rv.length
    have hT : s.TypeIs (.ref e) "enumerate" := ⟨_, he, rfl⟩
    unfold pyNext
    refine wpAny_bind (wpAny_attempt (wpAny_callSpecial?_slot (name := Str.ofString "__next__") hT PySem.F.slot_enumerate_next
      (wpAny_call_entry PySem.F.slot_enumerate_next hT PySem.F.entry_enumerate_next ?_ (PySem.F.args_enumerate_next_1 _))))
    show wpAny _ _ (field (.ref e) 2 >>= _) _ _ _
    refine wpAny_bind (wpAny_field he rfl (x := .ref it) rfl ?_)
    refine wpAny_bind (wpAny_nextOf_tuple_end (show X.A.in1.handled = none from I.ok.hd hc) hit p (by simp; omega) fun h' x he' hx' => ?_)
    obtain ⟨o, ho, hc'⟩ := hx'
    refine wpAny_bind (wpAny_isInstance (T := "StopIteration") (b := true) ⟨o, ho, hc'⟩ isSubtype_stop ?_)
    exact wpAny_pure ⟨rfl, I.turned (t' := s.toks) (fun b o hb q => he' b o hb q) f0 f1 f3 f4 f5⟩
  self := fun A i s Q E st h => let ⟨⟨_, he⟩, _⟩ := st; wpAny_pyIter_enum he h
section
variable {X : Cx} {T : TX X} {ρ : Rho} {C : Cells} {Q : QE} {e a b c o : Expr} {pos p apos cpos tpos : Pos} {es elts : List Expr} {d d1 d2 : D} {ds ds2 : List D} {kk : Nat}
theorem pi_enumT {ta : TA} (hg : Gl X "enumerate") (hm : X.mg "enumerate" = none) (ha : PA X [e] ta) (hs : starEach [e] X.env = [(false, eval e X.env)] := by rfl) :
    PI X (.Tuple elts kk tpos) (.Call (.Name "enumerate" p) [e] [] pos) (fun σ H R => ta σ H fun vs H1 => ∃ a xs, vs = [.ref a] ∧ ((SqL X.K H1 a xs ∧ R (Ite X.K a) H1) ∨ (SqT X.K H1 a xs ∧ R (IteT X.K a) H1))) := by
  refine ⟨fun pins s σ H R I h => ?_⟩
  refine Call_ (ld_blt I hg hm boot_enumerate (callWith_type1 (thn (ha.run pos pins s σ H _ I h) fun us s1 ⟨vs, H1, I1, r1, a, xs, ex, q1⟩ => ?_) hs rfl))
  subst ex
  obtain ⟨u, rfl, r⟩ := r1.one
  cases (show u = Value.ref a from r)
  have fpk : ∀ b ∈ [s1.heap.objs.size + 1, s1.heap.objs.size], FpOk X pins H1 b := fun b hb => by
    have hle : s1.heap.objs.size ≤ b := by
      rcases (show b = s1.heap.objs.size + 1 ∨ b = s1.heap.objs.size by simpa using hb) with z | z
      · rw [z]; exact Nat.le_add_right _ _
      · rw [z]; exact Nat.le_refl _
    exact I1.fpOk hle (I1.hok.fresh hle)
  rcases q1 with ⟨hq, q⟩ | ⟨hq, q⟩
  · obtain ⟨its, rv, p', hz⟩ := I1.list hq
    refine call_enumerate_list p'.isList fun h' he hit hsz hk => wpAny_pyIter_enum he ?_
    exact ⟨s1.heap.objs.size + 1, [s1.heap.objs.size + 1, s1.heap.objs.size], _, _, H1, rfl, I1.kept (t' := s1.toks) hk, turn_enum a (s1.heap.objs.size + 1) s1.heap.objs.size, ⟨⟨.none, he⟩, hit, Nat.succ_ne_self _⟩, fpk, q⟩
  · obtain ⟨its, rv, p', hz⟩ := I1.tuple hq
    refine call_enumT p' fun h' he hit hk => wpAny_pyIter_enum he ?_
    exact ⟨s1.heap.objs.size + 1, [s1.heap.objs.size + 1, s1.heap.objs.size], _, _, H1, rfl, I1.kept (t' := s1.toks) hk, turn_enumT a (s1.heap.objs.size + 1) s1.heap.objs.size, ⟨⟨.none, he⟩, hit, Nat.succ_ne_self _⟩, fpk, q⟩
def enumD : Nat → List D → List D
  | _, [] => []
  | n, d :: ds => .tup [.int n, d] :: enumD (n + 1) ds
theorem enumD_len : ∀ (ds : List D) (n : Nat), (enumD n ds).length = ds.length
  | [], _ => rfl
  | _ :: ds, n => by simp [enumD, enumD_len ds]
theorem enumD_get : ∀ {ds : List D} {n i : Nat} {d : D}, (enumD n ds)[i]? = some d → ∃ y, ds[i]? = some y ∧ d = .tup [.int ((n + i : Nat) : Int), y]
  | [], _, _, _, h => by simp [enumD] at h
  | x :: ds, n, 0, d, h => by simp [enumD] at h; exact ⟨x, rfl, h.symm⟩
  | x :: ds, n, i + 1, d, h => by
    obtain ⟨y, h1, h2⟩ := enumD_get (ds := ds) (n := n + 1) (i := i) (d := d) (by simpa [enumD] using h)
    exact ⟨y, by simpa using h1, by rw [h2]; congr 3; omega⟩
theorem pair_rep {K : W.Frag} {H0 H : Hp} {C : Cells} {Tp : Addr} {i : Nat} {x : V} {y : D} (c : CellsR K H0 C H) (n : H Tp = none) (r : Rep K H0 y x) :
    ∃ H0', Stp H0 C H H0' C (upd H Tp (.tup [.int (i : Nat), x])) ∧ CellsR K H0' C (upd H Tp (.tup [.int (i : Nat), x])) ∧ Rep K H0' (.tup [.int (i : Nat), y]) (.ref Tp) := by
  obtain ⟨p2, c2⟩ := stp_new (o := .tup [.int (i : Nat), x]) c n
  exact ⟨_, p2, c2, Tp, _, rfl, .inl (.inl upd_same), Reps.cons rfl (Reps.cons (r.mono p2.base) Reps.nil)⟩
theorem yields_enumT {K : W.Frag} {H0 : Hp} {a : Addr} {vs : List V} (hs : SqT K H0 a vs) (r : Reps K H0 ds vs) : Yields K (IteT K a) H0 (fun _ => True) (enumD 0 ds) where
  go := fun i H0' C H e c _ hi => ⟨vs, vs[i]'(by rw [← r.length, ← enumD_len ds 0]; exact hi), Same.sqT (e.trans c.same) hs, by simp⟩
  stop := fun i H0' C H e c _ hi => ⟨vs, Same.sqT (e.trans c.same) hs, by rw [← r.length, ← enumD_len ds 0]; exact hi⟩
  yld := fun i H0' C H x H' d e c _ hd ⟨Tp, z, e1, n, e2, q⟩ => by
    subst e1; subst e2
    obtain ⟨y, g1, g2⟩ := enumD_get hd
    obtain ⟨v, f1, f2⟩ := r.get g1
    have := q vs (Same.sqT (e.trans c.same) hs)
    rw [f1] at this; cases this
    subst g2
    rw [Nat.zero_add]
    exact pair_rep c n (f2.mono e)
theorem yields_enumL {K : W.Frag} {H0 : Hp} {a : Addr} {vs : List V} (hs : SqL K H0 a vs) (r : Reps K H0 ds vs) : Yields K (Ite K a) H0 (fun _ => True) (enumD 0 ds) where
  go := fun i H0' C H e c _ hi => ⟨vs, vs[i]'(by rw [← r.length, ← enumD_len ds 0]; exact hi), Same.sqL (e.trans c.same) hs, by simp⟩
  stop := fun i H0' C H e c _ hi => ⟨vs, Same.sqL (e.trans c.same) hs, by rw [← r.length, ← enumD_len ds 0]; exact hi⟩
  yld := fun i H0' C H x H' d e c _ hd ⟨Tp, z, e1, n, e2, q⟩ => by
    subst e1; subst e2
    obtain ⟨y, g1, g2⟩ := enumD_get hd
    obtain ⟨v, f1, f2⟩ := r.get g1
    have := q vs (Same.sqL (e.trans c.same) hs)
    rw [f1] at this; cases this
    subst g2
    rw [Nat.zero_add]
    exact pair_rep c n (f2.mono e)
theorem yields_enumC {K : W.Frag} {H0 : Hp} {a : Addr} : Yields K (Ite K a) H0 (fun C => (a, Cell.lst ds) ∈ C) (enumD 0 ds) where
  go := fun i H0' C H e c hm hi => by
    obtain ⟨vs, h1, h2⟩ := c.ok a _ hm
    exact ⟨vs, vs[i]'(by rw [← h2.length, ← enumD_len ds 0]; exact hi), .inl (.inl h1), by simp⟩
  stop := fun i H0' C H e c hm hi => by
    obtain ⟨vs, h1, h2⟩ := c.ok a _ hm
    exact ⟨vs, .inl (.inl h1), by rw [← h2.length, ← enumD_len ds 0]; exact hi⟩
  yld := fun i H0' C H x H' d e c hm hd ⟨Tp, z, e1, n, e2, q⟩ => by
    subst e1; subst e2
    obtain ⟨vs, h1, h2⟩ := c.ok a _ hm
    obtain ⟨y, g1, g2⟩ := enumD_get hd
    obtain ⟨v, f1, f2⟩ := h2.get g1
    have := q vs (.inl (.inl h1))
    rw [f1] at this; cases this
    subst g2
    rw [Nat.zero_add]
    exact pair_rep c n f2
theorem wi_enum {Q : QI} (hg : Gl X "enumerate") (hm : X.mg "enumerate" = none)
    (h : WE T e ρ C fun d C1 => ∃ ds, ((d = .lst ds ∨ d = .tup ds) ∧ Q (enumD 0 ds) (fun _ => True) C1) ∨ (∃ z, d = .raw (.ref z) ∧ (z, Cell.lst ds) ∈ C1 ∧ Q (enumD 0 ds) (fun C => (z, Cell.lst ds) ∈ C) C1))
    (hs : starEach [e] X.env = [(false, eval e X.env)] := by rfl) (hs2 : starEach [e] X.env = (false, eval e X.env) :: starEach [] X.env := by rfl) : WI T (.Tuple elts kk tpos) (.Call (.Name "enumerate" p) [e] [] pos) ρ C Q := by
  refine PI.imp (pi_enumT hg hm (pa_cons h pa_nil hs2) hs) fun σ H R ⟨H0, at_, k⟩ => ⟨H0, at_, fun v d C1 H1 H01 p1 c1 r1 ⟨ds, q1⟩ => ?_⟩
  rcases q1 with ⟨h1, q⟩ | ⟨z, e1, hz, q⟩
  · rcases h1 with h1 | h1
    · subst h1
      obtain ⟨a, vs, e2, g1, g2⟩ := r1
      subst e2
      exact ⟨a, vs, rfl, .inl ⟨Same.sqL c1.same g1, k _ _ _ C1 H1 H01 p1 c1 (yields_enumL g1 g2) q⟩⟩
    · subst h1
      obtain ⟨a, vs, e2, g1, g2⟩ := r1
      subst e2
      exact ⟨a, vs, rfl, .inr ⟨Same.sqT c1.same g1, k _ _ _ C1 H1 H01 p1 c1 (yields_enumT g1 g2) q⟩⟩
  · subst e1
    obtain rfl : v = .ref z := r1
    obtain ⟨vs, g1, g2⟩ := c1.ok z _ hz
    exact ⟨z, vs, rfl, .inl ⟨.inl (.inl g1), k _ _ _ C1 H1 H01 p1 c1 yields_enumC q⟩⟩
end
end Tr

set_option maxHeartbeats 2000000
namespace Tr
open PySem L2 PySem.Spec PyProof.Rows

section
variable {K : W.Frag} {x qual : Str} {args : Arguments} {body : List Stmt} {scope : Scope} {f T : Addr} {oc kV doc pm cdv ct oT : Value} {od an dT : Option Addr} {osl sT : Array (Option Value)} {its : List Value} {n : Nat} {dvs : List V} {fd : FuncData} {ps : List Str}
theorem binds_all (F : FunD K x qual args body scope dvs [] f fd) (n : Nat) (hn : n = ps.length) (hd : dvs ≠ [])
    (h : ∀ (T : Addr) (kV doc pm : Value) (an : Option Addr) (cdv ct : Value) (us its : List Value), us.length = n → its.length = dvs.length →
      ∃ k, bindArgs (W.fnOf x qual args body scope (.ref T) kV doc pm an cdv ct) ⟨us, []⟩ = seqItems? (.ref T) >>= k ∧ k (some its.toArray) = pure (ps.zip us)) : Binds K fd ps [] := by
  obtain ⟨ds, h1, h2⟩ := F.binds1 (ps := ps) n dvs.length hd (by omega) fun T kV doc pm an cdv ct us its hu hi => by
    obtain ⟨k, e1, e2⟩ := h T kV doc pm an cdv ct us its hu hi
    exact ⟨k, e1, by rw [e2, List.drop_of_length_le (by omega), List.append_nil]⟩
  rw [List.drop_length] at h1
  cases h1
  exact h2
theorem kit_ref {C : Addr} {t : Value} {b : Bool} {cd : ClassData} (cl : W.clsIn K C = some cd) (ty : W.typeIn K (.ref C) = some (.type "type")) (ss : W.subIn K t (.ref C) = some b) (ne : (t == .ref C) = false) : W.kitOne K t (.ref C) = some b := by
  unfold W.kitOne
  rw [ne]
  simp only [Bool.false_eq_true, if_false]
  unfold W.kitCls
  simp only [cl, ty, ss]
  rfl
theorem kit_self {C : Addr} : W.kitOne K (.ref C) (.ref C) = some true := by
  unfold W.kitOne
  simp
theorem rep_ktup {H : Hp} {a : Addr} {vs : List V} {ds : List D} (l : K.lookup a = some ⟨.type "tuple", od, .seq its.toArray n, osl⟩) (hz : its.length ≤ 100000) (hv : Vals vs its) (r : Reps K H ds vs) : Rep K H (.tup ds) (.ref a) :=
  ⟨a, vs, rfl, .inr ⟨_, _, n, l, rfl, rfl, Nat.le_trans (by simpa using hz) (show 100000 ≤ sizeLine by decide), by simpa using hv⟩, r⟩
end
end Tr

set_option maxHeartbeats 2000000
namespace Tr
open PySem L2 PySem.Spec PyProof.Rows
theorem nn {b : Bool} (h : ¬ (!b) = true) : b = true := by cases b with | true => rfl | false => exact absurd rfl h
theorem nd {p : Prop} [Decidable p] (h : ¬ (!decide p) = true) : p := of_decide_eq_true (nn h)
section
variable {X : Cx} {T : TX X} {ρ : Rho} {C : Cells} {Q : QE} {e a b c o : Expr} {pos p apos cpos tpos : Pos} {es elts : List Expr} {d d1 d2 : D} {ds ds2 : List D} {N N' : TEnds} {st : List Stmt}
theorem wt_chain2 {op op' : CmpOp} {Q : QT} (h : WE T a ρ C fun d1 C1 => WE T b ρ C1 fun d2 C2 => OW T (compareOp op) d1 d2 C2 fun d C3 => ∃ k, d = .bl k ∧ if k = true then WE T c ρ C3 (fun d3 C4 => OW T (compareOp op') d2 d3 C4 fun d C5 => ∃ k, d = .bl k ∧ Q k C5) else Q false C3)
    (hm : lastMarks [op, op'] [b, c] = false := by with_unfolding_all rfl) : WT T (.Compare a [op, op'] [b, c] pos) ρ C Q :=
  wt_chain h (pt_chain (op_some T _) (op_some T _) h (pe_some T ρ b) (pe_some T ρ c) hm)
theorem WSs.mono (h : WSs T st ρ C N) (n : ∀ ρ C, N.nx ρ C → N'.nx ρ C) (r : ∀ d C, N.rt d C → N'.rt d C) (b : ∀ ρ C, N.bk ρ C → N'.bk ρ C) (c : ∀ ρ C, N.ct ρ C → N'.ct ρ C) : WSs T st ρ C N' :=
  PSs.imp h fun Dn σ H ⟨H0, at_, k⟩ => ⟨H0, at_, ⟨fun ρ' σ' C' H' H0' p cc s l q => k.nx ρ' σ' C' H' H0' p cc s l (n _ _ q), fun v d C' H' H0' p cc rr q => k.rt v d C' H' H0' p cc rr (r _ _ q),
    fun ρ' σ' C' H' H0' p cc s l q => k.bk ρ' σ' C' H' H0' p cc s l (b _ _ q), fun ρ' σ' C' H' H0' p cc s l q => k.ct ρ' σ' C' H' H0' p cc s l (c _ _ q)⟩⟩
theorem WG.mono {tg : Expr} {Q Q' : QS} (h : WG T tg d ρ C Q) (i : ∀ ρ C, Q ρ C → Q' ρ C) : WG T tg d ρ C Q' :=
  PG.imp h fun v σ H R ⟨H0, at_, r, k⟩ => ⟨H0, at_, r, fun ρ' σ' C' H' H0' p cc s l q => k ρ' σ' C' H' H0' p cc s l (i _ _ q)⟩
theorem Yields.weak {K : W.Frag} {J : It} {H0 : Hp} {P P' : Cells → Prop} (y : Yields K J H0 P ds) (i : ∀ C, P' C → P C) : Yields K J H0 P' ds :=
  ⟨fun i' H0' C H e c p hi => y.go i' H0' C H e c (i C p) hi, fun i' H0' C H e c p hi => y.stop i' H0' C H e c (i C p) hi, fun i' H0' C H x H' d e c p hd hy => y.yld i' H0' C H x H' d e c (i C p) hd hy⟩
theorem hu_G {k : Nat} {A : Around} (r : RoomG k A) : A.units + 64 < cLine := by have := r.rm.un; omega
theorem eqv_strs : ∀ xs ys : List Str, PyData.eqvAll (toPys (xs.map D.str)) (toPys (ys.map D.str)) = decide (xs = ys)
  | [], [] => rfl
  | [], y :: ys => by simp [toPys, PyData.eqvAll]
  | x :: xs, [] => by simp [toPys, PyData.eqvAll]
  | x :: xs, y :: ys => by
    have ih := eqv_strs xs ys
    rw [List.map_cons, List.map_cons]
    unfold toPys
    rw [PyData.eqvAll, ih]
    unfold toPy
    rw [PyData.eqv]
    by_cases h1 : x = y <;> by_cases h2 : xs = ys <;> simp [h1, h2]
theorem lay_strs : ∀ {xs : List Str}, (∀ x ∈ xs, PyData.strOk x = true) → PyData.canLayAll0 (toPys (xs.map D.str)) = true ∧ PyData.depthAll (toPys (xs.map D.str)) = 0
  | [], _ => ⟨rfl, rfl⟩
  | x :: xs, h => by
    obtain ⟨h1, h2⟩ := lay_strs (xs := xs) fun y hy => h y (List.mem_cons_of_mem _ hy)
    rw [List.map_cons]
    unfold toPys
    refine ⟨?_, ?_⟩
    · rw [PyData.canLayAll0, h1]
      unfold toPy
      rw [PyData.canLay0, h x List.mem_cons_self]; rfl
    · rw [PyData.depthAll, h2]
      unfold toPy
      rw [PyData.depth]; rfl
theorem shaped_lstS {xs : List Str} (h : ∀ x ∈ xs, PyData.strOk x = true) : SeqAt.shaped (.list (toPys (xs.map D.str))) = true := by
  obtain ⟨h1, h2⟩ := lay_strs h
  unfold SeqAt.shaped
  rw [PyData.canLay0, h1, PyData.depth, h2]; rfl
theorem plain_strs : ∀ xs : List Str, plainDs (xs.map D.str) = true
  | [] => rfl
  | x :: xs => by rw [List.map_cons]; unfold plainDs; rw [plain_strs xs]; rfl
theorem pyR_l (h : LstD C d ds) (hp : plainDs ds = true) : PyR C d (.list (toPys ds)) := by
  rcases h with rfl | ⟨a, rfl, hm⟩
  · exact .inl ⟨hp, rfl⟩
  · exact .inr ⟨a, ds, rfl, hm, hp, rfl⟩
section
variable {xs ys : List Str} (hu : X.A.units + 64 < cLine) (hx : ∀ x ∈ xs, PyData.strOk x = true) (hy : ∀ x ∈ ys, PyData.strOk x = true)
include hu hx hy
end
theorem eqv_ints : ∀ xs ys : List Int, PyData.eqvAll (toPys (xs.map D.int)) (toPys (ys.map D.int)) = decide (xs = ys)
  | [], [] => rfl
  | [], y :: ys => by simp [toPys, PyData.eqvAll]
  | x :: xs, [] => by simp [toPys, PyData.eqvAll]
  | x :: xs, y :: ys => by
    have ih := eqv_ints xs ys
    rw [List.map_cons, List.map_cons]
    unfold toPys
    rw [PyData.eqvAll, ih]
    unfold toPy
    rw [PyData.eqv]
    by_cases h1 : x = y <;> by_cases h2 : xs = ys <;> simp [h1, h2]
theorem lay_ints : ∀ xs : List Int, PyData.canLayAll0 (toPys (xs.map D.int)) = true ∧ PyData.depthAll (toPys (xs.map D.int)) = 0
  | [] => ⟨rfl, rfl⟩
  | x :: xs => by
    obtain ⟨h1, h2⟩ := lay_ints xs
    rw [List.map_cons]
    unfold toPys
    refine ⟨?_, ?_⟩
    · rw [PyData.canLayAll0, h1]; rfl
    · rw [PyData.depthAll, h2]; rfl
theorem plain_ints : ∀ xs : List Int, plainDs (xs.map D.int) = true
  | [] => rfl
  | x :: xs => by rw [List.map_cons]; unfold plainDs; rw [plain_ints xs]; rfl
theorem shaped_lstI (xs : List Int) : SeqAt.shaped (.list (toPys (xs.map D.int))) = true := by
  obtain ⟨h1, h2⟩ := lay_ints xs
  unfold SeqAt.shaped
  rw [PyData.canLay0, h1, PyData.depth, h2]; rfl
theorem show_strs : ∀ {xs : List Str}, (∀ x ∈ xs, PyData.strOk x = true) →
    PyData.showableAll (toPys (xs.map D.str)) = true ∧ PyData.hasDictAll (toPys (xs.map D.str)) = false ∧ PyData.intsShortAll 8 (toPys (xs.map D.str)) = true ∧ PyData.weightAll (toPys (xs.map D.str)) = (xs.map (·.length)).sum + xs.length
  | [], _ => ⟨rfl, rfl, rfl, rfl⟩
  | x :: xs, h => by
    obtain ⟨h1, h2, h3, h4⟩ := show_strs (xs := xs) fun y hy => h y (List.mem_cons_of_mem _ hy)
    rw [List.map_cons]
    unfold toPys toPy
    refine ⟨?_, ?_, ?_, ?_⟩
    · rw [PyData.showableAll, h1]; rfl
    · rw [PyData.hasDictAll, h2]; rfl
    · rw [PyData.intsShortAll, h3]; rfl
    · rw [PyData.weightAll, h4, PyData.weight, List.map_cons, List.sum_cons, List.length_cons]
      show x.length + 1 + _ = _
      omega
def cutL {α : Type} (l : List α) (lo hi : Option Int) : List α := (l.drop (HT.sIx l.length 0 lo)).take (HT.sIx l.length l.length hi - HT.sIx l.length 0 lo)
theorem cutD_map {α : Type} (f : α → D) (l : List α) (lo hi : Option Int) : cutD (l.map f) lo hi = (cutL l lo hi).map f := by
  unfold cutD cutL
  rw [List.length_map, List.map_take, List.map_drop]
theorem stp_part {K : W.Frag} {H0 H : Hp} {C C' r : Cells} (c : CellsR K H0 C H) (pm : C.Perm (C' ++ r)) : Stp H0 C H H0 C' H ∧ CellsR K H0 C' H :=
  ⟨⟨Same.refl _, fun a o h _ => h, fun a h e n => ⟨e, fun ⟨x, hx⟩ => n ⟨x, pm.mem_iff.mpr (List.mem_append_left _ hx)⟩⟩⟩, c.part pm⟩
theorem wss_part {C' r : Cells} (pm : C.Perm (C' ++ r)) (h : WSs T st ρ C' N) : WSs T st ρ C N :=
  PSs.imp h fun Dn σ H ⟨H0, at_, k⟩ => let ⟨p, c⟩ := stp_part at_.c pm; ⟨H0, at_.step p c, k.after p c⟩
end
end Tr

set_option maxHeartbeats 2000000
namespace Tr
open PySem L2 PySem.Spec PyProof.Rows
section
variable {X : Cx} {T : TX X} {ρ : Rho} {C : Cells} {Q : QE} {e a b c o : Expr} {pos p apos cpos tpos px py pz pt : Pos} {es elts : List Expr} {d d1 d2 : D} {ds ds2 : List D} {N N' : TEnds} {st : List Stmt} {x y z : Str} {kt k2 : Nat} {pt2 : Pos}
theorem ws_par (i j : Nat) (hN : X.N.Nodup) (hi : X.N[i]? = some x) (hj : X.N[j]? = some y) (hij : i ≠ j) (hx : X.env.scope.names.lookup x = some .local) (hy : X.env.scope.names.lookup y = some .local)
    (hw : swappedStores [.Tuple [.Name x px, .Name y py] kt pt] (.Tuple [a, b] k2 pt2) X.env = pure (some [x, y]))
    (h : WA T [a, b] ρ C fun ds C1 => ∃ d1 d2, ds = [d1, d2] ∧ N.nx ((ρ.set i (some d1)).set j (some d2)) C1)
    (hs : swapsWithSole [.Tuple [.Name x px, .Name y py] kt pt] (.Tuple [a, b] k2 pt2) pos.line X.env = pure false := by rfl) (hc : X.calm = true := by rfl) :
    WS T (.Assign [.Tuple [.Name x px, .Name y py] kt pt] (.Tuple [a, b] k2 pt2) pos) ρ C N :=
  PS.imp (ps_par hc hN hi hj hij hx hy h hw hs) fun Dn σ H ⟨H0, at_, k⟩ => ⟨H0, at_, fun vs ds C1 H1 H01 p1 c1 r1 ⟨d1, d2, e1, q⟩ => by
    subst e1
    obtain ⟨v, w, e2, g1, g2⟩ := r1.two
    subst e2
    have at1 := at_.step p1 c1
    refine ⟨v, w, rfl, (k.after p1 c1).nx _ _ C1 H1 H01 (Stp.refl _ _ _) c1 (SlotsR.set j (SlotsR.set i at1.s g1 at1.l) g2 (by rw [List.length_set, List.length_set]; exact at1.l)) (by simp only [List.length_set]; exact at1.l) q⟩⟩
theorem ow_ne_bl {x y : Bool} (q : Q (.bl (x != y)) C) : OW T (compareOp .NotEq) (.bl x) (.bl y) C Q :=
  ow_look (d := .bl (x != y)) op_ne (fun u v H H0 c r1 r2 => by cases r1; cases r2; exact ⟨.bl (x != y), rfl, fun R k => ⟨rfl, by
    rw [show (!decide (V.bl x = V.bl y)) = (x != y) by cases x <;> cases y <;> decide]; exact k⟩⟩) q
theorem ow_eq_bl {x y : Bool} (q : Q (.bl (x == y)) C) : OW T (compareOp .Eq) (.bl x) (.bl y) C Q :=
  ow_look (d := .bl (x == y)) op_eq (fun u v H H0 c r1 r2 => by cases r1; cases r2; exact ⟨.bl (x == y), rfl, fun R k => ⟨rfl, by
    rw [show decide (V.bl x = V.bl y) = (x == y) by cases x <;> cases y <;> decide]; exact k⟩⟩) q
theorem we_frzI (h : WE T e ρ C fun d C1 => ∃ (i : Nat) (z Cl : Addr) (ns : List Str) (ds : List D), d = .raw (.ref z) ∧ C1[i]? = some (z, .ins Cl ns ds) ∧ Q (.ins Cl ns ds) (C1.eraseIdx i)) : WE T e ρ C Q :=
  we_frz (h.mono fun d C1 ⟨i, z, Cl, ns, ds, h1, h2, h3⟩ => ⟨i, z, _, h1, h2, h3⟩)
end
end Tr

set_option maxHeartbeats 4000000
namespace Tr
open PySem L2 PySem.Spec PyProof.Rows

section
variable {prog : Program} {w : World} {A : Around} {E : Value → Shared → Prop} {R : Result → Shared → Prop} {hp : Heap} {g : Array GenState} {d : Drawn} {t : Nat} {os : OsState}
variable {nm q : Str} {C N : Addr} {bs bm bmB : List Value} {hdct : Bool} {sn : List Str} {sub : List Value} {ab : Bool} {col : Option Bool} {dd : Option Addr} {k0 k1 k2 k3 k5 : Option Value} {B newId initId : String}
structure IniF (B initId : String) : Prop where
  pl : plainId initId = true
  en : entryFor table initId = some Builtin.«BaseException.__init__»
  ki : builtinKind initId = some .slot
  ro : Manifest.signature? initId = some ⟨.positional, "*", B, .self, [⟨"args", .varPos, false⟩]⟩
  ns : (B != "*") = true
theorem IniF.of {Z nI iI : String} (F : ExcCallFacts Z nI iI) : IniF Z iI := ⟨F.init.plain, F.initEntry, F.initKind, F.initRow, F.noStar⟩
theorem chk_ini (I : IniF B initId) {M : Model} {e : Addr} {oe : Obj} {us : List Value} {Z : Unit → Shared → Prop}
    (gC : hp.get? C = some (excClassObj nm q C N bs bm hdct sn sub ab col dd k0 k1 k2 k3 k5 newId)) (ge : hp.get? e = some oe) (ec : oe.cls = .ref C) (z : Z () ⟨hp, g, d, t, os⟩) : wpAny M A (checkBoundCall initId ⟨.ref e :: us, []⟩) Z E ⟨hp, g, d, t, os⟩ := by
  have ns := I.ns
  simp only [checkBoundCall, I.ki, I.ro]
  repeat (first | (with_reducible refine wpAny_loadPart_at ge ?_; rw [ec]) | with_reducible refine wpAny_loadPart_at gC ?_ | wp_step)
  refine wpAny_onRaise ?_
  rw [show ∀ (a b : String) (n : Nat), Bind.check ⟨.positional, "*", B, .self, [⟨"args", .varPos, false⟩]⟩ a b n (List.map (fun x => x.fst) ({ pos := Value.ref e :: us } : Args).kw) = pure () from fun a b n => check_star_args _ _ _ _ _ _]
  exact wpAny_pure z
theorem call_mwI (FB : IniF B initId) {u e t0 : Addr} {rest : List Value} {Q : Value → Shared → Prop}
    (hC : hp.get? C = some (excClassObj nm q C N bs bm hdct sn sub ab col dd k0 k1 k2 k3 k5 newId)) (he : hp.get? e = some (HandSPX.excO C t0)) (hu : hp.get? u = some (W.kxs_mw initId e)) (hrest : rest.length ≤ sizeLine)
    (hq : ∀ h' t1, (∀ b o, b ≠ e → hp.get? b = some o → h'.get? b = some o) → h'.get? e = some (HandSPX.excO C t1) → Q .none ⟨h', g, d, t, os⟩) :
    wpAny (model prog w) A (call (.ref u) rest) Q E ⟨hp, g, d, t, os⟩ := by
  refine wpAny_call (codeAny_of_tree ?_)
  show wpAny _ A.in1 (callAny (.ref u) ⟨rest, []⟩) _ _ _
  simp only [callAny]
  refine wpAny_bind (wpAny_load hu ?_)
  simp only [W.kxs_mw, show (Value.type "method-wrapper" == Value.type "method" || Value.type "method-wrapper" == Value.type "builtin_function_or_method" || Value.type "method-wrapper" == Value.type "method-wrapper") = true by decide, if_true]
  refine W.KFB.if_so (by decide) ?_
  refine wpAny_bind (chk_ini FB hC he rfl ?_)
  refine wpAny_bind (wpAny_pure (wpAny_pure ?_))
  refine ⟨plainId_quiet FB.pl _, codeAny_builtin FB.en ?_⟩
  rw [Around.under_plainId FB.pl _]
  wp_walk
  refine hq _ hp.objs.size (fun b o hb ho => ?_) ?_
  · rw [Heap.get?_update_other _ _ (Ne.symm hb)]
    exact Heap.get?_push_of_some _ ho
  · rw [Heap.get?_update_self _ (Heap.get?_push_of_some _ he) rfl]
    rfl
structure NewT (Z : String) (bm : List Value) : Prop where
  b : bm.contains (.type Z) = true
  a : bm.contains (.type "AttributeError") = false
  n : bm.contains (.type "NameError") = false
theorem chk_new {nI iI : String} {bmZ : List Value} (F : ExcBaseFacts B nI iI bmZ) (H : NewT B bm) {us : List Value} {Z : Unit → Shared → Prop}
    (gC : hp.get? C = some (excClassObj nm q C N bs bm hdct sn sub ab col dd k0 k1 k2 k3 k5 nI)) (z : Z () ⟨hp, g, d, t, os⟩) : wpAny (model prog w) A (checkBuiltinCall nI ⟨.ref C :: us, []⟩) Z E ⟨hp, g, d, t, os⟩ := by
  have c1 : (Value.ref C :: bm).contains (.type B) = true := by rw [List.contains_cons, H.b, Bool.or_true]
  have c2 := F.noStar
  simp only [checkBuiltinCall, F.newKind, F.newSplit, F.newRow]
  repeat (first | refine wpAny_loadPart_at gC ?_ | (refine wpAny_isSubtype_exc gC ?_; rw [c1]) | refine wpAny_staticBase_exc gC ?_ | refine wpAny_madeBy_exc gC ?_ | simp only [bne_self_eq_false, Bool.false_eq_true, if_false] | wp_step)
  exact z
theorem new_run {nI iI : String} {bmZ : List Value} (F : ExcBaseFacts B nI iI bmZ) (H : NewT B bm) {us : List Value}
    (gC : hp.get? C = some (excClassObj nm q C N bs bm hdct sn sub ab col dd k0 k1 k2 k3 k5 nI)) (hl : us.length ≤ sizeLine)
    (z : R (.ok (.ret (.ref (hp.objs.size + 1)))) ⟨(hp.push (W.kdv_tup us)).push (HandSPX.excO C hp.objs.size), g, d, t, os⟩) : codeAny (model prog w) A (.builtin nI ⟨.ref C :: us, []⟩) R ⟨hp, g, d, t, os⟩ := by
  have e0 := F.ends
  have c1 : (Value.ref C :: bm).contains (.type B) = true := by rw [List.contains_cons, H.b, Bool.or_true]
  have c2 : (Value.ref C :: bm).contains (.type "AttributeError") = false := by rw [List.contains_cons, H.a]; rfl
  have c3 : (Value.ref C :: bm).contains (.type "NameError") = false := by rw [List.contains_cons, H.n]; rfl
  refine codeAny_builtinAt F.entry ?_
  unfold Builtin.«BaseException.__new__»
  refine _root_.PySem.wpAt_bind ?_
  show _root_.PySem.wpAt _ _ _ (stack >>= _) _ _ _
  refine _root_.PySem.wpAt_bind (_root_.PySem.wpAt_stack fun p0 b0 => _root_.PySem.wpAt_of_wpAny ?_)
  wp_walk
  refine _root_.PySem.wpAt_of_wpAny ?_
  rw [F.owner]
  repeat (first | with_reducible refine wpAny_madeHere_exc F.canon gC ?_ | with_reducible refine wpAny_loadPart_at gC ?_ | (with_reducible refine wpAny_isSubtype_exc gC ?_; first | rw [c1] | rw [c2] | rw [c3]) | wp_step)
  show R _ _
  rw [Heap.size_push]
  exact z
theorem tcall_run {nI iI : String} {bmZ : List Value} (F : ExcBaseFacts B nI iI bmZ) (H : NewT B bm) {us : List Value} {fI : Addr} {Z : Fin → Shared → Prop}
    (gC : hp.get? C = some (excClassObj nm q C N bs bm hdct sn sub ab col dd k0 k1 k2 k3 k5 nI)) (li : W.Looks (model prog w) hp (typeLookup (.ref C) "__init__") (some (.ref fI)))
    (lb : ∀ self, W.Looks (model prog w) hp (bindSpecial (.ref fI) self) (.ref fI, [self])) (hl : us.length ≤ sizeLine)
    (z : codeAny (model prog w) A (.call (.ref fI) ⟨.ref (hp.objs.size + 1) :: us, []⟩) (fun r s' => match r with | .ok (.ret v) => v = .none ∧ Z (.done (.ret (.ref (hp.objs.size + 1)))) s' | .ok _ => False | .error e => E e s')
      ⟨(hp.push (W.kdv_tup us)).push (HandSPX.excO C hp.objs.size), g, d, t, os⟩) : wpAny (model prog w) A (Builtin.«type.__call__» ⟨.ref C :: us, []⟩) Z E ⟨hp, g, d, t, os⟩ := by
  repeat (first | with_reducible refine wpAny_loadPart_at gC ?_ | with_reducible refine wpAny_madeBy_exc gC ?_ | wp_step)
  refine codeAny_call_builtin_code (Code.quiet_builtin _ F.quiet) (chk_new F H gC ?_)
  refine new_run F H gC hl ?_
  show wpAny _ _ _ _ _ _
  have kk : ∀ b o, hp.get? b = some o → ((hp.push (W.kdv_tup us)).push (HandSPX.excO C hp.objs.size)).get? b = some o := fun b o y => Heap.get?_push_of_some _ (Heap.get?_push_of_some _ y)
  have gC' := kk _ _ gC
  have ge : ((hp.push (W.kdv_tup us)).push (HandSPX.excO C hp.objs.size)).get? (hp.objs.size + 1) = some (HandSPX.excO C hp.objs.size) := by heap_get
  have cc : (Value.ref C :: bm).contains (.ref C) = true := by simp
  have i2 := li.keeps kk
  have b2 := (lb (.ref (hp.objs.size + 1))).keeps kk
  unfold isInstance
  repeat (first | with_reducible refine wpAny_loadPart_at ge ?_ | (with_reducible refine wpAny_isSubtype_exc gC' ?_; rw [cc]) | wp_step)
  show wpAny _ _ (typeLookup (.ref C) _) _ _ _
  refine i2.at ?_
  refine wpAny_holding (wpAny_bind (b2.at ?_))
  refine wpAny_bind (wpAny_call (codeAny_mono z fun r s' y => ?_))
  rcases r with er | (v | _ | _ | _) <;> first | exact y | exact y.elim | skip
  obtain ⟨rfl, y⟩ := y
  first
    | exact wpAny_pure (wpAny_pure y)
    | (wp_walk; exact y)
theorem make_run {nI iI : String} {bmZ : List Value} (F : ExcBaseFacts B nI iI bmZ) (H : NewT B bm) {us : List Value} {fI : Addr}
    (gC : hp.get? C = some (excClassObj nm q C N bs bm hdct sn sub ab col dd k0 k1 k2 k3 k5 nI)) (li : W.Looks (model prog w) hp (typeLookup (.ref C) "__init__") (some (.ref fI)))
    (lb : ∀ self, W.Looks (model prog w) hp (bindSpecial (.ref fI) self) (.ref fI, [self])) (hl : us.length ≤ sizeLine)
    (z : codeAny (model prog w) (A.under (.builtin "type.__call__" ⟨.ref C :: us, []⟩)) (.call (.ref fI) ⟨.ref (hp.objs.size + 1) :: us, []⟩) (W.InitBack (hp.objs.size + 1) R)
      ⟨(hp.push (W.kdv_tup us)).push (HandSPX.excO C hp.objs.size), g, d, t, os⟩) : codeAny (model prog w) A (.call (.ref C) ⟨us, []⟩) R ⟨hp, g, d, t, os⟩ := by
  have l1 := tc_lookup
  have l2 := tc_bind (.ref C)
  have ty : (⟨hp, g, d, t, os⟩ : Shared).TypeIs (.ref C) "type" := ⟨_, gC, rfl⟩
  refine codeAny_of_tree ?_
  show wpAny _ _ (callAny (.ref C) _) _ _ _
  repeat (any_goals (first | assumption | with_reducible refine wpAny_loadPart_at gC ?_ | wp_step))
  refine ⟨rfl, ?_⟩
  refine codeAny_call_builtin_at (Code.quiet_builtin _ (by decide +kernel)) _root_.PySem.entry_typeCall (_root_.PySem.wpAny_check_type_call_sub gC (tcall_run F H gC li lb hl ?_))
  refine codeAny_mono z fun r s' y => ?_
  rcases r with er | (v | _ | _ | _) <;> exact y
end
structure XFacts (B newId initId : String) (bmB : List Value) : Prop where
  fb : ∃ Z iI bmZ, ExcBaseFacts Z newId iI bmZ ∧ NewT Z bmB
  ini : IniF B initId
  kf : W.KxsFacts B initId
  pass : ∀ self : Value, refuseLoop self "__setattr__" bmB = pure ()
  ob : bmB.contains (.type "object") = true
theorem NewT.tail {Z : String} {bmB bm : List Value} (h : NewT Z bmB) (x : W.excTail bmB bm = true) : NewT Z bm := ⟨by rw [W.excTail_contains Z bm x]; exact h.b, by rw [W.excTail_contains _ bm x]; exact h.a, by rw [W.excTail_contains _ bm x]; exact h.n⟩
structure OexT (K : W.Frag) (C : Addr) (newId : String) (bmB : List Value) : Prop where
  cls : ∃ nm q N bs bm sn sub ab col dd k0 k1 k2 k3 k5, K.lookup C = some (excClassObj nm q C N bs bm true sn sub ab col dd k0 k1 k2 k3 k5 newId) ∧ W.excTail bmB bm = true
  st : W.findIn K (.ref C) "__setattr__" = some (some (.builtin "object.__setattr__"))
  bx : W.subIn K (.ref C) (.type "BaseException") = some true
  ty : W.typeIn K (.ref C) = some (.type "type")
  kp : W.keepIn K (.ref C) = true
section
variable {prog : Program} {w : World} {A : Around} {R : Result → Shared → Prop} {hp : Heap} {g : Array GenState} {d : Drawn} {t : Nat} {os : OsState}
open HandSPX Builtin Builtin.ObjectAttr in
theorem osaT {K : W.Frag} {nmF : Str} {tkF : Tok} {val : Value} {ex Cx' : Addr} {fvs : Array Value} {cdt : ClassData} {bmB : List Value} (kIn : K.In hp) (gx : hp.get? ex = some { cls := .ref Cx', data := .fields fvs }) (ccd : W.clsIn K Cx' = some cdt)
    (tl : W.excTail bmB cdt.mro = true) (ps : ∀ self : Value, refuseLoop self "__setattr__" bmB = pure ()) (ob : bmB.contains (.type "object") = true) (dct : cdt.hasDict = true) (no : W.findIn K (.ref Cx') nmF = some none)
    (fin : ∀ h' tk' dx, (∀ b o, b ≠ ex → hp.get? b = some o → h'.get? b = some o) → hp.objs.size ≤ dx → dx ≠ ex → h'.get? ex = some { cls := .ref Cx', dict := some dx, data := .fields fvs } → h'.Ns1 dx (fun y => if y = nmF then some val else none) → R (.ok (.ret .none)) ⟨h', g, d, tk', os⟩) :
    codeAny (model prog w) A (.call (.builtin "object.__setattr__") ⟨[.ref ex, .str nmF tkF, val], []⟩) R ⟨hp, g, d, t, os⟩ := by
  have J : W.InstAt hp ex { cls := .ref Cx', data := .fields fvs } Cx' none := ⟨gx, rfl, rfl, trivial⟩
  have hob : cdt.mro.contains (.type "object") = true := by rw [W.excTail_contains "object" _ tl]; exact ob
  have ne : cdt.mro.isEmpty = false := by
    cases e : cdt.mro with
    | nil => rw [e] at hob; cases hob
    | cons _ _ => rfl
  have nx : ex ≠ hp.objs.size := fun z => absurd (Heap.lt_size gx) (by rw [← z]; exact Nat.lt_irrefl _)
  have ro : W.mroIn K Cx' (.type "object") = some true := by unfold W.mroIn; rw [ccd, Option.bind_some, if_neg (by rw [ne]; decide), hob]
  have SO := F.store_object
  refine codeAny_call_builtin SO.slot.plain SO.entry ?_
  refine (@W.check_slot (model prog w) _ _ ⟨hp, g, d, t, os⟩ "object.__setattr__" "object" "__setattr__" (.ref ex) [.str nmF tkF, val] [] _ SO.kind SO.split (J.type.andThen (W.looks_mroIn kIn ro)) (SO.args (.ref ex) (.str nmF tkF) val) ?_)
  have l1 : W.Looks (model prog w) hp (mroOf (.ref Cx')) cdt.mro := (W.looks_clsIn kIn ccd).andThen .now
  have l2 : W.Looks (model prog w) hp (storeTaker? none) none := .now
  have l3 : W.Looks (model prog w) hp (classData Cx') cdt := W.looks_clsIn kIn ccd
  rw [W.osa_eq, refuse_eq]
  refine wpAny_bind (wpAny_bind (J.type.at (wpAny_bind (l1.at ?_))))
  rw [W.excTail_pass _ (ps _) _ tl]
  refine wpAny_pure (wpAny_bind (J.type.at (wpAny_bind ((W.looks_findIn kIn no).at (wpAny_bind (l2.at ?_))))))
  show wpAny _ _ (storeInOwnDict (.ref ex) (.ref Cx') (.str nmF tkF) nmF val false) _ _ _
  obtain ⟨a1, a2, a3, a4, a5, a6, a7, a8, a9, a10, a11⟩ := cdt
  obtain rfl : a6 = true := dct
  unfold storeInOwnDict ownDictForStores
  repeat (first | with_reducible refine store_in_new ?_ ?_ | with_reducible refine wpAny_loadPart_at gx ?_ | with_reducible refine l3.at ?_ | wp_step)
  · exact ⟨_, #[], _, (Heap.get?_update_ne _ _ _ _ nx.symm).trans (Heap.get?_push_at rfl rfl), rfl, fun e he => absurd he (by simp), fun _ => rfl⟩
  intro h' tk' hn' hs
  have gx1 : (hp.push { cls := .type "dict", data := .dict #[] }).get? ex = some { cls := .ref Cx', data := .fields fvs } := Heap.get?_push_of_some _ gx
  refine fin h' tk' hp.objs.size (fun b o hb ho => ?_) (Nat.le_refl _) nx.symm ?_ hn'
  · exact (hs.2 b fun z => absurd (Heap.lt_size ho) (by rw [z]; exact Nat.lt_irrefl _)).trans ((Heap.get?_update_ne _ _ _ _ hb).trans (Heap.get?_push_of_some _ ho))
  · exact (hs.2 ex nx).trans (Heap.get?_update_self _ gx1 rfl)
end
section
variable {prog : Program} {w : World} {A : Around} {R : Result → Shared → Prop} {hp : Heap} {g : Array GenState} {d : Drawn} {t : Nat} {os : OsState} {K : W.Frag} {mg mb : Str → Option Value}
variable {nm q : Str} {C N fI cda cc a t0 : Addr} {bs bm bmB : List Value} {sn : List Str} {sub : List Value} {ab : Bool} {col : Option Bool} {dd od an cdd cld : Option Addr} {k0 k1 k2 k3 k5 : Option Value} {B newId initId : String}
variable {name qual selfN argN fld file : Str} {params : Arguments} {body : List Stmt} {scope : Scope} {oc kV doc pm ct ccl cl v : Value} {osl ccs csl : Array (Option Value)} {vs : Array Value} {tf : Tok} {ar : Arg} {p0 p1 p2 p3 p4 p5 p6 p7 p8 p9 : Pos}
theorem sup_init (XF : XFacts B newId initId bmB) (X : K.In hp) (hg : hp.Ns mainGlobals mg) (hb : hp.Ns builtinsNs mb) (hbb : ∀ x : Str, x ≠ "__name__" → mb x = bootBuiltins x) (hlim : hp.NoLimit)
    (hC : K.lookup C = some (excClassObj nm q C N bs bm true sn sub ab col dd k0 k1 k2 k3 k5 newId)) (hm : W.excTail bmB bm = true) (sa : W.findIn K (.ref C) "__setattr__" = some (some (.builtin "object.__setattr__"))) (hno : W.findIn K (.ref C) fld = some none)
    (lf : K.lookup fI = some ⟨oc, od, .func (W.ksFn name qual params body scope .none kV doc pm an (.ref cda) ct cc), osl⟩)
    (lcd : K.lookup cda = some ⟨ccl, cdd, .fields vs, ccs⟩) (hvs : vs[2]? = some (.str file tf)) (hfile : ((prog.main.file : Str) == file) = true) (hcdin : W.codeIn K (.ref cda) qual = true)
    (lcc : K.lookup cc = some ⟨cl, cld, .cell (some (.ref C)), csl⟩) (hsup : mg "super" = none) (hks : scope.names.lookup ("super" : Str) = some .globalImplicit) (hkc : scope.names.lookup ("__class__" : Str) = some .free) (hk : scope.kind = .function)
    (hself : scope.names.lookup selfN = some .local) (harg : scope.names.lookup argN = some .local) (hne : argN ≠ selfN) (hds : (selfN == ("__debug__" : Str)) = false) (hda : (argN == ("__debug__" : Str)) = false)
    (hpar : (params.posonlyargs ++ params.args).head? = some ar) (har : ar.arg = selfN) (hcell : ∀ x ∈ scope.names, x.2 ≠ .cell) (hco : scope.isCoroutine = false) (hgen : scope.isGenerator = false)
    (hbind : ∀ s, BindsTo s (W.ksFn name qual params body scope .none kV doc pm an (.ref cda) ct cc) ⟨[.ref a, v], []⟩ [(selfN, .ref a), (argN, v)])
    (htop : (prog.main.scope.names.lookup ("super" : Str)).isSome = false) (hop : W.nsIn K cStatics "thirdparty.any" = some none) (hal : W.ks_superIn K C C "__init__" = some (some (.builtin initId))) (hBs : W.subIn K (.ref C) (.type B) = some true)
    (hbody : body = [.Expr (.Call (.Attribute (.Call (.Name "super" p0) [] [] p1) "__init__" p2) [.Name argN p3] [] p4) p5, .Assign [.Attribute (.Name selfN p6) fld p7] (.Name argN p8) p9]) (hroom : A.depth < recursionLimit)
    (hi : ∀ L, interactive (W.ksEnv qual scope L fI (.ref cda) cc) = false) (hsw1 : ∀ L, swapsWith (.Call (.Attribute (.Call (.Name "super" p0) [] [] p1) "__init__" p2) [.Name argN p3] [] p4) none p5.line (W.ksEnv qual scope L fI (.ref cda) cc) = pure false)
    (hsw2 : ∀ L, swapsWith (.Name argN p8) (some (.Attribute (.Name selfN p6) fld p7)) p9.line (W.ksEnv qual scope L fI (.ref cda) cc) = pure false)
    (pl : Addr → Sem Bool) (hev : ∀ L, eval (.Call (.Attribute (.Call (.Name "super" p0) [] [] p1) "__init__" p2) [.Name argN p3] [] p4) (W.ksEnv qual scope L fI (.ref cda) cc) = (do
      let ov ← attributeBase (.Call (.Name "super" p0) [] [] p1) "__init__" (W.ksEnv qual scope L fI (.ref cda) cc) (eval (.Call (.Name "super" p0) [] [] p1) (W.ksEnv qual scope L fI (.ref cda) cc))
      standAt p2.atName
      let (f, first) ← holding [ov] (getMethod ov "__init__" (pl L))
      callWith p4 f first (backTo p4 (starEach [.Name argN p3] (W.ksEnv qual scope L fI (.ref cda) cc))) []))
    (ha : hp.get? a = some (HandSPX.excO C t0)) (hKa : K.lookup a = none)
    (hq : ∀ h' tk' dx t1, (∀ b o, b ≠ a → hp.get? b = some o → h'.get? b = some o) → hp.objs.size ≤ dx → dx ≠ a → h'.get? a = some { cls := .ref C, dict := some dx, data := .fields #[.ref t1, .none, .none, .none, .bool false, .none] } →
      h'.Ns1 dx (fun y => if y = fld then some v else none) → R (.ok (.ret .none)) ⟨h', g, d, tk', os⟩) :
    codeAny (model prog w) A (.call (.ref fI) ⟨[.ref a, v], []⟩) R ⟨hp, g, d, t, os⟩ := by
  subst hbody
  have FB := XF.ini
  have KF := XF.kf
  have ca : W.clsIn K C = some { name := nm, bases := bs, mro := .ref C :: bm, ns := N, qualname := q, hasDict := true, slotNames := sn, subclasses := sub, abstract := ab, collection := col, hasDel := false } := by unfold W.clsIn; rw [hC] <;> rfl
  refine PySem.ks_codeAny_call_defAt (fd := W.ksFn name qual params _ scope .none kV doc pm an (.ref cda) ct cc) (binds := [(selfN, .ref a), (argN, v)]) hroom (X _ _ lf) rfl hlim (W.codeRec_of X hcdin) rfl (hbind _) hcell ?_ (fun h₁ hns hk₁ => ?_) hco hgen hk
  · intro x hx
    rcases List.mem_cons.mp hx with rfl | hx
    · exact hself
    · rw [List.mem_singleton.mp hx]; exact harg
  have X₁ : K.In h₁ := X.keeps hk₁
  have hs1 : (([(selfN, Value.ref a), (argN, v)] : List (Str × Value)).reverse.lookup selfN) = some (.ref a) := by
    show List.lookup selfN [(argN, v), (selfN, Value.ref a)] = _
    rw [List.lookup_cons, show (selfN == argN) = false from by simpa using Ne.symm hne, List.lookup_cons, beq_self_eq_true]
  have hs2 : (([(selfN, Value.ref a), (argN, v)] : List (Str × Value)).reverse.lookup argN) = some v := by
    show List.lookup argN [(argN, v), (selfN, Value.ref a)] = _
    rw [List.lookup_cons, beq_self_eq_true]
  refine PySem.ks_wpAt_execs_cons ?_
  show _root_.PySem.wpAt _ _ _ (exec _ (W.ksEnv qual scope hp.objs.size fI (.ref cda) cc)) _ _ _
  refine PySem.ks_wpAt_Expr_any (PySem.ks_wpAt_MethodCall (pl := pl hp.objs.size) ?_ (hev _)) (hi _) (hsw1 _)
  have ha₁ : h₁.get? a = some (HandSPX.excO C t0) := hk₁ _ _ ha
  have I₁ : W.InstAt h₁ a (HandSPX.excO C t0) C none := ⟨ha₁, rfl, rfl, trivial⟩
  obtain ⟨hf1, hf2⟩ : (∃ oD, h₁.get? C = some oD ∧ oD.data = .cls { name := nm, bases := bs, mro := .ref C :: bm, ns := N, qualname := q, hasDict := true, slotNames := sn, subclasses := sub, abstract := ab, collection := col, hasDel := false }) ∧ True := ⟨⟨_, X₁ _ _ hC, rfl⟩, trivial⟩
  obtain ⟨oD, hD1, hD2⟩ := hf1
  have hsubC : W.mroIn K C (.ref C) = some true := by
    unfold W.mroIn
    rw [ca]
    simp
  refine PySem.ks_wpAt_super_base (env := W.ksEnv qual scope hp.objs.size fI (.ref cda) cc) hks hkc (by decide) rfl (X₁ _ _ lf) rfl hpar rfl (X₁ _ _ lcd) rfl hvs hfile htop ?_
  refine W.ks_loadName_global hk hks (Calls.loadGlobal_builtin (env := W.ksEnv qual scope hp.objs.size fI (.ref cda) cc) (hg.keeps hk₁) hsup (hb.keeps hk₁) ((hbb _ (by decide +kernel)).trans (by decide +kernel)) ⟨rfl, ?_⟩)
  refine wpAny_loadName_free hk hkc rfl ⟨_, X₁ _ _ lcc, rfl⟩ ?_
  rw [har]
  refine wpAny_loadName_local hk hself hns hs1 ?_
  refine ks_wpAny_isType_cls hD1 hD2 ⟨rfl, ?_⟩
  refine ks_wpAny_call_super hD1 hD2 ha₁ rfl (fun c e => by cases e) (W.looks_mroIn X₁ hsubC) (fun h₂ e₂ k₂ => ?_)
  have X₂ : K.In h₂ := X₁.keeps k₂
  have ha₂ := k₂ _ _ ha₁
  have I₂ : W.InstAt h₂ a (HandSPX.excO C t0) C none := ⟨ha₂, rfl, rfl, trivial⟩
  have hal' := hal
  unfold W.ks_superIn at hal'
  rw [ca] at hal'
  have mroL : ∀ {h : Heap}, K.In h → W.Looks (model prog w) h (mroOf (.ref C)) (.ref C :: bm) := fun Xh => (W.looks_clsIn Xh ca).andThen .now
  refine W.kxs_getMethod KF e₂ (W.looks_opaque X₂ hop) (mroL X₂) rfl X₂ hal' (I₂.type.andThen (W.looks_subIn X₂ hBs)) (W.ks_ne X₂ I₂ ca) rfl ?_
  have k₃ : ∀ y o, h₂.get? y = some o → (h₂.push (W.kxs_mw initId a)).get? y = some o := fun y o e => Heap.get?_push_of_some _ e
  have hu : (h₂.push (W.kxs_mw initId a)).get? h₂.objs.size = some (W.kxs_mw initId a) := Heap.get?_push_at rfl rfl
  have hns₃ := (hns.keeps k₂).keeps k₃
  refine W.kxs_callWith (i := initId) (x := a) (by rfl) (Calls.evalArgs_plain (Calls.spliced_cons (wpAny_Name (wpAny_loadName_local hk harg hns₃ hs2 (Calls.spliced_nil ⟨hu, ?_⟩)) hda)))
  refine call_mwI FB (X₂.keeps k₃ _ _ hC) (k₃ _ _ ha₂) hu (by show 1 ≤ sizeLine; decide) (fun h₄ t1 k₄ ha₄ => ?_)
  have nC : C ≠ a := fun z => by
    have e1 := X _ _ hC
    rw [z, ha] at e1
    cases e1
  have keepAll : ∀ b o, b ≠ a → hp.get? b = some o → h₄.get? b = some o := fun b o nb e => k₄ b o nb (k₃ _ _ (k₂ _ _ (hk₁ _ _ e)))
  have hL : hp.objs.size ≠ a := Ne.symm (Nat.ne_of_lt (Heap.lt_size ha))
  have X₄ : K.In h₄ := fun b o e => keepAll b o (fun z => by rw [z, hKa] at e; cases e) (X _ _ e)
  obtain ⟨oL, esL, epL, hoL, rL⟩ := hns₃
  have hns₄ : h₄.Ns hp.objs.size fun x => ([(selfN, Value.ref a), (argN, v)] : List (Str × Value)).reverse.lookup x := ⟨oL, esL, epL, k₄ _ _ hL hoL, rL⟩
  have sz₄ : hp.objs.size ≤ h₄.objs.size := Nat.le_of_lt (Heap.lt_size (k₄ _ _ hL hoL))
  show _root_.PySem.wpAt _ _ _ (execs _ (W.ksEnv qual scope hp.objs.size fI (.ref cda) cc)) _ _ _
  refine PySem.ks_wpAt_execs_cons (PySem.ks_wpAt_Assign_Attr (wpAt_of_wpAny (wpAny_Name (wpAny_loadName_local hk harg hns₄ hs2 (wpAny_Name (wpAny_loadName_local hk hself hns₄ hs1 ?_) hds)) hda)) (hsw2 _))
  refine W.set_plain X₄ (ox := HandSPX.excO C t1) (od := none) ⟨ha₄, rfl, rfl, trivial⟩ sa ?_
  refine osaT X₄ ha₄ ca (show W.excTail bmB (.ref C :: bm) = true from hm) XF.pass XF.ob rfl hno (fun h' tk' dx k₅ dn dne hx hn => ?_)
  show _root_.PySem.wpAt _ _ _ (execs [] (W.ksEnv qual scope hp.objs.size fI (.ref cda) cc)) _ _ _
  refine wpAt_of_wpAny ?_
  show wpAny _ _ (pure Flow.next) _ _ _
  refine wpAny_pure ?_
  exact hq h' tk' dx t1 (fun b o nb e => k₅ b o nb (keepAll b o nb e)) (Nat.le_trans sz₄ dn) dne hx hn
end
def SupRun (prog : Program) (K : W.Frag) (mg : Str → Option Value) (C fI : Addr) (fld : Str) : Prop :=
  ∀ (w : World) (A : Around) (R : Result → Shared → Prop) (hp : Heap) (g : Array GenState) (d : Drawn) (t : Nat) (os : OsState) (mb : Str → Option Value) (a t0 : Addr) (v : Value),
    K.In hp → hp.Ns mainGlobals mg → hp.Ns builtinsNs mb → (∀ x : Str, x ≠ "__name__" → mb x = bootBuiltins x) → hp.NoLimit → A.depth < recursionLimit → hp.get? a = some (HandSPX.excO C t0) → K.lookup a = none →
    (∀ h' tk' dx t1, (∀ b o, b ≠ a → hp.get? b = some o → h'.get? b = some o) → hp.objs.size ≤ dx → dx ≠ a → h'.get? a = some { cls := .ref C, dict := some dx, data := .fields #[.ref t1, .none, .none, .none, .bool false, .none] } →
      h'.Ns1 dx (fun y => if y = fld then some v else none) → R (.ok (.ret .none)) ⟨h', g, d, tk', os⟩) →
    codeAny (model prog w) A (.call (.ref fI) ⟨[.ref a, v], []⟩) R ⟨hp, g, d, t, os⟩
section
variable {X : Cx} {C fI : Addr} {x fld : Str} {e : Expr} {te : TE} {p pos : Pos} {k : Nat}
theorem pmk_sup {B newId initId : String} {bmB : List Value} (XF : XFacts B newId initId bmB) (Tc : OexT X.K C newId bmB) (iC : W.findIn X.K (.ref C) "__init__" = some (some (.ref fI))) (tI : W.typeIn X.K (.ref fI) = some (.type "function")) (S : SupRun X.prog X.K X.mg C fI fld) (hr : Room (k + 1) X.A) (hg : Gl X x) (hm : X.mg x = some (.ref C)) (he : PE X e te)
    (hs : starEach [e] X.env = (false, eval e X.env) :: starEach [] X.env := by rfl) (hdb : (x == ("__debug__" : Str)) = false := by decide) :
    PMk X (.Call (.Name x p) [e] [] pos) (fun σ H Q => te σ H fun y H1 => ∀ dx, H1 dx = none → Q (.ref C) (some dx) (upd H1 dx (.xd [(fld, y)]))) := by
  intro pins s σ H Q I h
  obtain ⟨nm, q, N, bs, bm, sn, sub, ab, col, dd, k0, k1, k2, k3, k5, hC, hbm⟩ := Tc.cls
  obtain ⟨Z, iI, bmZ, FB, NT⟩ := XF.fb
  refine wpAny_Call_Name_kw (ld_glob I hg hm ?_ hdb)
  refine W.callWith_K (h₀ := X.base) I.ok.mod.kin Tc.kp ?_ hs (by rfl)
  rw [hs]
  show wpAny _ _ (spliced ((false, eval e X.env) :: backTo pos (starEach [] X.env))) _ _ s
  refine Calls.spliced_cons (thn (he.run pins s σ H _ I h) fun u s1 ⟨y, H1, I1, ry, q1⟩ => ?_)
  refine Calls.spliced_nil ⟨I1.kIn, ?_⟩
  show wpAny _ _ (call (.ref C) [u]) _ _ _
  obtain ⟨hp, g, dr, tk, os⟩ := s1
  have kk : ∀ b o, hp.get? b = some o → ((hp.push (W.kdv_tup [u])).push (HandSPX.excO C hp.objs.size)).get? b = some o := fun b o e => Heap.get?_push_of_some _ (Heap.get?_push_of_some _ e)
  have hget : ((hp.push (W.kdv_tup [u])).push (HandSPX.excO C hp.objs.size)).get? (hp.objs.size + 1) = some (HandSPX.excO C hp.objs.size) := by heap_get
  have gone : hp.get? (hp.objs.size + 1) = none := by
    cases e1 : hp.get? (hp.objs.size + 1) with
    | none => rfl
    | some o => exact absurd (Heap.lt_size e1) (Nat.not_lt.mpr (Nat.le_succ _))
  have hKa : X.K.lookup (hp.objs.size + 1) = none := by
    cases e1 : X.K.lookup (hp.objs.size + 1) with
    | none => rfl
    | some o =>
      have e2 := I1.kIn _ _ e1
      rw [gone] at e2; cases e2
  obtain ⟨mb, b1, b2⟩ := I1.mod.blt
  refine wpAny_call (make_run FB (NT.tail hbm) (I1.kIn _ _ hC) (W.looks_findIn I1.kIn iC) (fun self => W.bind_fn I1.kIn self tI) (by show 1 ≤ sizeLine; decide) ?_)
  refine S _ _ _ _ _ _ _ _ mb (hp.objs.size + 1) hp.objs.size u (I1.kIn.keeps kk) ((I1.mod.glob.keeps I1.bk).keeps kk) ((b1.keeps I1.bk).keeps kk) b2 ((I1.mod.nolimit.keeps I1.bk).keeps kk) ((hr.make C [u] []).depth) hget hKa (fun h' tk' dx t1 keep sz ne ha' hn => ?_)
  have szdx : hp.objs.size ≤ dx := Nat.le_trans (show hp.objs.size ≤ ((hp.push (W.kdv_tup [u])).push (HandSPX.excO C hp.objs.size)).objs.size by rw [Heap.size_push, Heap.size_push]; exact Nat.le_add_right _ 2) sz
  have ndx : H1 dx = none := I1.hok.fresh szdx
  obtain ⟨G, g1, g2⟩ := restrict h' fun b => decide (b ≠ hp.objs.size + 1)
  have gk : ∀ b, b ≠ hp.objs.size + 1 → G.get? b = h'.get? b := fun b hb => g1 b (decide_eq_true hb)
  have ge : G.get? (hp.objs.size + 1) = none := g2 _ (by simp)
  have gg : ∀ b o, G.get? b = some o → h'.get? b = some o := fun b o e => by
    by_cases hb : b = hp.objs.size + 1
    · rw [hb, ge] at e; cases e
    · rw [← gk b hb]; exact e
  have ka : ∀ b o, hp.get? b = some o → G.get? b = some o := fun b o e => by
    have nb : b ≠ hp.objs.size + 1 := fun z => by rw [z, gone] at e; cases e
    rw [gk b nb]
    exact keep b o nb (kk b o e)
  obtain ⟨oD, esD, epD, hD1, hD2, hD3⟩ := hn
  have I2 : Inv X pins σ (upd H1 dx (.xd [(fld, y)])) ⟨G, g, dr, tk', os⟩ := I1.laid (t' := tk') (a := dx) (o := .xd [(fld, y)]) (h' := G) ka szdx
    ⟨_, ⟨oD, esD, epD, by rw [gk dx ne]; exact hD1, hD2, hD3⟩, relO_put (fs := []) ry fun _ => True.intro⟩
  exact ⟨rfl, hp.objs.size + 1, _, _, ⟨G, g, dr, tk', os⟩, _, .ref C, some dx, rfl, I2, gg, ge, ha', ⟨rfl, rfl⟩, rfl, rfl, by rw [upd_ne (Ne.symm ne)]; exact I1.hok.fresh (Nat.le_succ _), rfl, I1.bare, raises_own Tc.bx Tc.ty, q1 dx ndx⟩
end
structure XCls (prog : Program) (K : W.Frag) (mg : Str → Option Value) (C : Addr) (fld : Str) : Prop where
  o : ∃ B newId initId bmB, XFacts B newId initId bmB ∧ OexT K C newId bmB
  ex : ∃ fI, W.findIn K (.ref C) "__init__" = some (some (.ref fI)) ∧ W.typeIn K (.ref fI) = some (.type "function") ∧ SupRun prog K mg C fI fld
section
variable {X : Cx} {T : TX X} {ρ : Rho} {C : Cells} {N : TEnds} {e : Expr} {p pos pos' : Pos} {x fld : Str} {Cl : Addr} {k : Nat}
theorem ws_raise (hx : XCls X.prog X.K X.mg Cl fld) (hr : RoomG (k + 1) X.A) (hg : Gl X x) (hm : X.mg x = some (.ref Cl)) (h : WE T e ρ C fun d C1 => T.XQ (.ref Cl) (some ([fld], [d])) ρ C1)
    (hs : starEach [e] X.env = (false, eval e X.env) :: starEach [] X.env := by rfl) (hdb : (x == ("__debug__" : Str)) = false := by decide) (hc : X.calm = true := by rfl) :
    WS T (.Raise (some (.Call (.Name x p) [e] [] pos)) none pos') ρ C N := by
  obtain ⟨fI, i1, i2, S⟩ := hx.ex
  obtain ⟨B, newId, initId, bmB, XF, Ox⟩ := hx.o
  refine PS.imp (ps_raise hc T.tk (pmk_sup XF Ox i1 i2 S hr.rm hg hm h hs hdb)) fun Dn σ H ⟨H0, at_, _⟩ => ⟨H0, at_, fun v d C1 H1 H01 p1 c1 r1 q dx hdx => ?_⟩
  obtain ⟨p2, c2⟩ := stp_new (o := .xd [(fld, v)]) c1 hdx
  have a2 := (at_.step p1 c1).step p2 c2
  exact ⟨some ([fld], [d]), ρ, C1, _, a2.a, a2.c, a2.s, a2.l, ⟨[v], upd_same, rfl, Reps.cons (r1.mono p2.base) Reps.nil⟩, q⟩
end
theorem xf_ValueError : XFacts "ValueError" "ValueError.__new__" "ValueError.__init__" [.type "ValueError", .type "Exception", .type "BaseException", .type "object"] := ⟨⟨_, _, _, PySem.F.excBase_ValueError, by decide +kernel, by decide +kernel, by decide +kernel⟩, .of PySem.F.excBase_ValueError.toExcCallFacts, W.kxs_ValueError, fun self => F.store_ValueError.passes self, by decide +kernel⟩
theorem ini_KeyError : IniF "KeyError" "KeyError.__init__" := ⟨by decide +kernel, entryFor_alias (id' := "BaseException.__init__") (by rw [fastTable_eq_tree]; kernel_rfl) (by first | rfl | decide +kernel) (by decide +kernel) (by rw [fastTable_eq_tree]; kernel_rfl), by decide +kernel, by kernel_rfl, by decide +kernel⟩
theorem kxs_KeyError : W.KxsFacts "KeyError" "KeyError.__init__" := ⟨by show builtinType _ = _; rw [builtinType_eq_fast]; kernel_rfl, by first | rfl | kernel_rfl⟩
theorem xf_KeyError : XFacts "KeyError" "LookupError.__new__" "KeyError.__init__" [.type "KeyError", .type "LookupError", .type "Exception", .type "BaseException", .type "object"] := ⟨⟨_, _, _, PySem.F.excBase_LookupError, by decide +kernel, by decide +kernel, by decide +kernel⟩, ini_KeyError, kxs_KeyError, fun self => by kernel_rfl, by decide +kernel⟩
end Tr

set_option maxHeartbeats 4000000
namespace Tr
open PySem L2 PySem.Spec PyProof.Rows

theorem ExcR.step {K : W.Frag} {H0 H H0' H' : Hp} {C C' : Cells} {d : Option Addr} {fs : XF} (h : ExcR K H0 H d fs) (c : CellsR K H0 C H) (p : Stp H0 C H H0' C' H') : ExcR K H0' H' d fs := by
  cases d with
  | none => cases fs with
    | none => exact True.intro
    | some f => exact h
  | some dd => cases fs with
    | none => exact h
    | some f =>
      obtain ⟨ns, ds⟩ := f
      obtain ⟨vs, h1, h2, h3⟩ := h
      refine ⟨vs, p.fr dd _ h1 fun ⟨x, hx⟩ => ?_, h2, h3.mono p.base⟩
      have ok := c.ok dd x hx
      cases x with
      | lst ds => obtain ⟨_, e, _⟩ := ok; rw [h1] at e; cases e
      | dK ks ds => obtain ⟨_, e, _⟩ := ok; rw [h1] at e; cases e
      | ins Cl ns ds => obtain ⟨_, _, e, _⟩ := ok; rw [h1] at e; cases e
section
variable {X : Cx} {T : TX X} {ρ : Rho} {C : Cells} {N : TEnds} {Q : QE} {e : Expr} {pos pos' np : Pos} {x n : Str} {c : Value} {i : Nat} {body suite : List Stmt} {b₀ : Stmt} {XQ' : Value → XF → Rho → Cells → Prop}
end
section
variable {X : Cx} {a Cl : Addr} {oe : Obj} {d : Option Addr} {pn : List (Addr × Obj)} {T' : TX (X.suite a ((a, oe) :: pn))} {ρ : Rho} {C : Cells} {Q : QE} {e : Expr} {pos : Pos} {n : Str} {ns : List Str} {ds : List D}
end
section
variable {X : Cx} {a Cl : Addr} {oe : Obj} {d : Option Addr} {pn : List (Addr × Obj)} {T' : TX (X.suite a ((a, oe) :: pn))} {ρ : Rho} {C : Cells} {Q : QE} {e c : Expr} {p pos : Pos} {fs : XF}
end
end Tr

set_option maxHeartbeats 4000000
namespace Tr
open PySem L2 PySem.Spec PyProof.Rows
theorem iteN {c : Prop} [Decidable c] {A B : Prop} (h : ¬ c) (b : B) : if c then A else B := by rw [if_neg h]; exact b
section
variable {X : Cx} {T : TX X} {ρ : Rho} {C : Cells} {N : TEnds} {st : Stmt}
theorem kit_tyF {K : W.Frag} {C : Addr} {U : String} {b : Bool} (ss : W.subIn K (.ref C) (.type U) = some b) (m : W.kitMeta U = true) : W.kitOne K (.ref C) (.type U) = some b := by
  unfold W.kitOne
  rw [if_neg (by intro h; cases h)]
  unfold W.kitCls
  simp only [m, ss]
  rfl
theorem cutL_from {α : Type} {l : List α} {k : Int} (h0 : 0 ≤ k) : cutL l (some k) none = l.drop k.toNat := by
  obtain ⟨n, rfl⟩ := Int.eq_ofNat_of_zero_le h0
  unfold cutL
  rw [HT.sIx_nat, HT.sIx_none, Int.toNat_natCast]
  by_cases h : n ≤ l.length
  · rw [Nat.min_eq_left h, List.take_of_length_le (by simp)]
  · rw [Nat.min_eq_right (by omega)]
    simp [List.drop_eq_nil_of_le (show l.length ≤ n by omega)]
theorem cutD_from {l : List D} {k : Int} (h0 : 0 ≤ k) : cutD l (some k) none = l.drop k.toNat := cutL_from h0
end
end Tr

set_option maxHeartbeats 4000000
namespace Tr
open PySem L2 PySem.Spec PyProof.Rows
section
variable {X : Cx} {T : TX X} {ρ : Rho} {C : Cells} {Q : QE} {e a o : Expr} {es rest : List Expr} {pos apos p : Pos} {v1 v2 : Expr}

theorem pi_seq {tg l : Expr} {tl : TE} (hl : PE X l tl) : PI X tg l (fun σ H R => tl σ H fun x H1 => ∃ a xs, x = .ref a ∧ ((SqL X.K H1 a xs ∧ R (Itl X.K a) H1) ∨ (SqT X.K H1 a xs ∧ R (Itt X.K a) H1))) := by
  refine ⟨fun pins s σ H R I h => ?_⟩
  refine thn (hl.run pins s σ H _ I h) fun v s1 ⟨x, H1, I1, r1, a, xs, e, q1⟩ => ?_
  subst e
  cases r1
  have fpk : ∀ b ∈ [s1.heap.objs.size], FpOk X pins H1 b := fun b hb => by
    have e : b = s1.heap.objs.size := by simpa using hb
    subst e
    exact I1.fpOk (Nat.le_refl _) (I1.hok.fresh (Nat.le_refl _))
  rcases q1 with ⟨hq, q⟩ | ⟨hq, q⟩
  · obtain ⟨its, rv, p, hz⟩ := I1.list hq
    refine wpAny_pyIter_list p.isList ?_
    exact ⟨s1.heap.objs.size, [s1.heap.objs.size], _, _, H1, rfl, I1.kept (t' := s1.toks) fun b o e => Heap.get?_push_of_some _ e, turn_list a _, ⟨_, Heap.get?_push_size _ rfl, rfl, rfl⟩, fpk, q⟩
  · obtain ⟨its, rv, p, hz⟩ := I1.tuple hq
    refine wpAny_pyIter_tuple (show s1.heap.IsTuple a its.toArray from p) ?_
    exact ⟨s1.heap.objs.size, [s1.heap.objs.size], _, _, H1, rfl, I1.kept (t' := s1.toks) fun b o e => Heap.get?_push_of_some _ e, turn_tuple a _, ⟨_, Heap.get?_push_size _ rfl, rfl, rfl⟩, fpk, q⟩
theorem run_TC {k : Nat} {f : Addr} {fd : FuncData} {ps : List Str} {F : FS} {dvs : List V} {dds : List D} {dus : List Value} {pins : List (Addr × Obj)} {σ : L2.St} {H H0 : Hp} {s : Shared} {R : VK} {us : List Value} {vs : List V} {ds : List D} (Fk : FnG X.prog X.w X.K X.mg X.base k f fd ps F) (hr : RoomG k X.A) (hb : Binds X.K fd ps dus) (hd : Vals dvs dus) (hdd : ∀ H, Reps X.K H dds dvs)
    (I : L2.Inv X pins σ H s) (rv : Vals vs us) (at_ : At T H0 ρ C σ H) (r : Reps X.K H0 ds vs) (h : Asks T F ρ (ds ++ dds) C Q) (k : Cont X H0 C H Q R) :
    codeAny (model X.prog X.w) X.A (.call (.ref f) ⟨us, []⟩) (fun r s' => match r with | .ok (.ret v) => EP X pins σ R v s' | .ok _ => False | .error e => X.xe e s') s := by
  have all := asks_sp h at_ (r.append (hdd H0)) k
  have nlen : (us ++ dus).length = ps.length := by
    obtain ⟨_, ds', _, _, _, _, r', h', _⟩ := id all
    rw [← (rv.append hd).length, ← r'.length]
    exact Fk.len _ _ _ _ h'
  have went := Fk.run X.A X.stack s H ⟨us, []⟩ (us ++ dus) (vs ++ dvs) R _ hr I.env0 (hb s us I.kIn nlen) (rv.append hd) all
  refine codeAny_mono went ?_
  rintro (e | (_ | _ | _ | u)) s' hq
  · exact passAt T.tk σ pins H s e s' I hq
  · exact False.elim hq
  · exact False.elim hq
  · exact False.elim hq
  · exact I.after hq
def CMetT (K : W.Frag) (C : Addr) (m : Str) (g : Addr) : Prop := ∃ mc p, ClX.CRead K C mc ∧ ClX.CMet K C mc m p g
theorem we_cmeth {pl : Sem Bool} {k : Nat} {g Cl : Addr} {m : Str} {fd : FuncData} {ps : List Str} {F : FS} {dvs : List V} {dds : List D} {dus : List Value} (hc : CMetT X.K Cl m g) (Fk : FnG X.prog X.w X.K X.mg X.base k g fd ps F) (hr : RoomG k X.A) (hb : Binds X.K fd ps dus) (hd : Vals dvs dus) (hdd : ∀ H, Reps X.K H dds dvs)
    (h : Tr.WE T o ρ C fun d C1 => d = .raw (.ref Cl) ∧ WA T (a :: es) ρ C1 fun ds C2 => Asks T F ρ (.raw (.ref Cl) :: (ds ++ dds)) C2 Q)
    (hst : starEach (a :: es) X.env = (false, eval a X.env) :: starEach es X.env := by rfl) (hpl : (backTo pos (starEach es X.env)).any (·.1) = false := by rfl)
    (ht : eval (.Call (.Attribute o m apos) (a :: es) [] pos) X.env = (do
      let ov ← eval o X.env
      standAt apos.atName
      let (f, first) ← holding [ov] (getMethod ov m pl)
      callWith pos f first (backTo pos (starEach (a :: es) X.env)) (backToKw pos (keywordEach [] X.env))) := by rfl) :
    Tr.WE T (.Call (.Attribute o m apos) (a :: es) [] pos) ρ C Q := by
  obtain ⟨mc, pp, r, c⟩ := hc
  refine ⟨fun pins s σ H R I ⟨H0, at_, k⟩ => W.methodCall_KW (pl := pl) ?_ ht⟩
  refine thn (h.run pins s σ H (fun v H1 => ∃ C1 H01, v = .ref Cl ∧ At T H01 ρ C1 σ H1 ∧ Cont X H01 C1 H1 Q R ∧ WA T (a :: es) ρ C1 fun ds C2 => Asks T F ρ (.raw (.ref Cl) :: (ds ++ dds)) C2 Q) I
    ⟨H0, at_, fun v d C1 H1 H01 p1 c1 r1 ⟨e1, q⟩ => by subst e1; cases r1; exact ⟨C1, H01, rfl, at_.step p1 c1, k.after p1 c1 (fun _ _ z => z), q⟩⟩) ?_
  rintro u s1 ⟨v, H1, I1, rv, C1, H01, ev, at1, k1, hw⟩
  subst ev
  obtain rfl : u = Value.ref Cl := rv
  refine ClX.getmethcm_ok I1 r c fun s2 I2 => ?_
  refine ClX.callwith_cm I2 (ClX.base_none I1 (Nat.le_refl _)) c.fi (thn (hw.run pos _ s2 σ H1 (fun vs H2 => ∃ ds C2 H02, At T H02 ρ C2 σ H2 ∧ Cont X H02 C2 H2 Q R ∧ Reps X.K H02 ds vs ∧ Asks T F ρ (.raw (.ref Cl) :: (ds ++ dds)) C2 Q) I2
    ⟨H01, at1, fun vs ds C2 H2 H02 p2 c2 r2 q2 => ⟨ds, C2, H02, at1.step p2 c2, k1.after p2 c2 fun _ _ z => z, r2, q2⟩⟩) ?_) hst hpl
  rintro us s3 ⟨vs, H2, I3, rvs, ds, C2, H02, at2, k2, rds, q2⟩
  refine ⟨⟨ClX.pin_at I3, I3.kIn⟩, ?_⟩
  have z := wpAny_call (PySem.W.method_call (ClX.pin_at I3) (run_TC (us := .ref Cl :: us) (vs := .ref Cl :: vs) (ds := .raw (.ref Cl) :: ds) Fk hr hb hd hdd I3 (.cons rfl rvs) at2 (Reps.cons (d := .raw (.ref Cl)) rfl rds) q2 k2))
  exact thn z fun _ _ y => ClX.unpinE y
end
end Tr

set_option maxHeartbeats 4000000
namespace Tr
open PySem L2 PySem.Spec PyProof.Rows TL

abbrev Wd := List Nat
def NoBl (w : Wd) : Prop := (32 : Nat) ∉ w
abbrev jn (ws : List Wd) : List Nat := joinL [32] ws
theorem jn_cons (p q : Wd) (r : List Wd) : jn (p :: q :: r) = p ++ (32 :: jn (q :: r)) := rfl
def cutW (w : Wd) : List Wd → Option (List Wd × List Wd)
  | [] => none
  | [_] => none
  | q :: q2 :: r => if q = w then some ([], q2 :: r) else (cutW w (q2 :: r)).map fun x => (q :: x.1, x.2)
def sepW (w : Wd) : List Nat := 32 :: (w ++ [32])
theorem word_eq : ∀ {w q : Wd} {a b : List Nat}, NoBl w → NoBl q → w ++ 32 :: a = q ++ 32 :: b → w = q
  | [], [], _, _, _, _, _ => rfl
  | [], c :: q, _, _, _, hq, e => by
    have e1 : (32 : Nat) = c := (List.cons.inj e).1
    exact absurd (by rw [e1]; exact List.mem_cons_self) hq
  | c :: w, [], _, _, hw, _, e => by
    have e1 : c = (32 : Nat) := (List.cons.inj e).1
    exact absurd (by rw [e1]; exact List.mem_cons_self) hw
  | c :: w, d :: q, _, _, hw, hq, e => by
    obtain ⟨e1, e2⟩ := List.cons.inj e
    rw [e1, word_eq (fun h => hw (List.mem_cons_of_mem _ h)) (fun h => hq (List.mem_cons_of_mem _ h)) e2]
theorem pre_iff {S L : List Nat} : pre S L = true ↔ ∃ t, L = S ++ t := by
  unfold pre
  constructor
  · intro h
    have e := eq_of_beq h
    exact ⟨L.drop S.length, by conv => lhs; rw [← List.take_append_drop S.length L, e]⟩
  · rintro ⟨t, rfl⟩
    simp
theorem pre_word {w q : Wd} (hw : NoBl w) (hq : NoBl q) : ∀ r : List Wd, pre (sepW w) (32 :: jn (q :: r)) = (decide (q = w) && !r.isEmpty)
  | [] => by
    rw [Bool.eq_iff_iff, pre_iff]
    constructor
    · rintro ⟨t, e⟩
      have e2 : q = w ++ 32 :: t := by
        have := (List.cons.inj e).2
        have e3 : jn [q] = w ++ 32 :: t := by simpa using this
        exact e3
      exact absurd (by rw [e2]; simp) hq
    · intro h; simp at h
  | q2 :: r => by
    rw [Bool.eq_iff_iff, pre_iff]
    constructor
    · rintro ⟨t, e⟩
      have e2 : w ++ 32 :: t = q ++ 32 :: jn (q2 :: r) := by
        have := (List.cons.inj e).2
        rw [jn_cons] at this
        rw [this]; simp
      rw [word_eq hw hq e2]
      simp
    · intro h
      have e : q = w := by simpa using h
      subst e
      exact ⟨jn (q2 :: r), by rw [jn_cons]; simp [sepW]⟩
theorem free_blank {p : Wd} {w : Wd} {rest : List Nat} (h : NoBl p) : ∀ i, i < p.length → pre (sepW w) ((p ++ rest).drop i) = false := free_of (s := 32) h
theorem spl_words {w : Wd} (hw : NoBl w) : ∀ (ws : List Wd) (p : Wd) (acc : List Nat), NoBl p → (∀ q ∈ ws, NoBl q) →
    spl (sepW w) 0 acc (jn (p :: ws)) = match cutW w ws with
      | some x => (acc ++ jn (p :: x.1)) :: spl (sepW w) 0 [] (jn x.2)
      | none => [acc ++ jn (p :: ws)]
  | [], p, acc, hp, _ => by
    show spl (sepW w) 0 acc p = [acc ++ p]
    exact spl_last1 hp
  | q :: r, p, acc, hp, hr => by
    have hq := hr q List.mem_cons_self
    have run := spl_run (sepW w) (jn (p :: q :: r)) p.length 0 acc (by rw [jn_cons, List.length_append]; omega) (fun k _ k2 => by rw [jn_cons]; exact free_blank hp k (by omega))
    rw [List.drop_zero, Nat.zero_add, jn_cons, List.drop_left, List.take_left] at run
    rw [jn_cons, run]
    have hpre := pre_word hw hq r
    cases r with
    | nil =>
      rw [List.isEmpty_nil, Bool.not_true, Bool.and_false] at hpre
      have ih := spl_words hw [] q (acc ++ p ++ [32]) hq (by simp)
      rw [spl_miss hpre]
      rw [ih]
      show [_] = [_]
      simp [cutW, joinL]
    | cons q2 r =>
      by_cases e : q = w
      · subst e
        have hpre' : pre (sepW q) (32 :: jn (q :: q2 :: r)) = true := by rw [hpre]; simp
        have := spl_at (S := sepW q) (L := 32 :: jn (q :: q2 :: r)) (by simp [sepW]) (c := 0) (acc := acc ++ p) (by rw [List.drop_zero]; exact hpre')
        rw [List.drop_zero] at this
        rw [this]
        simp only [cutW, if_pos rfl]
        rw [Nat.zero_add, jn_cons]
        simp [sepW, joinL]
      · have hpre' : pre (sepW w) (32 :: jn (q :: q2 :: r)) = false := by rw [hpre]; simp [e]
        have ih := spl_words hw (q2 :: r) q (acc ++ p ++ [32]) hq (fun z hz => hr z (List.mem_cons_of_mem _ hz))
        rw [spl_miss hpre', ih]
        have ec : cutW w (q :: q2 :: r) = (cutW w (q2 :: r)).map fun x => (q :: x.1, x.2) := by
          show (if q = w then _ else _) = _
          rw [if_neg e]
        rw [ec]
        cases cutW w (q2 :: r) with
        | none => simp [jn_cons]
        | some x => simp [jn_cons]

theorem cutW_app {w : Wd} {b : List Wd} (hb : b ≠ []) : ∀ {a : List Wd}, w ∉ a → cutW w (a ++ w :: b) = some (a, b)
  | [], _ => by
    cases b with
    | nil => exact absurd rfl hb
    | cons q r => simp [cutW]
  | [c], h => by
    have e : ¬ c = w := fun z => h (by rw [z]; exact List.mem_cons_self)
    have ih := cutW_app hb (a := []) (w := w) (by simp)
    show cutW w (c :: w :: b) = _
    unfold cutW
    rw [if_neg e]
    rw [show cutW w (w :: b) = some ([], b) from ih]
    rfl
  | c :: d :: a, h => by
    have e : ¬ c = w := fun z => h (by rw [z]; exact List.mem_cons_self)
    have ih := cutW_app hb (a := d :: a) (w := w) (fun z => h (List.mem_cons_of_mem _ z))
    show cutW w (c :: (d :: a ++ w :: b)) = _
    rw [List.cons_append] at ih ⊢
    unfold cutW
    rw [if_neg e, ih]
    rfl
theorem cutW_none {w : Wd} : ∀ {a : List Wd}, w ∉ a → cutW w a = none
  | [], _ => rfl
  | [_], _ => rfl
  | c :: d :: a, h => by
    have e : ¬ c = w := fun z => h (by rw [z]; exact List.mem_cons_self)
    have ih := cutW_none (a := d :: a) (fun z => h (List.mem_cons_of_mem _ z))
    unfold cutW
    rw [if_neg e, ih]
    rfl
def inter (w : Wd) : List (List Wd) → List Wd
  | [] => []
  | [p] => p
  | p :: q :: r => p ++ w :: inter w (q :: r)
theorem inter_ne {w : Wd} : ∀ {ps : List (List Wd)}, ps ≠ [] → (∀ p ∈ ps, p ≠ []) → inter w ps ≠ []
  | [], h, _ => absurd rfl h
  | [p], _, hp => hp p List.mem_cons_self
  | p :: q :: r, _, hp => by simp [inter]
theorem mem_inter {w z : Wd} : ∀ {ps : List (List Wd)}, z ∈ inter w ps → z = w ∨ ∃ p ∈ ps, z ∈ p
  | [], h => by cases h
  | [p], h => .inr ⟨p, List.mem_cons_self, h⟩
  | p :: q :: r, h => by
    rcases List.mem_append.mp h with h | h
    · exact .inr ⟨p, List.mem_cons_self, h⟩
    · rcases List.mem_cons.mp h with h | h
      · exact .inl h
      · rcases mem_inter h with h | ⟨p', h1, h2⟩
        · exact .inl h
        · exact .inr ⟨p', List.mem_cons_of_mem _ h1, h2⟩
theorem spl_inter {w : Wd} (hw : NoBl w) : ∀ {ps : List (List Wd)}, ps ≠ [] → (∀ p ∈ ps, p ≠ [] ∧ w ∉ p ∧ ∀ q ∈ p, NoBl q) → spl (sepW w) 0 [] (jn (inter w ps)) = ps.map jn
  | [], h, _ => absurd rfl h
  | [p], _, hp => by
    obtain ⟨h1, h2, h3⟩ := hp p List.mem_cons_self
    cases p with
    | nil => exact absurd rfl h1
    | cons c a =>
      show spl (sepW w) 0 [] (jn (c :: a)) = [jn (c :: a)]
      rw [spl_words hw a c [] (h3 c List.mem_cons_self) (fun q hq => h3 q (List.mem_cons_of_mem _ hq)), cutW_none fun z => h2 (List.mem_cons_of_mem _ z)]
      rfl
  | p :: p2 :: r, _, hp => by
    obtain ⟨h1, h2, h3⟩ := hp p List.mem_cons_self
    have ih := spl_inter hw (ps := p2 :: r) (by simp) (fun z hz => hp z (List.mem_cons_of_mem _ hz))
    have hn : inter w (p2 :: r) ≠ [] := inter_ne (by simp) (fun z hz => (hp z (List.mem_cons_of_mem _ hz)).1)
    have hb : ∀ q ∈ inter w (p2 :: r), NoBl q := fun q hq => by
      rcases mem_inter hq with h | ⟨p', h4, h5⟩
      · rw [h]; exact hw
      · exact (hp p' (List.mem_cons_of_mem _ h4)).2.2 q h5
    cases p with
    | nil => exact absurd rfl h1
    | cons c a =>
      show spl (sepW w) 0 [] (jn (c :: (a ++ w :: inter w (p2 :: r)))) = jn (c :: a) :: (p2 :: r).map jn
      rw [spl_words hw _ c [] (h3 c List.mem_cons_self) (fun q hq => by
        rcases List.mem_append.mp hq with h | h
        · exact h3 q (List.mem_cons_of_mem _ h)
        · rcases List.mem_cons.mp h with h | h
          · rw [h]; exact hw
          · exact hb q h), cutW_app hn fun z => h2 (List.mem_cons_of_mem _ z)]
      show ([] ++ jn (c :: a)) :: spl (sepW w) 0 [] (jn (inter w (p2 :: r))) = _
      rw [ih]; rfl
def ofL (l : List Nat) : Str := ⟨l.toArray⟩
theorem tl_ofL (l : List Nat) : tl (ofL l) = l := by simp [ofL, tl]
theorem split_words {x y : Str} {w : Wd} {ps : List (List Wd)} (hy : tl y = sepW w) (hw : NoBl w) (hk : y.cps.all (· < 256) = true) (hx : tl x = jn (inter w ps)) (hn : ps ≠ []) (hp : ∀ p ∈ ps, p ≠ [] ∧ w ∉ p ∧ ∀ q ∈ p, NoBl q) :
    Txt.split x y = ps.map fun p => ofL (jn p) := by
  refine map_tl_inj ?_
  rw [split_spl x y (by rw [hy]; simp [sepW]) (kind_ok hk), hx, hy, spl_inter hw hn hp, List.map_map]
  exact List.map_congr_left fun p _ => (tl_ofL _).symm

section
variable {X : Cx} {T : TX X} {ρ : Rho} {C : Cells} {N : TEnds}
end
end Tr

set_option maxHeartbeats 4000000
namespace Tr
open PySem L2 PySem.Spec PyProof.Rows

abbrev ME := Cells → QE → Prop
abbrev MA := Cells → QA → Prop
abbrev MT := Cells → QT → Prop
abbrev MI := Cells → QI → Prop
abbrev MB := Cells → Prop
def up (F : FS) : FS := fun ds C Q Qx => ∃ Q' Qx', F ds C Q' Qx' ∧ (∀ d C', Q' d C' → Q d C') ∧ ∀ cls fs C', Qx' cls fs C' → Qx cls fs C'
theorem FnG.up {P : Program} {w : World} {K : W.Frag} {mg : Str → Option Value} {base : Heap} {k : Nat} {f : Addr} {fd : FuncData} {ps : List Str} {F : FS} (h : FnG P w K mg base k f fd ps F) : FnG P w K mg base k f fd ps (up F) :=
  ⟨fun ds C Q Qx ⟨Q', Qx', z, _, _⟩ => h.len _ _ _ _ z, fun A outer s H args us vs R E hr e0 hb rv ⟨H0, ds, C, Q, Qx, c, r, ⟨Q', Qx', z, i1, i2⟩, k1, k2⟩ => h.run A outer s H args us vs R E hr e0 hb rv
    ⟨H0, ds, C, Q', Qx', c, r, z, fun v d C' H' H0' p c' r' q => k1 v d C' H' H0' p c' r' (i1 _ _ q), fun cls dd fs C' H' H0' p c' x q => k2 cls dd fs C' H' H0' p c' x (i2 _ _ _ q)⟩⟩

section
variable {X : Cx}
def SE (T : TX X) (e : Expr) (ρ : Rho) (A : ME) : Prop := ∀ C Q, A C Q → Tr.WE T e ρ C Q
def SA (T : TX X) (es : List Expr) (ρ : Rho) (A : MA) : Prop := ∀ C Q, A C Q → WA T es ρ C Q
def ST (T : TX X) (e : Expr) (ρ : Rho) (A : MT) : Prop := ∀ C Q, A C Q → WT T e ρ C Q
def SP (T : TX X) (e : Expr) (ρ : Rho) (A : MT) : Prop := ∀ C Q, A C Q → WP T e ρ C Q
def SI (T : TX X) (tg e : Expr) (ρ : Rho) (A : MI) : Prop := ∀ C Q, A C Q → WI T tg e ρ C Q
def SB (T : TX X) (st : List Stmt) (ρ : Rho) (m : MB) (N : TEnds) : Prop := ∀ C, m C → WSs T st ρ C N
def SG (T : TX X) (tg : Expr) (d : D) (ρ : Rho) (st : List Stmt) (m : MB) (N : TEnds) : Prop := ∀ C, m C → WG T tg d ρ C fun ρ1 C1 => WSs T st ρ1 C1 N
variable {T : TX X} {ρ ρ' : Rho} {C : Cells} {N : TEnds} {e a b c o : Expr} {pos pos' p p2 apos : Pos} {es tgs : List Expr} {st : Stmt} {rest body : List Stmt} {x m : Str} {A B A' : ME} {AS : MA} {mt mf : MB}
theorem WA.mono {Q Q' : QA} (h : WA T es ρ C Q) (i : ∀ d C', Q d C' → Q' d C') : WA T es ρ C Q' :=
  PA.imp h fun σ H R ⟨H0, a, k⟩ => ⟨H0, a, fun vs ds C' H' H0' p c r q => k vs ds C' H' H0' p c r (i ds C' q)⟩
theorem WP.mono {Q Q' : QT} (h : WP T e ρ C Q) (i : ∀ d C', Q d C' → Q' d C') : WP T e ρ C Q' :=
  PW.imp h fun σ H R ⟨H0, a, k⟩ => ⟨H0, a, fun v C' H' H0' p c q => k v C' H' H0' p c (i v C' q)⟩
theorem WI.mono {tg : Expr} {Q Q' : QI} (h : WI T tg e ρ C Q) (i : ∀ ds P C', Q ds P C' → Q' ds P C') : WI T tg e ρ C Q' :=
  PI.imp h fun σ H R ⟨H0, a, k⟩ => ⟨H0, a, fun J ds P C' H' H0' p c y q => k J ds P C' H' H0' p c y (i ds P C' q)⟩
theorem OW.mono {f : Value → Value → Sem Value} {d1 d2 : D} {Q Q' : QE} (h : OW T f d1 d2 C Q) (i : ∀ d C', Q d C' → Q' d C') : OW T f d1 d2 C Q' :=
  OpR.imp h fun x y H R ⟨H0, c, r1, r2, k⟩ => ⟨H0, c, r1, r2, fun v d C' H' H0' p c r q => k v d C' H' H0' p c r (i d C' q)⟩
theorem CW.mono {f : Value} {ds : List D} {Q Q' : QE} (h : CW T f ds C Q) (i : ∀ d C', Q d C' → Q' d C') : CW T f ds C Q' :=
  CallR.imp h fun xs H R ⟨H0, c, r1, k⟩ => ⟨H0, c, r1, fun v d C' H' H0' p c r q => k v d C' H' H0' p c r (i d C' q)⟩

structure LeR (ρ ρ' : Rho) : Prop where
  l : ρ.length = ρ'.length
  s : ∀ (i : Nat) (d : D), ρ[i]? = some (some d) → ρ'[i]? = some (some d)
theorem LeR.refl (ρ : Rho) : LeR ρ ρ := ⟨rfl, fun _ _ h => h⟩
theorem LeR.nil : LeR [] [] := .refl _
theorem LeR.keep {x : Option D} (h : LeR ρ ρ') : LeR (x :: ρ) (x :: ρ') := ⟨by simp [h.l], fun i d q => by
  cases i with
  | zero => exact q
  | succ i => exact h.s i d q⟩
theorem LeR.drop {x : Option D} (h : LeR ρ ρ') : LeR (none :: ρ) (x :: ρ') := ⟨by simp [h.l], fun i d q => by
  cases i with
  | zero => cases q
  | succ i => exact h.s i d q⟩
theorem LeR.trans {ρ1 ρ2 ρ3 : Rho} (h : LeR ρ1 ρ2) (g : LeR ρ2 ρ3) : LeR ρ1 ρ3 := ⟨h.l.trans g.l, fun i d q => g.s i d (h.s i d q)⟩
theorem At.forget {H0 : Hp} {σ : L2.St} {H : Hp} (l : LeR ρ ρ') (h : At T H0 ρ' C σ H) : At T H0 ρ C σ H := ⟨h.a, h.c, fun i d q => h.s i d (l.s i d q), l.l.trans h.l⟩
theorem wss_forget (l : LeR ρ ρ') (h : WSs T rest ρ C N) : WSs T rest ρ' C N := PSs.imp h fun Dn σ H ⟨H0, at_, k⟩ => ⟨H0, at_.forget l, k⟩
theorem wg_forget {d : D} {tg : Expr} {Q : QS} (l : LeR ρ ρ') (h : WG T tg d ρ C Q) : WG T tg d ρ' C Q := PG.imp h fun v σ H R ⟨H0, at_, r, k⟩ => ⟨H0, at_.forget l, r, k⟩

abbrev eVal (d : D) : ME := fun C Q => Q d C
abbrev eBin (A B : ME) (O : D → D → ME) : ME := fun C Q => A C fun x C1 => B C1 fun y C2 => O x y C2 Q
abbrev eApp (A : ME) (O : D → ME) : ME := fun C Q => A C fun x C1 => O x C1 Q
abbrev aNil : MA := fun C Q => Q [] C
abbrev aCons (A : ME) (B : MA) : MA := fun C Q => A C fun d C1 => B C1 fun ds C2 => Q (d :: ds) C2
abbrev eArgs (A : MA) (O : List D → ME) : ME := fun C Q => A C fun ds C1 => O ds C1 Q
def pTup (ds : List D) : ME := fun C Q => ds.length ≤ 100000 ∧ Q (.tup ds) C
def pLst (ds : List D) : ME := fun C Q => ds.length ≤ 100000 ∧ Q (.lst ds) C
def pLstC (ds : List D) : ME := fun C Q => ds.length ≤ 100000 ∧ ∀ p, Q (.raw (.ref p)) ((p, .lst ds) :: C)
def pTru : D → MT
  | .bl k => fun C Q => Q k C
  | _ => fun _ _ => False
abbrev tVal (A : ME) : MT := fun C Q => A C fun d C1 => pTru d C1 Q
abbrev tNot (A : MT) : MT := fun C Q => A C fun k C1 => Q (!k) C1
abbrev tAnd (A B : MT) : MT := fun C Q => A C fun k C1 => if k = true then B C1 Q else Q false C1
abbrev tOr (A B : MT) : MT := fun C Q => A C fun k C1 => if k = true then Q true C1 else B C1 Q
abbrev tBin (A B : ME) (O : D → D → ME) : MT := fun C Q => A C fun x C1 => B C1 fun y C2 => O x y C2 fun d C3 => pTru d C3 Q
abbrev eIf (c : MT) (A B : ME) : ME := fun C Q => c C fun k C1 => if k = true then A C1 Q else B C1 Q
abbrev eAnd (A B : ME) : ME := fun C Q => A C fun d C1 => pTru d C1 fun k C2 => if k = true then B C2 Q else Q (.bl false) C2
abbrev eOr (A B : ME) : ME := fun C Q => A C fun d C1 => pTru d C1 fun k C2 => if k = true then Q (.bl true) C2 else B C2 Q
def pNeg : D → ME
  | .int i => fun C Q => Q (.int (-i)) C
  | _ => fun _ _ => False
theorem pTru_ex {d : D} {Q : QT} (h : pTru d C Q) : ∃ k, d = .bl k ∧ Q k C := by
  cases d with
  | bl k => exact ⟨k, rfl, h⟩
  | _ => exact False.elim h

theorem se_var {d : D} (i : Nat) (hd : ρ[i]? = some (some d)) (h : PE X (.Name x pos) (tVar i)) : SE T (.Name x pos) ρ (eVal d) := fun C Q q => we_var i hd q h
theorem se_glob {v : V} {d : D} (h : PE X (.Name x pos) (tC v)) (r : ∀ H0 : Hp, Rep X.K H0 d v) : SE T (.Name x pos) ρ (eVal d) := fun C Q q => we_glob h r q
theorem se_ty {n : String} (hg : Gl X x) (hm : X.mg x = none) (hv : bootBuiltins x = some (.type n)) (hn : x ≠ "__name__" := by decide) (hd : (x == ("__debug__" : Str)) = false := by decide) : SE T (.Name x pos) ρ (eVal (.raw (.ty n))) :=
  fun C Q q => we_ty hg hm hv q hn hd
theorem se_int {i j} : SE T (.Constant (.int i) j pos) ρ (eVal (.int i)) := fun C Q q => we_int q
theorem se_str {i j} : SE T (.Constant (.str i) j pos) ρ (eVal (.str i)) := fun C Q q => we_str q
theorem se_bl {i j} : SE T (.Constant (.bool i) j pos) ρ (eVal (.bl i)) := fun C Q q => we_bl q
theorem se_non {j} : SE T (.Constant .none j pos) ρ (eVal .non) := fun C Q q => we_non q
theorem se_bin {op : Operator} {O : D → D → ME} (ha : SE T a ρ A) (hb : SE T b ρ B) (ho : ∀ x y C Q, O x y C Q → OW T (binaryOp op) x y C Q) : SE T (.BinOp a op b pos) ρ (eBin A B O) :=
  fun C Q h => we_bin ((ha C _ h).mono fun x C1 h1 => (hb C1 _ h1).mono fun y C2 h2 => ho x y C2 Q h2)
theorem se_cmp {op : CmpOp} {O : D → D → ME} (ha : SE T a ρ A) (hb : SE T b ρ B) (ho : ∀ x y C Q, O x y C Q → OW T (compareOp op) x y C Q) (hm : behindInMarks op b = false := by rfl) : SE T (.Compare a [op] [b] pos) ρ (eBin A B O) :=
  fun C Q h => we_cmp ((ha C _ h).mono fun x C1 h1 => (hb C1 _ h1).mono fun y C2 h2 => ho x y C2 Q h2) hm
theorem st_cmp {op : CmpOp} {O : D → D → ME} (ha : SE T a ρ A) (hb : SE T b ρ B) (ho : ∀ x y C Q, O x y C Q → OW T (compareOp op) x y C Q) (hm : behindInMarks op b = false := by rfl) : ST T (.Compare a [op] [b] pos) ρ (tBin A B O) :=
  fun C Q h => wt_cmp ((ha C _ h).mono fun x C1 h1 => (hb C1 _ h1).mono fun y C2 h2 => (ho x y C2 _ h2).mono fun d C3 h3 => pTru_ex h3) hm
abbrev tChain (A B A' : ME) (O O' : D → D → ME) : MT := fun C Q => A C fun x C1 => B C1 fun y C2 => O x y C2 fun d C3 => pTru d C3 fun k C3 => if k = true then A' C3 fun z C4 => O' y z C4 fun d C5 => pTru d C5 Q else Q false C3
theorem st_chain {op op' : CmpOp} {O O' : D → D → ME} (ha : SE T a ρ A) (hb : SE T b ρ B) (hc : SE T c ρ A') (ho : ∀ x y C Q, O x y C Q → OW T (compareOp op) x y C Q) (ho' : ∀ x y C Q, O' x y C Q → OW T (compareOp op') x y C Q)
    (hm : lastMarks [op, op'] [b, c] = false := by with_unfolding_all rfl) : ST T (.Compare a [op, op'] [b, c] pos) ρ (tChain A B A' O O') :=
  fun C Q h => wt_chain2 ((ha C _ h).mono fun x C1 h1 => (hb C1 _ h1).mono fun y C2 h2 => (ho x y C2 _ h2).mono fun d C3 h3 => by
    obtain ⟨k, e, h4⟩ := pTru_ex h3
    refine ⟨k, e, ?_⟩
    cases k with
    | false => exact h4
    | true => exact (hc C3 _ h4).mono fun z C4 h5 => (ho' y z C4 _ h5).mono fun d C5 h6 => pTru_ex h6) hm
theorem st_val (h : SE T e ρ A) (he : ∀ whole, isTrue e X.env whole = (do let v ← whole; standAt e.pos; holding [v] (truthy v)) := by intro _; rfl) : ST T e ρ (tVal A) :=
  fun C Q q => wt_val ((h C _ q).mono fun d C1 h1 => pTru_ex h1) he
theorem st_not {t : MT} (h : ST T a ρ t) : ST T (.UnaryOp .Not a pos) ρ (tNot t) := fun C Q q => wt_not (h C _ q)
theorem st_p {t : MT} (h : SP T a ρ t) : ST T a ρ t := fun C Q q => wt_p (h C Q q)
theorem sp_and1 {t : MT} (h : ST T a ρ t) : SP T (.BoolOp .And [a] pos) ρ t := fun C Q q => wp_and1 (h C Q q)
theorem sp_or1 {t : MT} (h : ST T a ρ t) : SP T (.BoolOp .Or [a] pos) ρ t := fun C Q q => wp_or1 (h C Q q)
theorem sp_and {t u : MT} (h : ST T a ρ t) (g : SP T (.BoolOp .And (b :: es) pos) ρ u) : SP T (.BoolOp .And (a :: b :: es) pos) ρ (tAnd t u) :=
  fun C Q q => wp_and ((h C _ q).mono fun k C1 h1 => by
    cases k with
    | true => exact g C1 Q h1
    | false => exact h1)
theorem sp_or {t u : MT} (h : ST T a ρ t) (g : SP T (.BoolOp .Or (b :: es) pos) ρ u) : SP T (.BoolOp .Or (a :: b :: es) pos) ρ (tOr t u) :=
  fun C Q q => wp_or ((h C _ q).mono fun k C1 h1 => by
    cases k with
    | true => exact h1
    | false => exact g C1 Q h1)
theorem se_one {op} (h : SE T a ρ A) : SE T (.BoolOp op [a] pos) ρ A := fun C Q q => we_one (h C Q q)
theorem se_and (h : SE T a ρ A) (g : SE T (.BoolOp .And (b :: es) pos) ρ B) : SE T (.BoolOp .And (a :: b :: es) pos) ρ (eAnd A B) :=
  fun C Q q => we_and ((h C _ q).mono fun d C1 h1 => by
    obtain ⟨k, e, h4⟩ := pTru_ex h1
    refine ⟨k, e, ?_⟩
    cases k with
    | false => exact h4
    | true => exact g C1 Q h4)
theorem se_or (h : SE T a ρ A) (g : SE T (.BoolOp .Or (b :: es) pos) ρ B) : SE T (.BoolOp .Or (a :: b :: es) pos) ρ (eOr A B) :=
  fun C Q q => we_or ((h C _ q).mono fun d C1 h1 => by
    obtain ⟨k, e, h4⟩ := pTru_ex h1
    refine ⟨k, e, ?_⟩
    cases k with
    | true => exact h4
    | false => exact g C1 Q h4)
theorem se_neg (h : SE T a ρ A) : SE T (.UnaryOp .USub a pos) ρ (eApp A pNeg) := fun C Q q => we_neg (i := 0) ((h C _ q).mono fun d C1 h1 => by
  cases d with
  | int i => exact ⟨i, rfl, h1⟩
  | _ => exact False.elim h1)
theorem se_if {t : MT} (h : ST T c ρ t) (ha : SE T a ρ A) (hb : SE T b ρ B) : SE T (.IfExp c a b pos) ρ (eIf t A B) :=
  fun C Q q => we_ifExp ((h C _ q).mono fun k C1 h1 => by
    cases k with
    | true => exact ha C1 Q h1
    | false => exact hb C1 Q h1)
theorem sa_nil : SA T [] ρ aNil := fun C Q q => wa_nil q
theorem sa_cons (h : SE T e ρ A) (g : SA T es ρ AS) (hs : starEach (e :: es) X.env = (false, eval e X.env) :: starEach es X.env := by rfl) : SA T (e :: es) ρ (aCons A AS) :=
  fun C Q q => wa_cons ((h C _ q).mono fun d C1 h1 => (g C1 _ h1)) hs
theorem se_tup {k} (h : SA T es ρ AS) : SE T (.Tuple es k pos) ρ (eArgs AS pTup) := fun C Q q => we_tup (h C _ q)
theorem se_lst (h : SA T es ρ AS) : SE T (.List es pos) ρ (eArgs AS pLst) := fun C Q q => we_lst (h C _ q)
theorem se_lstC (h : SA T es ρ AS) : SE T (.List es pos) ρ (eArgs AS pLstC) := fun C Q q => we_lstC (h C _ q)
theorem se_callB {q : Pos} {id : String} {O : List D → ME} (hg : Gl X x) (hm : X.mg x = none) (hv : bootBuiltins x = some (.builtin id)) (h : SA T (a :: es) ρ AS) (ho : ∀ ds C Q, O ds C Q → CW T (.builtin id) ds C Q)
    (hn : x ≠ "__name__" := by decide) (hdb : (x == ("__debug__" : Str)) = false := by decide) (he : starEach (a :: es) X.env = (false, eval a X.env) :: starEach es X.env := by rfl) (hpl : (backTo pos (starEach es X.env)).any (·.1) = false := by rfl) :
    SE T (.Call (.Name x q) (a :: es) [] pos) ρ (eArgs AS O) := fun C Q z => we_callB hg hm hv ((h C _ z).mono fun ds C1 h1 => ho ds C1 Q h1) hn hdb he hpl
theorem se_callTy {q : Pos} {id : String} {O : List D → ME} (hg : Gl X x) (hm : X.mg x = none) (hv : bootBuiltins x = some (.type id)) (h : SA T (a :: es) ρ AS) (ho : ∀ ds C Q, O ds C Q → CW T (.type id) ds C Q)
    (hn : x ≠ "__name__" := by decide) (hdb : (x == ("__debug__" : Str)) = false := by decide) (he : starEach (a :: es) X.env = (false, eval a X.env) :: starEach es X.env := by rfl) (hpl : (backTo pos (starEach es X.env)).any (·.1) = false := by rfl) :
    SE T (.Call (.Name x q) (a :: es) [] pos) ρ (eArgs AS O) := fun C Q z => we_callTy hg hm hv ((h C _ z).mono fun ds C1 h1 => ho ds C1 Q h1) hn hdb he hpl

def callW (F : FS) (Xq : QX) (ds : List D) : ME := fun C Q => ∃ μ r, C.Perm (μ ++ r) ∧ F ds μ (fun d μ' => Q d (μ' ++ r)) fun cls fs μ' => Xq cls fs (μ' ++ r)
theorem call_all {F : FS} {Xq : QX} {ds : List D} {Q : QE} (h : F ds C Q Xq) : callW F Xq ds C Q := ⟨C, [], by simp, by simpa using h⟩
theorem call_none {F : FS} {Xq : QX} {ds : List D} {Q : QE} (h : F ds [] (fun d μ' => Q d (μ' ++ C)) fun cls fs μ' => Xq cls fs (μ' ++ C)) : callW F Xq ds C Q := ⟨[], C, by simp, h⟩
theorem callW.asks {F : FS} {Xq : QX} {ds : List D} {Q : QE} (h : callW F Xq ds C Q) (hX : ∀ cls fs C, Xq cls fs C → T.XQ cls fs ρ C) : Asks T (up F) ρ ds C Q :=
  let ⟨μ, r, pm, z⟩ := h
  ⟨μ, r, pm, _, _, z, fun _ _ q => q, fun cls fs C' q => hX cls fs _ q⟩
variable {k : Nat} {f Cl : Addr} {fd : FuncData} {ps : List Str} {F : FS} {dvs : List V} {dds : List D} {dus : List Value} {Xq : QX}
theorem se_call {q : Pos} (Fk : FnG X.prog X.w X.K X.mg X.base k f fd ps F) (hr : RoomG k X.A) (hg : Gl X x) (hm : X.mg x = some (.ref f)) (hk : W.keepIn X.K (.ref f) = true) (hb : Binds X.K fd ps dus) (hd : Vals dvs dus) (hdd : ∀ H, Reps X.K H dds dvs)
    (hX : ∀ cls fs C, Xq cls fs C → T.XQ cls fs ρ C) (h : SA T (a :: es) ρ AS) (hdb : (x == ("__debug__" : Str)) = false := by decide) (he : starEach (a :: es) X.env = (false, eval a X.env) :: starEach es X.env := by rfl) (hpl : (backTo pos (starEach es X.env)).any (·.1) = false := by rfl) :
    SE T (.Call (.Name x q) (a :: es) [] pos) ρ (eArgs AS fun ds => callW F Xq (ds ++ dds)) :=
  fun C Q z => we_call Fk.up hr hg hm hk hb hd hdd ((h C _ z).mono fun ds C1 h1 => h1.asks hX) hdb he hpl
def makeW (F : FS) (Xq : QX) (Cl : Addr) (ds : List D) : ME := fun C Q => ∃ μ r, C.Perm (μ ++ r) ∧ ∀ z, F (.raw (.ref z) :: ds) ((z, .ins Cl [] []) :: μ) (fun d μ' => d = .non ∧ Q (.raw (.ref z)) (μ' ++ r)) fun cls fs μ' => Xq cls fs (μ' ++ r)
abbrev pFrz (A : ME) : ME := fun C Q => A C fun d C1 => ∃ (i : Nat) (z Cl : Addr) (ns : List Str) (ds : List D), d = .raw (.ref z) ∧ C1[i]? = some (z, .ins Cl ns ds) ∧ Q (.ins Cl ns ds) (C1.eraseIdx i)
theorem se_frz (h : SE T e ρ A) : SE T e ρ (pFrz A) := fun C Q q => we_frzI (h C _ q)
theorem makeW.asks {ds : List D} {Q : QE} (h : makeW F Xq Cl ds C Q) (hX : ∀ cls fs C, Xq cls fs C → T.XQ cls fs ρ C) : AsksM T (up F) Cl ρ ds C Q :=
  let ⟨μ, r, pm, w⟩ := h
  ⟨μ, r, pm, fun z => ⟨_, _, w z, fun _ _ q => q, fun cls fs C' q => hX cls fs _ q⟩⟩
theorem se_make {q : Pos} (M : Mk X.K Cl f) (Fk : FnG X.prog X.w X.K X.mg X.base k f fd ps F) (hr : RoomG (k + 1) X.A) (hg : Gl X x) (hm : X.mg x = some (.ref Cl)) (hb : Binds X.K fd ps dus) (hd : Vals dvs dus) (hdd : ∀ H, Reps X.K H dds dvs)
    (hX : ∀ cls fs C, Xq cls fs C → T.XQ cls fs ρ C) (h : SA T (a :: es) ρ AS) (hdb : (x == ("__debug__" : Str)) = false := by decide) (he : starEach (a :: es) X.env = (false, eval a X.env) :: starEach es X.env := by rfl) (hpl : (backTo pos (starEach es X.env)).any (·.1) = false := by rfl) :
    SE T (.Call (.Name x q) (a :: es) [] pos) ρ (eArgs AS fun ds => makeW F Xq Cl (ds ++ dds)) :=
  fun C Q z => we_make M Fk.up hr hg hm hb hd hdd ((h C _ z).mono fun ds C1 h1 => h1.asks hX) hdb he hpl
end
end Tr

set_option maxHeartbeats 4000000
namespace Tr
open PySem L2 PySem.Spec PyProof.Rows
section
variable {X : Cx} {T : TX X} {ρ ρ' : Rho} {C : Cells} {N : TEnds} {e a b c o i elt : Expr} {pos pos' p p2 apos spos : Pos} {es tgs : List Expr} {st : Stmt} {rest body tb fb : List Stmt} {x m : Str} {A B A' : ME} {AS : MA} {mt mf mm : MB} {scope : Scope} {tg : Expr}

def pFld (K : W.Frag) (m : Str) (d : D) : ME := fun C Q => ∃ Cl ns ds d', InsD C d Cl ns ds ∧ Cls K Cl ∧ NoAttr K Cl m ∧ (ns.zip ds).lookup m = some d' ∧ Q d' C
theorem se_fld (h : SE T e ρ A) (hb : attributeBase e m X.env (eval e X.env) = eval e X.env := by rfl) : SE T (.Attribute e m pos) ρ (eApp A (pFld X.K m)) :=
  fun C Q q => we_fld hb ((h C _ q).mono fun d C1 ⟨Cl, ns, ds, d', h1, h2, h3, h4, h5⟩ => ⟨Cl, ns, ds, d', h1, h2, h3, h4, h5⟩)
abbrev eMeth (A : ME) (AS : MA) (Cl : Addr) (m : Str) (F : FS) (Xq : QX) (dds : List D) : ME := fun C Q => A C fun d C1 => (∃ ns fds, InsD C1 d Cl ns fds ∧ ns.contains m = false) ∧ AS C1 fun ds C2 => callW F Xq (d :: (ds ++ dds)) C2 Q
variable {k : Nat} {f Cl g : Addr} {fd : FuncData} {ps : List Str} {F : FS} {dvs : List V} {dds : List D} {dus : List Value} {Xq : QX}
theorem se_meth {pl : Sem Bool} (cl : Cls X.K Cl) (hm : Meth X.K Cl m g) (Fk : FnG X.prog X.w X.K X.mg X.base k g fd ps F) (hr : RoomG k X.A) (hb : Binds X.K fd ps dus) (hd : Vals dvs dus) (hdd : ∀ H, Reps X.K H dds dvs)
    (hX : ∀ cls fs C, Xq cls fs C → T.XQ cls fs ρ C) (h : SE T o ρ A) (hs : SA T (a :: es) ρ AS)
    (hst : starEach (a :: es) X.env = (false, eval a X.env) :: starEach es X.env := by rfl) (hpl : (backTo pos (starEach es X.env)).any (·.1) = false := by rfl)
    (ht : eval (.Call (.Attribute o m apos) (a :: es) [] pos) X.env = (do
      let ov ← eval o X.env
      standAt apos.atName
      let (f, first) ← holding [ov] (getMethod ov m pl)
      callWith pos f first (backTo pos (starEach (a :: es) X.env)) (backToKw pos (keywordEach [] X.env))) := by rfl) :
    SE T (.Call (.Attribute o m apos) (a :: es) [] pos) ρ (eMeth A AS Cl m F Xq dds) :=
  fun C Q z => we_meth (pl := pl) cl hm Fk.up hr hb hd hdd ((h C _ z).mono fun d C1 ⟨⟨ns, fds, h1, h2⟩, h3⟩ => ⟨ns, fds, h1, h2, (hs C1 _ h3).mono fun ds C2 h4 => h4.asks hX⟩) hst hpl ht
theorem se_cmeth {pl : Sem Bool} (hc : CMetT X.K Cl m g) (Fk : FnG X.prog X.w X.K X.mg X.base k g fd ps F) (hr : RoomG k X.A) (hb : Binds X.K fd ps dus) (hd : Vals dvs dus) (hdd : ∀ H, Reps X.K H dds dvs)
    (hX : ∀ cls fs C, Xq cls fs C → T.XQ cls fs ρ C) (h : SE T o ρ (eVal (.raw (.ref Cl)))) (hs : SA T (a :: es) ρ AS)
    (hst : starEach (a :: es) X.env = (false, eval a X.env) :: starEach es X.env := by rfl) (hpl : (backTo pos (starEach es X.env)).any (·.1) = false := by rfl)
    (ht : eval (.Call (.Attribute o m apos) (a :: es) [] pos) X.env = (do
      let ov ← eval o X.env
      standAt apos.atName
      let (f, first) ← holding [ov] (getMethod ov m pl)
      callWith pos f first (backTo pos (starEach (a :: es) X.env)) (backToKw pos (keywordEach [] X.env))) := by rfl) :
    SE T (.Call (.Attribute o m apos) (a :: es) [] pos) ρ (eArgs AS fun ds => callW F Xq (.raw (.ref Cl) :: (ds ++ dds))) :=
  fun C Q z => we_cmeth (pl := pl) hc Fk.up hr hb hd hdd (h C _ ⟨rfl, (hs C _ z).mono fun ds C2 h4 => h4.asks hX⟩) hst hpl ht

def pIx : D → D → ME
  | .tup ds, .int i => fun C Q => ∃ d, atI ds i = some d ∧ Q d C
  | .lst ds, .int i => fun C Q => ∃ d, atI ds i = some d ∧ Q d C
  | .str s, .int i => fun C Q => s.length ≤ 100000 ∧ ∃ c, atI s.cps.toList i = some c ∧ Q (.str ⟨#[c]⟩) C
  | d, .int i => fun C Q => ∃ ds d', LstD C d ds ∧ atI ds i = some d' ∧ Q d' C
  | _, _ => fun _ _ => False
theorem pIx_iw {x y : D} {Q : QE} (h : pIx x y C Q) : IW T x y C Q := by
  cases y with
  | int i =>
    cases x with
    | tup ds => obtain ⟨d, h1, h2⟩ := h; exact iw_tup h1 h2
    | lst ds => obtain ⟨d, h1, h2⟩ := h; exact iw_lst .l h1 h2
    | str s => obtain ⟨h0, c, h1, h2⟩ := h; exact iw_str h0 h1 h2
    | _ => obtain ⟨ds, d', h1, h2, h3⟩ := h; exact iw_lst h1 h2 h3
  | _ => cases x <;> exact False.elim h
theorem se_ix (ha : SE T a ρ A) (hb : SE T b ρ B) (hs : PlainIx b := by intro _ _; rfl) : SE T (.Subscript a b pos) ρ (eBin A B pIx) :=
  fun C Q h => we_ix ((ha C _ h).mono fun x C1 h1 => (hb C1 _ h1).mono fun y C2 h2 => pIx_iw h2) hs
abbrev MO := Cells → (Option Int → Cells → Prop) → Prop
def SO (T : TX X) (e : Option Expr) (ρ : Rho) (A : MO) : Prop := ∀ C Q, A C Q → WO T e ρ C Q
abbrev oNone : MO := fun C Q => Q none C
def pOI : D → MO
  | .int i => fun C Q => Q (some i) C
  | _ => fun _ _ => False
abbrev oSome (A : ME) : MO := fun C Q => A C fun d C1 => pOI d C1 Q
theorem so_none : SO T none ρ oNone := fun C Q q => wo_none q
theorem so_some (h : SE T e ρ A) : SO T (some e) ρ (oSome A) := fun C Q q => wo_some ((h C _ q).mono fun d C1 h1 => by
  cases d with
  | int i => exact ⟨i, rfl, h1⟩
  | _ => exact False.elim h1)
def pSl (d : D) (l u : Option Int) : ME := match d with
  | .tup ds => fun C Q => Q (.tup (cutD ds l u)) C
  | .lst ds => fun C Q => Q (.lst (cutD ds l u)) C
  | .str s => fun C Q => s.length ≤ 100000 ∧ Q (.str (cutS s l u)) C
  | d => fun C Q => ∃ ds, LstD C d ds ∧ Q (.lst (cutD ds l u)) C
abbrev eSl (A : ME) (L U : MO) : ME := fun C Q => A C fun d C1 => L C1 fun l C2 => U C2 fun u C3 => pSl d l u C3 Q
theorem WO.mono {e : Option Expr} {Q Q' : Option Int → Cells → Prop} (h : WO T e ρ C Q) (i : ∀ d C', Q d C' → Q' d C') : WO T e ρ C Q' :=
  PO.imp h fun σ H R ⟨H0, a, k⟩ => ⟨H0, a, fun j C' H' H0' p c q => k j C' H' H0' p c (i j C' q)⟩
theorem se_slice {lo hi : Option Expr} {L U : MO} (h : SE T e ρ A) (hl : SO T lo ρ L) (hu : SO T hi ρ U) : SE T (.Subscript e (.Slice lo hi none p2) pos) ρ (eSl A L U) :=
  fun C Q q => we_slice ((h C _ q).mono fun d C1 h1 => (hl C1 _ h1).mono fun l C2 h2 => (hu C2 _ h2).mono fun u C3 h3 => by
    cases d with
    | tup ds => exact sw_tup h3
    | lst ds => exact sw_lst .l h3
    | str s => exact sw_str h3.1 h3.2
    | _ => obtain ⟨ds, h4, h5⟩ := h3; exact sw_lst h4 h5)
def pRev (d : D) : ME := fun C Q => ∃ ds, LstD C d ds ∧ Q (.lst ds.reverse) C
def pRevC (d : D) : ME := fun C Q => ∃ ds, LstD C d ds ∧ ∀ p, Q (.raw (.ref p)) ((p, .lst ds.reverse) :: C)
theorem se_revC {k : Nat} {p1 p2 p3 : Pos} (h : SE T e ρ A) : SE T (.Subscript e (.Slice none none (some (.UnaryOp .USub (.Constant (.int 1) k p1) p2)) p3) pos) ρ (eApp A pRevC) := fun C Q q => we_revC (h C _ q)

def pIter (d : D) : MI := match d with
  | .lst ds => fun C Q => Q ds (fun _ => True) C
  | .tup ds => fun C Q => Q ds (fun _ => True) C
  | d => fun C Q => ∃ ds, SeqD C d ds ∧ Q ds (fun C' => SeqD C' d ds) C
abbrev iApp (A : ME) (O : D → MI) : MI := fun C Q => A C fun d C1 => O d C1 Q
theorem wi_iter {Q : QI} (h : Tr.WE T e ρ C fun d C1 => pIter d C1 Q) : WI T tg e ρ C Q := by
  refine PI.imp (pi_seq h) fun σ H R ⟨H0, at_, k⟩ => ⟨H0, at_, fun v d C1 H1 H01 p1 c1 r1 q => ?_⟩
  have gen : ∀ {d : D}, Rep X.K H01 d v → (∃ ds, SeqD C1 d ds ∧ Q ds (fun C' => SeqD C' d ds) C1) → ∃ a xs, v = .ref a ∧ ((SqL X.K H1 a xs ∧ R (Itl X.K a) H1) ∨ (SqT X.K H1 a xs ∧ R (Itt X.K a) H1)) := by
    rintro d r1 ⟨ds, hq, q⟩
    rcases hq with (e1 | ⟨z, e1, hz⟩) | e1
    · subst e1
      obtain ⟨a, vs, e2, g1, g2⟩ := r1
      subst e2
      exact ⟨a, vs, rfl, .inl ⟨Same.sqL c1.same g1, k _ _ _ C1 H1 H01 p1 c1 ((yields_list g1 g2).weak fun _ _ => trivial) q⟩⟩
    · subst e1
      obtain rfl : v = .ref z := r1
      obtain ⟨vs, g1, g2⟩ := c1.ok z _ hz
      refine ⟨z, vs, rfl, .inl ⟨.inl (.inl g1), k _ _ _ C1 H1 H01 p1 c1 (yields_cell.weak fun C' h => ?_) q⟩⟩
      rcases h with (h | ⟨z', h, hm⟩) | h
      · cases h
      · cases h; exact hm
      · cases h
    · subst e1
      obtain ⟨a, vs, e2, g1, g2⟩ := r1
      subst e2
      exact ⟨a, vs, rfl, .inr ⟨Same.sqT c1.same g1, k _ _ _ C1 H1 H01 p1 c1 ((yields_tup g1 g2).weak fun _ _ => trivial) q⟩⟩
  cases d with
  | lst ds =>
    obtain ⟨a, vs, e2, g1, g2⟩ := r1
    subst e2
    exact ⟨a, vs, rfl, .inl ⟨Same.sqL c1.same g1, k _ _ _ C1 H1 H01 p1 c1 (yields_list g1 g2) q⟩⟩
  | tup ds =>
    obtain ⟨a, vs, e2, g1, g2⟩ := r1
    subst e2
    exact ⟨a, vs, rfl, .inr ⟨Same.sqT c1.same g1, k _ _ _ C1 H1 H01 p1 c1 (yields_tup g1 g2) q⟩⟩
  | _ => exact gen r1 q
theorem si_iter (h : SE T e ρ A) : SI T tg e ρ (iApp A pIter) := fun C Q q => wi_iter (h C _ q)
def pIterS (d : D) : MI := match d with
  | .str s => fun C Q => Q (signsD s) (fun _ => True) C
  | _ => fun _ _ => False
theorem si_iterS (h : SE T e ρ A) : SI T tg e ρ (iApp A pIterS) := fun C Q q => wi_str ((h C _ q).mono fun d C1 h1 => by
  cases d with
  | str s => exact ⟨s, rfl, h1⟩
  | _ => exact False.elim h1)
def pRange1 : D → MI
  | .int j => fun C Q => (-(2 ^ 62) ≤ j ∧ j < 2 ^ 62) ∧ Q (rangeD 0 j.toNat) (fun _ => True) C
  | _ => fun _ _ => False
def pRange2 : D → D → MI
  | .int i, .int j => fun C Q => (-(2 ^ 62) ≤ i ∧ i < 2 ^ 62 ∧ -(2 ^ 62) ≤ j ∧ j < 2 ^ 62) ∧ Q (rangeD i (j - i).toNat) (fun _ => True) C
  | _, _ => fun _ _ => False
theorem si_range1 (hg : Gl X "range") (hm : X.mg "range" = none) (h : SE T a ρ A) (hs : starEach [a] X.env = [(false, eval a X.env)] := by rfl) (hs2 : starEach [a] X.env = (false, eval a X.env) :: starEach [] X.env := by rfl) : SI T tg (.Call (.Name "range" p) [a] [] pos) ρ (iApp A pRange1) :=
  fun C Q q => wi_range1 hg hm ((h C _ q).mono fun d C1 h1 => by
    cases d with
    | int j => exact ⟨j, rfl, h1.1.1, h1.1.2, h1.2⟩
    | _ => exact False.elim h1) hs hs2
def pEnum (d : D) : MI := match d with
  | .lst ds => fun C Q => Q (enumD 0 ds) (fun _ => True) C
  | .tup ds => fun C Q => Q (enumD 0 ds) (fun _ => True) C
  | d => fun C Q => ∃ ds, SeqD C d ds ∧ Q (enumD 0 ds) (fun C' => SeqD C' d ds) C
theorem wi_enumI {Q : QI} {elts : List Expr} {kk : Nat} {tpos : Pos} (hg : Gl X "enumerate") (hm : X.mg "enumerate" = none) (h : Tr.WE T e ρ C fun d C1 => pEnum d C1 Q)
    (hs : starEach [e] X.env = [(false, eval e X.env)] := by rfl) (hs2 : starEach [e] X.env = (false, eval e X.env) :: starEach [] X.env := by rfl) : WI T (.Tuple elts kk tpos) (.Call (.Name "enumerate" p) [e] [] pos) ρ C Q :=
  wi_enum hg hm (h.mono fun d C1 h1 => by
    have gen : ∀ {d : D}, (∃ ds, SeqD C1 d ds ∧ Q (enumD 0 ds) (fun C' => SeqD C' d ds) C1) → (∀ ds, d ≠ .lst ds) → (∀ ds, d ≠ .tup ds) → ∃ ds, ((d = .lst ds ∨ d = .tup ds) ∧ Q (enumD 0 ds) (fun _ => True) C1) ∨ (∃ z, d = .raw (.ref z) ∧ (z, Cell.lst ds) ∈ C1 ∧ Q (enumD 0 ds) (fun C => (z, Cell.lst ds) ∈ C) C1) := by
      rintro d ⟨ds, hq, q⟩ n1 n2
      rcases hq with (e1 | ⟨z, e1, hz⟩) | e1
      · exact absurd e1 (n1 _)
      · refine ⟨ds, .inr ⟨z, e1, hz, ?_⟩⟩
        have : (fun C' => SeqD C' d ds) = fun C => (z, Cell.lst ds) ∈ C := by
          subst e1
          funext C'
          refine propext ⟨fun h => ?_, fun h => .inl (.inr ⟨z, rfl, h⟩)⟩
          rcases h with (h | ⟨z', h, hm⟩) | h
          · cases h
          · cases h; exact hm
          · cases h
        rw [← this]; exact q
      · exact absurd e1 (n2 _)
    cases d with
    | lst ds => exact ⟨ds, .inl ⟨.inl rfl, h1⟩⟩
    | tup ds => exact ⟨ds, .inl ⟨.inr rfl, h1⟩⟩
    | _ => exact gen h1 (fun _ h => by cases h) (fun _ h => by cases h)) hs hs2
theorem si_enum {elts : List Expr} {kk : Nat} {tpos : Pos} (hg : Gl X "enumerate") (hm : X.mg "enumerate" = none) (h : SE T e ρ A)
    (hs : starEach [e] X.env = [(false, eval e X.env)] := by rfl) (hs2 : starEach [e] X.env = (false, eval e X.env) :: starEach [] X.env := by rfl) : SI T (.Tuple elts kk tpos) (.Call (.Name "enumerate" p) [e] [] pos) ρ (iApp A pEnum) :=
  fun C Q q => wi_enumI hg hm (h C _ q) hs hs2

def lcB (P : Cells → Prop) (f : D → ME) (Q : QE) : List D → List D → Cells → Prop
  | [], acc, C => P C ∧ Q (.lst acc) C
  | d :: r, acc, C => P C ∧ f d C fun y C2 => acc.length < 100000 ∧ lcB P f Q r (acc ++ [y]) C2
def lcB1 (P : Cells → Prop) (t : D → MT) (f : D → ME) (Q : QE) : List D → List D → Cells → Prop
  | [], acc, C => P C ∧ Q (.lst acc) C
  | d :: r, acc, C => P C ∧ t d C fun k C1 => if k = true then f d C1 fun y C2 => acc.length < 100000 ∧ lcB1 P t f Q r (acc ++ [y]) C2 else lcB1 P t f Q r acc C1
abbrev eLc (I : MI) (f : D → ME) : ME := fun C Q => I C fun ds P C1 => lcB P f Q ds [] C1
abbrev eLc1 (I : MI) (t : D → MT) (f : D → ME) : ME := fun C Q => I C fun ds P C1 => lcB1 P t f Q ds [] C1
abbrev SEb (T : TX X) (scope : Scope) (e : Expr) (ρ : Rho) (A : ME) : Prop := ∀ (s : Shared) (H : Hp) (Ca : Addr) (cl : List (Str × Addr)) (fp : List Addr), SE (T.blk s H scope (compEnvC scope cl Ca X.env) fp) e ρ A
abbrev STb (T : TX X) (scope : Scope) (e : Expr) (ρ : Rho) (A : MT) : Prop := ∀ (s : Shared) (H : Hp) (Ca : Addr) (cl : List (Str × Addr)) (fp : List Addr), ST (T.blk s H scope (compEnvC scope cl Ca X.env) fp) e ρ A
structure BdOk (bd : Bind) (ρ : Rho) (T : TX X) (scope : Scope) (e : Expr) (f : D → ME) : Prop where
  run : ∀ d C Q, f d C Q → ∃ ρ', bd.to d ρ = some ρ' ∧ ∀ (s : Shared) (H : Hp) (Ca : Addr) (cl : List (Str × Addr)) (fp : List Addr), Tr.WE (T.blk s H scope (compEnvC scope cl Ca X.env) fp) e ρ' C Q
structure BdOkT (bd : Bind) (ρ : Rho) (T : TX X) (scope : Scope) (e : Expr) (f : D → MT) : Prop where
  run : ∀ d C Q, f d C Q → ∃ ρ', bd.to d ρ = some ρ' ∧ ∀ (s : Shared) (H : Hp) (Ca : Addr) (cl : List (Str × Addr)) (fp : List Addr), WT (T.blk s H scope (compEnvC scope cl Ca X.env) fp) e ρ' C Q
theorem bd_one {j : Nat} {f : D → ME} {r : D → Rho} (hr : ∀ d, ρ.set j (some d) = r d) (h : ∀ d, SEb T scope e (r d) (f d)) : BdOk (.one j) ρ T scope e f :=
  ⟨fun d C Q q => ⟨_, rfl, fun s H Ca cl fp => by rw [hr d]; exact h d s H Ca cl fp C Q q⟩⟩
theorem bdT_one {j : Nat} {f : D → MT} {r : D → Rho} (hr : ∀ d, ρ.set j (some d) = r d) (h : ∀ d, STb T scope e (r d) (f d)) : BdOkT (.one j) ρ T scope e f :=
  ⟨fun d C Q q => ⟨_, rfl, fun s H Ca cl fp => by rw [hr d]; exact h d s H Ca cl fp C Q q⟩⟩
def un2 {β : Sort _} (d : D) (f : D → D → Cells → β → Prop) : Cells → β → Prop := match d with
  | .tup [x, y] => f x y
  | _ => fun _ _ => False
def un3 {β : Sort _} (d : D) (f : D → D → D → Cells → β → Prop) : Cells → β → Prop := match d with
  | .tup [x, y, z] => f x y z
  | _ => fun _ _ => False
theorem un2_ex {β : Sort _} {d : D} {f : D → D → Cells → β → Prop} {q : β} (h : un2 d f C q) : ∃ x y, d = .tup [x, y] ∧ f x y C q := by
  unfold un2 at h
  split at h
  · exact ⟨_, _, rfl, h⟩
  · exact False.elim h
theorem bd_two {j k : Nat} {f : D → D → ME} {r : D → D → Rho} (hr : ∀ x y, (ρ.set j (some x)).set k (some y) = r x y) (h : ∀ x y, SEb T scope e (r x y) (f x y)) : BdOk (.tup [j, k]) ρ T scope e (fun d => un2 d f) :=
  ⟨fun d C Q q => by
    obtain ⟨x, y, e1, q⟩ := un2_ex q
    subst e1
    exact ⟨_, rfl, fun s H Ca cl fp => by show Tr.WE _ _ ((ρ.set j (some x)).set k (some y)) _ _; rw [hr]; exact h x y s H Ca cl fp C Q q⟩⟩
theorem bdT_two {j k : Nat} {f : D → D → MT} {r : D → D → Rho} (hr : ∀ x y, (ρ.set j (some x)).set k (some y) = r x y) (h : ∀ x y, STb T scope e (r x y) (f x y)) : BdOkT (.tup [j, k]) ρ T scope e (fun d => un2 d f) :=
  ⟨fun d C Q q => by
    obtain ⟨x, y, e1, q⟩ := un2_ex q
    subst e1
    exact ⟨_, rfl, fun s H Ca cl fp => by show WT _ _ ((ρ.set j (some x)).set k (some y)) _ _; rw [hr]; exact h x y s H Ca cl fp C Q q⟩⟩
theorem lc_mirror {bd : Bind} {vs : List Nat} {P : Cells → Prop} {Q Q' : QE} {f : D → ME} (hb : BdOk bd (wipeR ρ vs) T scope elt f) (i : ∀ d C, Q d C → Q' d C) : ∀ {ds acc : List D} {C : Cells}, lcB P f Q ds acc C → LcW T scope bd elt vs ρ P Q' ds acc C
  | [], acc, C, h => ⟨h.1, i _ _ h.2⟩
  | d :: r, acc, C, ⟨hp, h⟩ => by
    obtain ⟨ρ', e1, h1⟩ := hb.run d C _ h
    exact ⟨hp, ρ', e1, fun s H Ca cl fp => (h1 s H Ca cl fp).mono fun y C2 ⟨hl, q⟩ => ⟨hl, lc_mirror hb i q⟩⟩
theorem lc1_mirror {bd : Bind} {vs : List Nat} {P : Cells → Prop} {Q Q' : QE} {t : D → MT} {f : D → ME} (ht : BdOkT bd (wipeR ρ vs) T scope i t) (hb : BdOk bd (wipeR ρ vs) T scope elt f) (im : ∀ d C, Q d C → Q' d C) : ∀ {ds acc : List D} {C : Cells}, lcB1 P t f Q ds acc C → LcW1 T scope bd i elt vs ρ P Q' ds acc C
  | [], acc, C, h => ⟨h.1, im _ _ h.2⟩
  | d :: r, acc, C, ⟨hp, h⟩ => by
    obtain ⟨ρ', e1, h1⟩ := ht.run d C _ h
    refine ⟨hp, ρ', e1, fun s H Ca cl fp => (h1 s H Ca cl fp).mono fun k C1 q => ?_⟩
    cases k with
    | false => exact lc1_mirror ht hb im q
    | true =>
      obtain ⟨ρ2, e2, h2⟩ := hb.run d C1 _ q
      rw [e1] at e2; cases e2
      exact fun s H Ca cl fp => (h2 s H Ca cl fp).mono fun y C2 ⟨hl, q⟩ => ⟨hl, lc1_mirror ht hb im q⟩
theorem se_lc {iter : Expr} {I : MI} {f : D → ME} (own : List (Str × Nat)) (bd : Bind) (hc : X.calm = true) (hN : X.N.Nodup) (ok : BlkOk X.N X.env.scope scope own)
    (hg : ∀ (s : Shared) (H : Hp) (Ca : Addr) (cl : List (Str × Addr)) (fp : List Addr), PG (X.blk s H scope (compEnvC scope cl Ca X.env) fp) tg (bd.g X.K)) (hv : ∀ i ∈ bd.slots, i ∈ own.map (·.2))
    (hI : SI T tg iter ρ I) (hb : BdOk bd (wipeR ρ (own.map (·.2))) T scope elt f) (hs : ∀ x, foldedSetIterable iter X.env x = pure x := by intro _; rfl) : SE T (.ListComp elt [⟨tg, iter, [], 0⟩] scope pos) ρ (eLc I f) :=
  fun C Q q => we_lc own bd hc hN ok hg hv ((hI C _ q).mono fun ds P C1 h => lc_mirror hb (fun _ _ q => q) h) hs
theorem se_lc1 {iter : Expr} {I : MI} {t : D → MT} {f : D → ME} (own : List (Str × Nat)) (bd : Bind) (hc : X.calm = true) (hN : X.N.Nodup) (ok : BlkOk X.N X.env.scope scope own)
    (hg : ∀ (s : Shared) (H : Hp) (Ca : Addr) (cl : List (Str × Addr)) (fp : List Addr), PG (X.blk s H scope (compEnvC scope cl Ca X.env) fp) tg (bd.g X.K)) (hv : ∀ i ∈ bd.slots, i ∈ own.map (·.2))
    (hI : SI T tg iter ρ I) (ht : BdOkT bd (wipeR ρ (own.map (·.2))) T scope i t) (hb : BdOk bd (wipeR ρ (own.map (·.2))) T scope elt f) (hs : ∀ x, foldedSetIterable iter X.env x = pure x := by intro _; rfl) : SE T (.ListComp elt [⟨tg, iter, [i], 0⟩] scope pos) ρ (eLc1 I t f) :=
  fun C Q q => we_lc1 own bd hc hN ok hg hv ((hI C _ q).mono fun ds P C1 h => lc1_mirror ht hb (fun _ _ q => q) h) hs

abbrev mSet (A : ME) (k : D → MB) : MB := fun C => A C fun d C1 => k d C1
abbrev mExp (A : ME) (m : MB) : MB := fun C => A C fun _ C1 => m C1
abbrev mRet (A : ME) (Q : QE) : MB := fun C => A C Q
abbrev mIf (t : MT) (m1 m2 : MB) : MB := fun C => t C fun k C1 => if k = true then m1 C1 else m2 C1
theorem sb_nil (h : ∀ C, mm C → N.nx ρ C) : SB T [] ρ mm N := fun C q => wss_nil (h C q)
theorem sb_more {mm : MB} (h : SB T rest ρ mm N) : SB T [] ρ mm { N with nx := fun ρ1 C1 => WSs T rest ρ1 C1 N } := fun C q => wss_nil (h C q)
theorem sb_le {α : Type} {enc : α → Rho} {J : α → MB} {W : QS} {V B' : QS} {R : QE} {s : α} (hJ : ∀ a ρ' C, LeR (enc a) ρ' → J a C → W ρ' C) (l : LeR (enc s) ρ) : SB T [] ρ (J s) { nx := W, rt := R, bk := V, ct := B' } := fun C q => wss_nil (hJ s _ C l q)
theorem sb_set {kk : D → MB} {r : D → Rho} (j : Nat) (hN : X.N.Nodup) (hi : X.N[j]? = some x) (hx : Loc X.env.scope x) (hr : ∀ d, ρ.set j (some d) = r d) (h : SE T e ρ A) (hk : ∀ d, SB T rest (r d) (kk d) N)
    (hs : swapsWith e (some (.Name x pos')) pos.line X.env = pure false := by rfl) (hf : X.fn x = true ∨ X.env.scope.names.lookup x = some .local := by first | exact .inl rfl | exact .inr rfl | assumption) :
    SB T (.Assign [.Name x pos'] e pos :: rest) ρ (mSet A kk) N :=
  fun C q => wss_cons (ws_set j hN hi hx ((h C _ q).mono fun d C1 h1 => by show WSs T rest (ρ.set j (some d)) C1 N; rw [hr]; exact hk d C1 h1) hs hf)
theorem sb_setLc {iter : Expr} {I : MI} {f : D → ME} {kk : D → MB} {r : D → Rho} {py : Pos} (own : List (Str × Nat)) (bd : Bind) (j : Nat) (hc : X.calm = true) (hN : X.N.Nodup) (hy : X.N[j]? = some x) (hyl : X.env.scope.names.lookup x = some .local)
    (hsw : swapsWith (.ListComp elt [⟨tg, iter, [], 0⟩] scope pos) (some (.Name x py)) spos.line X.env = pure true) (ok : BlkOk X.N X.env.scope scope own)
    (hg : ∀ (s : Shared) (H : Hp) (Ca : Addr) (cl : List (Str × Addr)) (fp : List Addr), PG (X.blk s H scope (compEnvC scope cl Ca X.env) fp) tg (bd.g X.K)) (hv : ∀ i ∈ bd.slots, i ∈ own.map (·.2))
    (hI : SI T tg iter ρ I) (hb : BdOk bd (wipeR ρ (own.map (·.2))) T scope elt f) (hr : ∀ d, ρ.set j (some d) = r d) (hk : ∀ d, SB T rest (r d) (kk d) N) (hs : ∀ x, foldedSetIterable iter X.env x = pure x := by intro _; rfl) :
    SB T (.Assign [.Name x py] (.ListComp elt [⟨tg, iter, [], 0⟩] scope pos) spos :: rest) ρ (mSet (eLc I f) kk) N :=
  fun C q => wss_cons (ws_setLc own bd j hc hN hy hyl hsw ok hg hv ((hI C _ q).mono fun ds P C1 h => lc_mirror hb (fun d C2 h => by show WSs T rest (ρ.set j (some d)) C2 N; rw [hr]; exact hk d C2 h) h) hs)
theorem sb_setLc1 {iter : Expr} {I : MI} {t : D → MT} {f : D → ME} {kk : D → MB} {r : D → Rho} {py : Pos} (own : List (Str × Nat)) (bd : Bind) (j : Nat) (hc : X.calm = true) (hN : X.N.Nodup) (hy : X.N[j]? = some x) (hyl : X.env.scope.names.lookup x = some .local)
    (hsw : swapsWith (.ListComp elt [⟨tg, iter, [i], 0⟩] scope pos) (some (.Name x py)) spos.line X.env = pure true) (ok : BlkOk X.N X.env.scope scope own)
    (hg : ∀ (s : Shared) (H : Hp) (Ca : Addr) (cl : List (Str × Addr)) (fp : List Addr), PG (X.blk s H scope (compEnvC scope cl Ca X.env) fp) tg (bd.g X.K)) (hv : ∀ i ∈ bd.slots, i ∈ own.map (·.2))
    (hI : SI T tg iter ρ I) (ht : BdOkT bd (wipeR ρ (own.map (·.2))) T scope i t) (hb : BdOk bd (wipeR ρ (own.map (·.2))) T scope elt f) (hr : ∀ d, ρ.set j (some d) = r d) (hk : ∀ d, SB T rest (r d) (kk d) N) (hs : ∀ x, foldedSetIterable iter X.env x = pure x := by intro _; rfl) :
    SB T (.Assign [.Name x py] (.ListComp elt [⟨tg, iter, [i], 0⟩] scope pos) spos :: rest) ρ (mSet (eLc1 I t f) kk) N :=
  fun C q => wss_cons (ws_setLc1 own bd j hc hN hy hyl hsw ok hg hv ((hI C _ q).mono fun ds P C1 h => lc1_mirror ht hb (fun d C2 h => by show WSs T rest (ρ.set j (some d)) C2 N; rw [hr]; exact hk d C2 h) h) hs)
theorem sb_ret {Q : QE} (h : SE T e ρ A) (hQ : ∀ d C, Q d C → N.rt d C) : SB T (.Return (some e) pos :: rest) ρ (mRet A Q) N := fun C q => wss_cons (ws_ret ((h C _ q).mono hQ))
theorem sb_exp {m1 : MB} (h : SE T e ρ A) (hk : SB T rest ρ m1 N) (hs : swapsWith e none pos.line X.env = pure false := by rfl) : SB T (.Expr e pos :: rest) ρ (mExp A m1) N :=
  fun C q => wss_cons (ws_expr ((h C _ q).mono fun d C1 h1 => hk C1 h1) hs)
theorem sb_if {t : MT} (h : ST T c ρ t) (ht : SB T tb ρ mt { N with nx := fun ρ1 C1 => WSs T rest ρ1 C1 N }) (hf : SB T fb ρ mf { N with nx := fun ρ1 C1 => WSs T rest ρ1 C1 N }) : SB T (.If c tb fb pos :: rest) ρ (mIf t mt mf) N :=
  fun C q => wss_cons (ws_if ((h C _ q).mono fun k C1 h1 => by
    cases k with
    | true => exact ht C1 h1
    | false => exact hf C1 h1))
theorem sb_ifJ {α : Type} {t : MT} (enc : α → Rho) (J : α → MB) (h : ST T c ρ t) (hJ : ∀ a, SB T rest (enc a) (J a) N)
    (ht : ∀ W : QS, (∀ a ρ' C, LeR (enc a) ρ' → J a C → W ρ' C) → SB T tb ρ mt { N with nx := W }) (hf : ∀ W : QS, (∀ a ρ' C, LeR (enc a) ρ' → J a C → W ρ' C) → SB T fb ρ mf { N with nx := W }) : SB T (.If c tb fb pos :: rest) ρ (mIf t mt mf) N :=
  have hw : ∀ a ρ' C, LeR (enc a) ρ' → J a C → WSs T rest ρ' C N := fun a ρ' C l q => wss_forget l (hJ a C q)
  fun C q => wss_cons (ws_if ((h C _ q).mono fun k C1 h1 => by
    cases k with
    | true => exact ht _ hw C1 h1
    | false => exact hf _ hw C1 h1))
def mLoop {α : Type} (f : D → α → (α → MB) → (α → MB) → MB) (after : α → MB) (P : Cells → Prop) : List D → α → MB
  | [], s => fun C => P C ∧ after s C
  | d :: r, s => fun C => P C ∧ f d s (fun s' => mLoop f after P r s') after C
abbrev mFor {α : Type} (I : MI) (f : D → α → (α → MB) → (α → MB) → MB) (s0 : α) (after : α → MB) : MB := fun C => I C fun ds P C1 => mLoop f after P ds s0 C1
theorem loop_mirror {α : Type} {f : D → α → (α → MB) → (α → MB) → MB} {after : α → MB} {P : Cells → Prop} {enc : α → Rho}
    (hb : ∀ d s (nx bk : α → MB) (W V : QS), (∀ a ρ' C, LeR (enc a) ρ' → nx a C → W ρ' C) → (∀ a ρ' C, LeR (enc a) ρ' → bk a C → V ρ' C) → SG T tg d (enc s) body (f d s nx bk) { nx := W, rt := N.rt, bk := V, ct := W })
    (ha : ∀ a ρ' C, LeR (enc a) ρ' → after a C → N.nx ρ' C) : ∀ {ds : List D} {s : α} {ρ : Rho} {C : Cells}, LeR (enc s) ρ → mLoop f after P ds s C → ForW T tg body P N ds ρ C
  | [], s, ρ, C, l, ⟨hp, h⟩ => ⟨hp, ha s ρ C l h⟩
  | d :: r, s, ρ, C, l, ⟨hp, h⟩ => ⟨hp, wg_forget l (hb d s (fun s' => mLoop f after P r s') after (ForW T tg body P N r) N.nx (fun a ρ' C l h => loop_mirror hb ha l h) ha C h)⟩
theorem sb_for {α : Type} {f : D → α → (α → MB) → (α → MB) → MB} {iter : Expr} {I : MI} {s0 : α} {after : α → MB} (enc : α → Rho) (hc : X.calm = true) (hI : SI T tg iter ρ I) (h0 : LeR (enc s0) ρ)
    (hb : ∀ d s (nx bk : α → MB) (W V : QS), (∀ a ρ' C, LeR (enc a) ρ' → nx a C → W ρ' C) → (∀ a ρ' C, LeR (enc a) ρ' → bk a C → V ρ' C) → SG T tg d (enc s) body (f d s nx bk) { nx := W, rt := N.rt, bk := V, ct := W })
    (ha : ∀ s, SB T rest (enc s) (after s) N) (hs : ∀ x, foldedSetIterable iter X.env x = pure x := by intro _; rfl) : SB T (.For tg iter body [] pos :: rest) ρ (mFor I f s0 after) N :=
  fun C q => wss_cons (ws_for hc ((hI C _ q).mono fun ds P C1 h => loop_mirror (N := { N with nx := fun ρ1 C1 => WSs T rest ρ1 C1 N }) hb (fun a ρ' C l h => wss_forget l (ha a C h)) h0 h) hs)
theorem sg_name {d : D} {r : Rho} (j : Nat) (hr : ρ.set j (some d) = r) (h : SB T body r mm N) (hg : PG X (.Name x pos) (gName j)) : SG T (.Name x pos) d ρ body mm N :=
  fun C q => wg_name j (by rw [hr]; exact h C q) hg
def mUn2 (d : D) (f : D → D → MB) : MB := match d with
  | .tup [x, y] => f x y
  | _ => fun _ => False
def mUn3 (d : D) (f : D → D → D → MB) : MB := match d with
  | .tup [x, y, z] => f x y z
  | _ => fun _ => False
def mUn4 (d : D) (f : D → D → D → D → MB) : MB := match d with
  | .tup [x, y, z, u] => f x y z u
  | _ => fun _ => False
def mUn5 (d : D) (f : D → D → D → D → D → MB) : MB := match d with
  | .tup [x, y, z, u, v] => f x y z u v
  | _ => fun _ => False
theorem mUn2_ex {d : D} {f : D → D → MB} (h : mUn2 d f C) : ∃ x y, d = .tup [x, y] ∧ f x y C := by
  unfold mUn2 at h
  split at h
  · exact ⟨_, _, rfl, h⟩
  · exact False.elim h
theorem mUn4_ex {d : D} {f : D → D → D → D → MB} (h : mUn4 d f C) : ∃ x y z u, d = .tup [x, y, z, u] ∧ f x y z u C := by
  unfold mUn4 at h
  split at h
  · exact ⟨_, _, _, _, rfl, h⟩
  · exact False.elim h
def GsOk (T : TX X) (tgs : List Expr) (ds : List D) (ρ r : Rho) : Prop := ∀ (C : Cells) (Q : QS), Q r C → WGs T tgs ds ρ C Q
theorem gs_nil : GsOk T [] [] ρ ρ := fun C Q q => wgs_nil q
theorem gs_cons {d : D} {ds : List D} {r : Rho} (j : Nat) (hg : PG X (.Name x pos) (gName j)) (h : GsOk T tgs ds (ρ.set j (some d)) r)
    (hs : (assignEach (.Name x pos :: tgs) X.env).map (·.2) = assign (.Name x pos) X.env :: (assignEach tgs X.env).map (·.2) := by rfl) : GsOk T (.Name x pos :: tgs) (d :: ds) ρ r :=
  fun C Q q => wgs_cons (wg_name j (h C Q q) hg) hs
theorem wg_tupG {tgs : List Expr} {kk : Nat} {ds : List D} {Q : QS} {r : Rho} (hc : X.calm = true) (h : GsOk T tgs ds ρ r) (q : Q r C) (hn : (assignEach tgs X.env).length = ds.length) (hst : (assignEach tgs X.env).findIdx? (·.1) = none := by rfl) : WG T (.Tuple tgs kk pos) (.tup ds) ρ C Q :=
  wg_tup hc (h C Q q) rfl hn hst
theorem sg_two {d : D} {kk : Nat} {f : D → D → MB} {r : D → D → Rho} (hc : X.calm = true) (h : ∀ x y, GsOk T tgs [x, y] ρ (r x y)) (hb : ∀ x y, SB T body (r x y) (f x y) N) (hn : (assignEach tgs X.env).length = 2 := by rfl) (hst : (assignEach tgs X.env).findIdx? (·.1) = none := by rfl) : SG T (.Tuple tgs kk pos) d ρ body (mUn2 d f) N :=
  fun C q => by
    obtain ⟨x, y, e, q⟩ := mUn2_ex q
    subst e
    exact wg_tupG hc (h x y) (hb x y C q) hn hst
theorem sg_four {d : D} {kk : Nat} {f : D → D → D → D → MB} {r : D → D → D → D → Rho} (hc : X.calm = true) (h : ∀ x y z u, GsOk T tgs [x, y, z, u] ρ (r x y z u)) (hb : ∀ x y z u, SB T body (r x y z u) (f x y z u) N) (hn : (assignEach tgs X.env).length = 4 := by rfl) (hst : (assignEach tgs X.env).findIdx? (·.1) = none := by rfl) : SG T (.Tuple tgs kk pos) d ρ body (mUn4 d f) N :=
  fun C q => by
    obtain ⟨x, y, z, u, e, q⟩ := mUn4_ex q
    subst e
    exact wg_tupG hc (h x y z u) (hb x y z u C q) hn hst
theorem sb_asg {kk : D → MB} (h : SE T e ρ A) (hk : ∀ d, SG T tg d ρ rest (kk d) N) (hs : swapsWithSole [tg] e pos.line X.env = pure false := by rfl) (hw : swappedStores [tg] e X.env = pure none := by rfl)
    (h1 : (assignEach [tg] X.env).map (·.2) = [assign tg X.env] := by rfl) : SB T (.Assign [tg] e pos :: rest) ρ (mSet A kk) N :=
  fun C q => wss_cons (ws_asg ((h C _ q).mono fun d C1 h1 => hk d C1 h1) hs hw h1)
theorem sb_par {kk : D → D → MB} {r : D → D → Rho} {px py pt pt2 : Pos} {y : Str} {kt k2 : Nat} (i j : Nat) (hN : X.N.Nodup) (hi : X.N[i]? = some x) (hj : X.N[j]? = some y) (hij : i ≠ j) (hx : X.env.scope.names.lookup x = some .local) (hy : X.env.scope.names.lookup y = some .local)
    (hw : swappedStores [.Tuple [.Name x px, .Name y py] kt pt] (.Tuple [a, b] k2 pt2) X.env = pure (some [x, y])) (ha : SE T a ρ A) (hb : SE T b ρ B) (hr : ∀ d d2, (ρ.set i (some d)).set j (some d2) = r d d2) (hk : ∀ d d2, SB T rest (r d d2) (kk d d2) N)
    (hs : swapsWithSole [.Tuple [.Name x px, .Name y py] kt pt] (.Tuple [a, b] k2 pt2) pos.line X.env = pure false := by rfl) (hc : X.calm = true := by rfl)
    (hst : starEach [a, b] X.env = (false, eval a X.env) :: starEach [b] X.env := by rfl) (hst2 : starEach [b] X.env = (false, eval b X.env) :: starEach [] X.env := by rfl) :
    SB T (.Assign [.Tuple [.Name x px, .Name y py] kt pt] (.Tuple [a, b] k2 pt2) pos :: rest) ρ (mSet A fun d => mSet B fun d2 => kk d d2) N :=
  fun C q => wss_cons (ws_par i j hN hi hj hij hx hy hw (wa_cons ((ha C _ q).mono fun d C1 h1 => wa_cons ((hb C1 _ h1).mono fun d2 C2 h2 => wa_nil ⟨d, d2, rfl, by show WSs T rest _ C2 N; rw [hr]; exact hk d d2 C2 h2⟩) hst2) hst) hs hc)
end
end Tr

set_option maxHeartbeats 4000000
namespace Tr
open PySem L2 PySem.Spec PyProof.Rows
section
variable {X : Cx} {T : TX X} {ρ ρ' : Rho} {C : Cells} {N : TEnds} {e a b c o i elt : Expr} {pos pos' p p2 apos cpos : Pos} {es tgs : List Expr} {st : Stmt} {rest body tb fb : List Stmt} {x m : Str} {A B A' : ME} {AS : MA} {mt mf mm : MB} {Q : QE}

def oAdd : D → D → ME
  | .int i, .int j => fun C Q => Q (.int (i + j)) C
  | .str x, .str y => fun C Q => x.length + y.length ≤ 100000 ∧ Q (.str (x ++ y)) C
  | .tup xs, .tup ys => fun C Q => xs.length + ys.length ≤ 100000 ∧ Q (.tup (xs ++ ys)) C
  | .lst xs, .lst ys => fun C Q => xs.length + ys.length ≤ 100000 ∧ Q (.lst (xs ++ ys)) C
  | x, y => fun C Q => ∃ xs ys, LstD C x xs ∧ LstD C y ys ∧ xs.length + ys.length ≤ 100000 ∧ Q (.lst (xs ++ ys)) C
theorem oAdd_ok (x y : D) (C : Cells) (Q : QE) (h : oAdd x y C Q) : OW T (binaryOp .Add) x y C Q := by
  unfold oAdd at h
  split at h
  · exact ow_add h
  · exact ow_add_str h.1 h.2
  · exact ow_catT h.1 h.2
  · exact ow_cat .l .l h.1 h.2
  · obtain ⟨xs, ys, h1, h2, h3, h4⟩ := h; exact ow_cat h1 h2 h3 h4
def oSub : D → D → ME
  | .int i, .int j => fun C Q => Q (.int (i - j)) C
  | _, _ => fun _ _ => False
def oMul : D → D → ME
  | .int i, .int j => fun C Q => CMul i j ∧ Q (.int (i * j)) C
  | _, _ => fun _ _ => False
theorem oMul_ok (x y : D) (C : Cells) (Q : QE) (h : oMul x y C Q) : OW T (binaryOp .Mult) x y C Q := by
  unfold oMul at h; split at h
  · exact ow_mul h.1 h.2
  · exact h.elim
def oFdiv : D → D → ME
  | .int i, .int j => fun C Q => (0 < j ∧ j < 1073741824) ∧ Q (.int (i / j)) C
  | _, _ => fun _ _ => False
theorem oFdiv_ok (x y : D) (C : Cells) (Q : QE) (h : oFdiv x y C Q) : OW T (binaryOp .FloorDiv) x y C Q := by
  unfold oFdiv at h; split at h
  · exact ow_fdiv h.1 h.2
  · exact h.elim
def oMod : D → D → ME
  | .int i, .int j => fun C Q => 0 < j ∧ Q (.int (i % j)) C
  | _, _ => fun _ _ => False
theorem oMod_ok (x y : D) (C : Cells) (Q : QE) (h : oMod x y C Q) : OW T (binaryOp .Mod) x y C Q := by
  unfold oMod at h; split at h
  · exact ow_mod h.1 h.2
  · exact h.elim
def oPow : D → D → ME
  | .int i, .int j => fun C Q => CPow i j ∧ Q (.int (i ^ j.toNat)) C
  | _, _ => fun _ _ => False
theorem oPow_ok (x y : D) (C : Cells) (Q : QE) (h : oPow x y C Q) : OW T (binaryOp .Pow) x y C Q := by
  unfold oPow at h; split at h
  · exact ow_pow h.1 h.2
  · exact h.elim
theorem ow_lt_str {x y : Str} (q : Q (.bl (decide (x.cps.toList < y.cps.toList))) C) : OW T (compareOp .Lt) (.str x) (.str y) C Q :=
  ow_look (d := .bl (decide (x.cps.toList < y.cps.toList))) op_lt_str (fun u v H H0 c r1 r2 => by cases r1; cases r2; exact ⟨.bl (decide (x.cps.toList < y.cps.toList)), rfl, fun R k => ⟨x, y, rfl, rfl, k⟩⟩) q
theorem ow_le_str {x y : Str} (q : Q (.bl (!decide (y.cps.toList < x.cps.toList))) C) : OW T (compareOp .LtE) (.str x) (.str y) C Q :=
  ow_look (d := .bl (!decide (y.cps.toList < x.cps.toList))) op_le_str (fun u v H H0 c r1 r2 => by cases r1; cases r2; exact ⟨.bl (!decide (y.cps.toList < x.cps.toList)), rfl, fun R k => ⟨x, y, rfl, rfl, k⟩⟩) q
def oLt : D → D → ME
  | .int i, .int j => fun C Q => Q (.bl (decide (i < j))) C
  | .str x, .str y => fun C Q => Q (.bl (decide (x.cps.toList < y.cps.toList))) C
  | _, _ => fun _ _ => False
theorem oLt_ok (x y : D) (C : Cells) (Q : QE) (h : oLt x y C Q) : OW T (compareOp .Lt) x y C Q := by
  unfold oLt at h; split at h
  · exact ow_lt h
  · exact ow_lt_str h
  · exact h.elim
def oLe : D → D → ME
  | .int i, .int j => fun C Q => Q (.bl (decide (i ≤ j))) C
  | .str x, .str y => fun C Q => Q (.bl (!decide (y.cps.toList < x.cps.toList))) C
  | _, _ => fun _ _ => False
theorem oLe_ok (x y : D) (C : Cells) (Q : QE) (h : oLe x y C Q) : OW T (compareOp .LtE) x y C Q := by
  unfold oLe at h; split at h
  · exact ow_le h
  · exact ow_le_str h
  · exact h.elim
def oGt : D → D → ME
  | .int i, .int j => fun C Q => Q (.bl (decide (j < i))) C
  | _, _ => fun _ _ => False
theorem oGt_ok (x y : D) (C : Cells) (Q : QE) (h : oGt x y C Q) : OW T (compareOp .Gt) x y C Q := by
  unfold oGt at h; split at h
  · exact ow_gt h
  · exact h.elim
def oGe : D → D → ME
  | .int i, .int j => fun C Q => Q (.bl (decide (j ≤ i))) C
  | _, _ => fun _ _ => False
theorem oGe_ok (x y : D) (C : Cells) (Q : QE) (h : oGe x y C Q) : OW T (compareOp .GtE) x y C Q := by
  unfold oGe at h; split at h
  · exact ow_ge h
  · exact h.elim
def oEq (own : D → D → ME) : D → D → ME
  | .int i, .int j => fun C Q => Q (.bl (decide (i = j))) C
  | .str x, .str y => fun C Q => Q (.bl (decide (x = y))) C
  | .bl x, .bl y => fun C Q => Q (.bl (x == y)) C
  | x, y => fun C Q => (∃ p1 p2, PyR C x p1 ∧ PyR C y p2 ∧ SeqAt.shaped p1 = true ∧ SeqAt.shaped p2 = true ∧ Q (.bl (PyData.eqv p1 p2)) C) ∨ own x y C Q
theorem oEq_ok {own : D → D → ME} (hu : X.A.units + 64 < cLine) (ho : ∀ x y C Q, own x y C Q → OW T (compareOp .Eq) x y C Q) (x y : D) (C : Cells) (Q : QE) (h : oEq own x y C Q) : OW T (compareOp .Eq) x y C Q := by
  unfold oEq at h; split at h
  · exact ow_eq_int h
  · exact ow_eq_str h
  · exact ow_eq_bl h
  · rcases h with ⟨p1, p2, h1, h2, h3, h4, h5⟩ | h
    · exact ow_eq hu h1 h2 h3 h4 h5
    · exact ho _ _ _ _ h
def oNe (own : D → D → ME) : D → D → ME
  | .int i, .int j => fun C Q => Q (.bl (!decide (i = j))) C
  | .str x, .str y => fun C Q => Q (.bl (!decide (x = y))) C
  | .bl x, .bl y => fun C Q => Q (.bl (x != y)) C
  | x, y => fun C Q => (∃ p1 p2, PyR C x p1 ∧ PyR C y p2 ∧ SeqAt.shaped p1 = true ∧ SeqAt.shaped p2 = true ∧ Q (.bl (!PyData.eqv p1 p2)) C) ∨ own x y C Q
theorem oNe_ok {own : D → D → ME} (hu : X.A.units + 64 < cLine) (ho : ∀ x y C Q, own x y C Q → OW T (compareOp .NotEq) x y C Q) (x y : D) (C : Cells) (Q : QE) (h : oNe own x y C Q) : OW T (compareOp .NotEq) x y C Q := by
  unfold oNe at h; split at h
  · exact ow_ne_int h
  · exact ow_ne_str h
  · exact ow_ne_bl h
  · rcases h with ⟨p1, p2, h1, h2, h3, h4, h5⟩ | h
    · exact ow_ne hu h1 h2 h3 h4 h5
    · exact ho _ _ _ _ h
abbrev noOwn : D → D → ME := fun _ _ _ _ => False
theorem noOwn_ok {f : Value → Value → Sem Value} (x y : D) (C : Cells) (Q : QE) (h : noOwn x y C Q) : OW T f x y C Q := h.elim
theorem ow_is_bl {x y : Bool} (q : Q (.bl (decide (x = y))) C) : OW T (compareOp .Is) (.bl x) (.bl y) C Q :=
  ow_look (d := .bl (decide (x = y))) op_isBl (fun u v H H0 c r1 r2 => by cases r1; cases r2; exact ⟨.bl (decide (x = y)), rfl, fun R k => ⟨x, y, rfl, rfl, k⟩⟩) q
theorem ow_isN_ref {a : Addr} (q : Q (.bl false) C) : OW T (compareOp .Is) (.raw (.ref a)) .non C Q :=
  ow_look (d := .bl false) op_isN (fun x y H H0 c r1 r2 => by cases r1; cases r2; exact ⟨.bl false, rfl, fun R k => ⟨rfl, by rw [show decide (V.ref a = .non) = false from rfl]; exact k⟩⟩) q
def oIs : D → D → ME
  | .bl x, .bl y => fun C Q => Q (.bl (decide (x = y))) C
  | .raw (.ref _), .non => fun C Q => Q (.bl false) C
  | d, .non => fun C Q => (∀ w, d ≠ .raw w) ∧ Q (.bl (isNon d)) C
  | _, _ => fun _ _ => False
theorem oIs_ok (x y : D) (C : Cells) (Q : QE) (h : oIs x y C Q) : OW T (compareOp .Is) x y C Q := by
  unfold oIs at h; split at h
  · exact ow_is_bl h
  · exact ow_isN_ref h
  · exact ow_isN h.1 h.2
  · exact h.elim
def oIsNot : D → D → ME
  | .bl x, .bl y => fun C Q => Q (.bl (!decide (x = y))) C
  | .raw (.ref _), .non => fun C Q => Q (.bl true) C
  | d, .non => fun C Q => (∀ w, d ≠ .raw w) ∧ Q (.bl (!isNon d)) C
  | _, _ => fun _ _ => False
def oIn (x y : D) : ME := fun C Q => (∃ ds, SeqD C y ds ∧ flatD x = true ∧ ds.all flatD = true ∧ Q (.bl (inD x ds)) C) ∨ (∃ n z, x = .str ⟨#[n]⟩ ∧ y = .str z ∧ Q (.bl (decide (n ∈ z.cps.toList))) C)
theorem oIn_ok (x y : D) (C : Cells) (Q : QE) (h : oIn x y C Q) : OW T (compareOp .In) x y C Q := by
  rcases h with ⟨ds, h1, h2, h3, h4⟩ | ⟨n, z, rfl, rfl, h⟩
  · exact ow_in h1 h2 h3 h4
  · exact ow_inSign h
def oNotIn (x y : D) : ME := fun C Q => ∃ ds, SeqD C y ds ∧ flatD x = true ∧ ds.all flatD = true ∧ Q (.bl (!inD x ds)) C
theorem oNotIn_ok (x y : D) (C : Cells) (Q : QE) (h : oNotIn x y C Q) : OW T (compareOp .NotIn) x y C Q := by
  obtain ⟨ds, h1, h2, h3, h4⟩ := h
  exact ow_notIn h1 h2 h3 h4

abbrev no1 : D → ME := fun _ _ _ => False
def pLen1 (own : D → ME) : D → ME
  | .lst ds => fun C Q => Q (.int ds.length) C
  | .tup ds => fun C Q => Q (.int ds.length) C
  | .str s => fun C Q => s.length ≤ 100000 ∧ Q (.int s.length) C
  | d => fun C Q => (∃ ds, LstD C d ds ∧ Q (.int ds.length) C) ∨ own d C Q
def on1 (P : D → ME) : List D → ME
  | [d] => P d
  | _ => fun _ _ => False
def on2 (P : D → D → ME) : List D → ME
  | [d, d2] => P d d2
  | _ => fun _ _ => False
theorem on1_ok {P : D → ME} {f : Value} (h : ∀ d C Q, P d C Q → CW T f [d] C Q) (ds : List D) (C : Cells) (Q : QE) (q : on1 P ds C Q) : CW T f ds C Q := by
  unfold on1 at q; split at q
  · exact h _ _ _ q
  · exact q.elim
theorem on2_ok {P : D → D → ME} {f : Value} (h : ∀ d d2 C Q, P d d2 C Q → CW T f [d, d2] C Q) (ds : List D) (C : Cells) (Q : QE) (q : on2 P ds C Q) : CW T f ds C Q := by
  unfold on2 at q; split at q
  · exact h _ _ _ _ q
  · exact q.elim
theorem no1_ok {f : Value} (d : D) (C : Cells) (Q : QE) (q : no1 d C Q) : CW T f [d] C Q := q.elim
theorem pLen_ok {own : D → ME} (ho : ∀ d C Q, own d C Q → CW T (.builtin "len") [d] C Q) (ds : List D) (C : Cells) (Q : QE) (h : on1 (pLen1 own) ds C Q) : CW T (.builtin "len") ds C Q :=
  on1_ok (fun d C Q h => by
    unfold pLen1 at h; split at h
    · exact cw_len .l h
    · exact cw_len .t h
    · exact cw_len_str h.1 h.2
    · rcases h with ⟨ds, h1, h2⟩ | h
      · exact cw_len (.inl h1) h2
      · exact ho _ _ _ h) ds C Q h
def pStr1 (own : D → ME) : D → ME
  | .str s => fun C Q => Q (.str s) C
  | .int i => fun C Q => i.natAbs.log2 < 1920 ∧ Q (.str (toString i)) C
  | d => own d
theorem pStr_ok {own : D → ME} (ho : ∀ d C Q, own d C Q → CW T (.type "str") [d] C Q) (ds : List D) (C : Cells) (Q : QE) (h : on1 (pStr1 own) ds C Q) : CW T (.type "str") ds C Q :=
  on1_ok (fun d C Q h => by
    unfold pStr1 at h; split at h
    · exact cw_str_str h
    · exact cw_str_int h.1 h.2
    · exact ho _ _ _ h) ds C Q h
def pInt1 : D → ME
  | .int i => fun C Q => Q (.int i) C
  | .bl k => fun C Q => Q (.int (if k then 1 else 0)) C
  | .str s => fun C Q => s.length ≤ 640 ∧ ∃ n, intText? s = some n ∧ Q (.int n) C
  | _ => fun _ _ => False
theorem pInt_ok (ds : List D) (C : Cells) (Q : QE) (h : on1 pInt1 ds C Q) : CW T (.type "int") ds C Q :=
  on1_ok (fun d C Q h => by
    unfold pInt1 at h; split at h
    · exact cw_int h
    · exact cw_int_bl h
    · obtain ⟨h1, n, h2, h3⟩ := h; exact cw_int_str h2 h1 h3
    · exact h.elim) ds C Q h
def pList1 : D → ME
  | .lst ds => fun C Q => Q (.lst ds) C
  | .tup ds => fun C Q => Q (.lst ds) C
  | d => fun C Q => ∃ ds, SeqD C d ds ∧ Q (.lst ds) C
theorem pList_ok (ds : List D) (C : Cells) (Q : QE) (h : on1 pList1 ds C Q) : CW T (.type "list") ds C Q :=
  on1_ok (fun d C Q h => by
    unfold pList1 at h; split at h
    · exact cw_list .l h
    · exact cw_list .t h
    · obtain ⟨ds, h1, h2⟩ := h; exact cw_list h1 h2) ds C Q h
def pListC1 : D → ME
  | .lst ds => fun C Q => ∀ p, Q (.raw (.ref p)) ((p, .lst ds) :: C)
  | .tup ds => fun C Q => ∀ p, Q (.raw (.ref p)) ((p, .lst ds) :: C)
  | d => fun C Q => ∃ ds, SeqD C d ds ∧ ∀ p, Q (.raw (.ref p)) ((p, .lst ds) :: C)
theorem pListC_ok (ds : List D) (C : Cells) (Q : QE) (h : on1 pListC1 ds C Q) : CW T (.type "list") ds C Q :=
  on1_ok (fun d C Q h => by
    unfold pListC1 at h; split at h
    · exact cw_listC .l h
    · exact cw_listC .t h
    · obtain ⟨ds, h1, h2⟩ := h; exact cw_listC h1 h2) ds C Q h
def pTuple1 : D → ME
  | .lst ds => fun C Q => Q (.tup ds) C
  | .tup ds => fun C Q => Q (.tup ds) C
  | d => fun C Q => ∃ ds, SeqD C d ds ∧ Q (.tup ds) C
theorem pTuple_ok (ds : List D) (C : Cells) (Q : QE) (h : on1 pTuple1 ds C Q) : CW T (.type "tuple") ds C Q :=
  on1_ok (fun d C Q h => by
    unfold pTuple1 at h; split at h
    · exact cw_tuple .l h
    · exact cw_tuple .t h
    · obtain ⟨ds, h1, h2⟩ := h; exact cw_tuple h1 h2) ds C Q h
def pAll1 (d : D) : ME := fun C Q => ∃ bs : List Bool, d = .lst (bs.map D.bl) ∧ Q (.bl (bs.all id)) C
def pAny1 (d : D) : ME := fun C Q => ∃ bs : List Bool, d = .lst (bs.map D.bl) ∧ Q (.bl (bs.any id)) C
theorem pAll_ok (hc : X.calm = true) (ds : List D) (C : Cells) (Q : QE) (h : on1 pAll1 ds C Q) : CW T (.builtin "all") ds C Q :=
  on1_ok (fun d C Q ⟨bs, h1, h2⟩ => by subst h1; exact cw_all hc h2) ds C Q h
def pAbs1 : D → ME
  | .int i => fun C Q => Q (.int (if i < 0 then -i else i)) C
  | _ => fun _ _ => False
theorem pAbs_ok (ds : List D) (C : Cells) (Q : QE) (h : on1 pAbs1 ds C Q) : CW T (.builtin "abs") ds C Q :=
  on1_ok (fun d C Q h => by
    unfold pAbs1 at h; split at h
    · exact cw_abs h
    · exact h.elim) ds C Q h
def pMax2 : D → D → ME
  | .int i, .int j => fun C Q => Q (.int (if j > i then j else i)) C
  | _, _ => fun _ _ => False
def pIsI (K : W.Frag) (x y : D) : ME := fun C Q => (∃ t u b, ClsD y u ∧ TyD K C x t ∧ W.kitOne K t u = some b ∧ Q (.bl b) C) ∨ (∃ ds t us b, y = .tup ds ∧ Paired ClsD ds us ∧ TyD K C x t ∧ W.kitAny K t us = some b ∧ Q (.bl b) C)
theorem pIsI_ok {K : W.Frag} (hK : X.K = K := by rfl) (ds : List D) (C : Cells) (Q : QE) (h : on2 (pIsI K) ds C Q) : CW T (.builtin "isinstance") ds C Q := by
  subst hK
  exact on2_ok (fun d d2 C Q h => by
    rcases h with ⟨t, u, b, h1, h2, h3, h4⟩ | ⟨es, t, us, b, rfl, h1, h2, h3, h4⟩
    · exact cw_isi h1 h2 h3 h4
    · exact cw_isiT h1 h2 h3 h4) ds C Q h
structure ShowOk (p : PyData) : Prop where
  lay : p.canLay0 = true
  sh : p.showable = true
  nd : p.hasDict = false
  shi : p.intsShort 12 = true
structure ShowsOk (ps : List PyData) : Prop where
  lay : PyData.canLayAll0 ps = true
  sh : PyData.showableAll ps = true
  nd : PyData.hasDictAll ps = false
  shi : PyData.intsShortAll 12 ps = true
theorem ShowsOk.nil : ShowsOk [] := ⟨rfl, rfl, rfl, rfl⟩
theorem ShowsOk.cons {p : PyData} {ps : List PyData} (h : ShowOk p) (t : ShowsOk ps) : ShowsOk (p :: ps) :=
  ⟨by rw [PyData.canLayAll0, h.lay, t.lay]; rfl, by rw [PyData.showableAll, h.sh, t.sh]; rfl, by rw [PyData.hasDictAll, h.nd, t.nd]; rfl, by rw [PyData.intsShortAll, h.shi, t.shi]; rfl⟩
theorem ShowOk.tup {ps : List PyData} (t : ShowsOk ps) : ShowOk (.tuple ps) := ⟨by rw [PyData.canLay0]; exact t.lay, by rw [PyData.showable]; exact t.sh, by rw [PyData.hasDict]; exact t.nd, by rw [PyData.intsShort]; exact t.shi⟩
theorem ShowOk.lst {ps : List PyData} (t : ShowsOk ps) : ShowOk (.list ps) := ⟨by rw [PyData.canLay0]; exact t.lay, by rw [PyData.showable]; exact t.sh, by rw [PyData.hasDict]; exact t.nd, by rw [PyData.intsShort]; exact t.shi⟩
theorem shorts : ∀ xs : List Str, PyData.intsShortAll 12 (toPys (xs.map D.str)) = true
  | [] => rfl
  | x :: xs => by
    show PyData.intsShortAll 12 (toPy (.str x) :: toPys (xs.map D.str)) = true
    rw [PyData.intsShortAll, shorts xs]; rfl
theorem ShowsOk.strs {xs : List Str} (h : ∀ x ∈ xs, PyData.strOk x = true) : ShowsOk (toPys (xs.map D.str)) := ⟨(lay_strs h).1, (show_strs h).1, (show_strs h).2.1, shorts xs⟩
theorem ShowOk.str {x : Str} (h : PyData.strOk x = true) : ShowOk (.str x) := by
  have z := ShowsOk.strs (xs := [x]) (by simpa using h)
  obtain ⟨a, b, c, d⟩ := z
  simp only [List.map, toPys, toPy, PyData.canLayAll0, PyData.showableAll, PyData.hasDictAll, PyData.intsShortAll, Bool.and_true, Bool.or_false] at a b c d
  exact ⟨a, b, c, d⟩

variable {k : Nat} {f Cl : Addr} {fd : FuncData} {ps : List Str} {F : FS} {Xq : QX}
def callN (F : FS) (ds : List D) : ME := fun C Q => ∃ μ r, C.Perm (μ ++ r) ∧ F ds μ (fun d μ' => Q d (μ' ++ r)) fun _ _ _ => False
theorem callN.asks {ds : List D} (h : callN F ds C Q) : AsksN (up F) ds C Q := let ⟨μ, r, pm, z⟩ := h; ⟨μ, r, pm, _, _, z, fun _ _ q => q, fun _ _ _ q => q⟩
theorem AsksN.mono {ds : List D} {Q' : QE} (h : AsksN (up F) ds C Q) (i : ∀ d C, Q d C → Q' d C) : AsksN (up F) ds C Q' :=
  let ⟨μ, r, pm, Q1, Qx1, z, i1, i2⟩ := h; ⟨μ, r, pm, Q1, Qx1, z, fun d C' q => i _ _ (i1 d C' q), i2⟩
def ownB (K : W.Frag) (Cl : Addr) (F : FS) (neg : Bool) (x y : D) : ME := fun C Q => ∃ ns ds t, InsD C x Cl ns ds ∧ TyD K C y t ∧ W.notFirst K Cl t = true ∧ callN F [x, y] C fun d C' => pTru d C' fun j C'' => Q (.bl (if neg then !j else j)) C''
theorem ownEq_ok {K : W.Frag} (hs : W.findIn K (.ref Cl) "__eq__" = some (some (.ref f))) (hf : W.isFn K (.ref f) = true) (Fk : FnG X.prog X.w K X.mg X.base k f fd ps F) (hr : RoomG k X.A) (hb : Binds K fd ps []) (hK : X.K = K := by rfl)
    (x y : D) (C : Cells) (Q : QE) (h : ownB K Cl F false x y C Q) : OW T (compareOp .Eq) x y C Q := by
  subst hK
  obtain ⟨ns, ds, t, h1, h2, h3, h4⟩ := h
  exact ow_own (fun _ _ => rfl) hs hf h3 Fk.up hr hb h1 h2 (AsksN.mono h4.asks fun d C q => pTru_ex q)
theorem ownNe_ok {K : W.Frag} (hne : W.findIn K (.ref Cl) "__ne__" = some (some (.builtin "object.__ne__"))) (ho : W.mroIn K Cl (.type "object") = some true) (hs : W.findIn K (.ref Cl) "__eq__" = some (some (.ref f))) (hf : W.isFn K (.ref f) = true) (Fk : FnG X.prog X.w K X.mg X.base k f fd ps F) (hr : RoomG (k + 1) X.A) (hb : Binds K fd ps []) (hK : X.K = K := by rfl)
    (x y : D) (C : Cells) (Q : QE) (h : ownB K Cl F true x y C Q) : OW T (compareOp .NotEq) x y C Q := by
  subst hK
  obtain ⟨ns, ds, t, h1, h2, h3, h4⟩ := h
  exact ow_neOwn hne hs hf h3 ho Fk.up hr hb h1 h2 (AsksN.mono h4.asks fun d C q => pTru_ex q)
def ownStr (Cl : Addr) (F : FS) (x : D) : ME := fun C Q => ∃ ns ds, InsD C x Cl ns ds ∧ callN F [x] C fun d C' => ∃ z : Str, d = .str z ∧ Q (.str z) C'
theorem ownStr_ok {K : W.Frag} (hs : W.findIn K (.ref Cl) "__str__" = some (some (.ref f))) (hf : W.isFn K (.ref f) = true) (Fk : FnG X.prog X.w K X.mg X.base k f fd ps F) (hr : RoomG (k + 2) X.A) (hb : Binds K fd ps []) (hK : X.K = K := by rfl)
    (x : D) (C : Cells) (Q : QE) (h : ownStr Cl F x C Q) : CW T (.type "str") [x] C Q := by
  subst hK
  obtain ⟨ns, ds, h1, h2⟩ := h
  exact cw_strOwn hs hf Fk.up hr hb h1 h2.asks
def onStr {β : Sort _} (d : D) (k : Str → Cells → β → Prop) : Cells → β → Prop := match d with
  | .str s => k s
  | _ => fun _ _ => False
theorem onStr_ex {β : Sort _} {d : D} {k : Str → Cells → β → Prop} {q : β} (h : onStr d k C q) : ∃ s, d = .str s ∧ k s C q := by
  cases d with
  | str s => exact ⟨s, rfl, h⟩
  | _ => exact h.elim
abbrev eStr1 (A B : ME) (O : Str → D → ME) : ME := fun C Q => A C fun d C1 => onStr d (fun s C1 Q => B C1 fun y C2 => O s y C2 Q) C1 Q
def pSplit (s : Str) (y : D) : ME := onStr y fun t C Q => (t.length == 0) = false ∧ s.length ≤ 100000 ∧ Q (.lst ((Txt.split s t).map D.str)) C
def pPart (s : Str) (y : D) : ME := onStr y fun t C Q => (t.length == 0) = false ∧ s.length ≤ 100000 ∧ Q (.tup [.str (Txt.partition s t).1, .str (Txt.partition s t).2.1, .str (Txt.partition s t).2.2]) C
def pStarts (s : Str) (y : D) : ME := onStr y fun t C Q => Q (.bl (Txt.startswith s t)) C
def pJoin (s : Str) (y : D) : ME := fun C Q => ∃ ys : List Str, SeqD C y (ys.map D.str) ∧ (ys.map (·.length)).sum + ys.length * s.length ≤ 100000 ∧ Q (.str (Txt.join s ys)) C
theorem se_split (ho : SE T o ρ A) (he : SE T e ρ B) (hs : starEach [e] X.env = [(false, eval e X.env)] := by rfl) (hbase : attributeBase o "split" X.env (eval o X.env) = eval o X.env := by rfl) (hline : (apos.endLine == pos.line) = true := by rfl) : SE T (.Call (.Attribute o "split" apos) [e] [] pos) ρ (eStr1 A B pSplit) :=
  fun C Q q => we_split ((ho C _ q).mono fun d C1 h1 => by
    obtain ⟨s, e1, h1⟩ := onStr_ex h1
    exact ⟨s, e1, (he C1 _ h1).mono fun y C2 h2 => by obtain ⟨t, e2, h2⟩ := onStr_ex h2; exact ⟨t, e2, h2⟩⟩) hs hbase hline
theorem se_join (ho : SE T o ρ A) (he : SE T e ρ B) (hs : starEach [e] X.env = [(false, eval e X.env)] := by rfl) (hbase : attributeBase o "join" X.env (eval o X.env) = eval o X.env := by rfl) (hline : (apos.endLine == pos.line) = true := by rfl) : SE T (.Call (.Attribute o "join" apos) [e] [] pos) ρ (eStr1 A B pJoin) :=
  fun C Q q => we_join ((ho C _ q).mono fun d C1 h1 => by
    obtain ⟨s, e1, h1⟩ := onStr_ex h1
    exact ⟨s, e1, (he C1 _ h1).mono fun y C2 ⟨ys, h3, h4, h5⟩ => ⟨ys, h3, h4, h5⟩⟩) hs hbase hline

def pFmt : D → ME
  | .str y => fun C Q => y.length ≤ 100000 ∧ Q (.str y) C
  | .int i => fun C Q => i.natAbs.log2 < 1920 ∧ Q (.str (toString i)) C
  | _ => fun _ _ => False
def isL (d : D) (C : Cells) : Prop := ∃ z ds, d = .raw (.ref z) ∧ (z, Cell.lst ds) ∈ C
def pApp (od d : D) : ME := fun C Q => ∃ (i : Nat) (z : Addr) (ds : List D), od = .raw (.ref z) ∧ C[i]? = some (z, .lst ds) ∧ ds.length < 100000 ∧ Q .non (C.set i (z, .lst (ds ++ [d])))
abbrev eL1 (A B : ME) (O : D → D → ME) : ME := fun C Q => A C fun od C1 => isL od C1 ∧ B C1 fun d C2 => O od d C2 Q
theorem se_append (ho : SE T o ρ A) (ha : SE T a ρ B)
    (hbase : attributeBase o "append" X.env (eval o X.env) = eval o X.env := by rfl) (hline : (apos.endLine == cpos.line) = true := by rfl) (hs : starEach [a] X.env = (false, eval a X.env) :: starEach [] X.env := by rfl)
    (hfew : ((backTo cpos (starEach [a] X.env)).all (fun x => !x.1) && (backToKw cpos (keywordEach [] X.env)).all (fun x => x.1.isSome)
      && decide (([a] : List Expr).length + ([] : List Keyword).length + (if ([] : List Keyword).isEmpty then 0 else 1) < 30)) = true := by rfl) (hplain : (backTo cpos (starEach [] X.env)).any (·.1) = false := by rfl) :
    SE T (.Call (.Attribute o "append" apos) [a] [] cpos) ρ (eL1 A B pApp) := fun C Q q => by
  have h : Tr.WE T o ρ C fun od C1 => isL od C1 ∧ Tr.WE T a ρ C1 fun d C2 => pApp od d C2 Q := (ho C _ q).mono fun od C1 ⟨h1, h2⟩ => ⟨h1, ha C1 _ h2⟩
  refine PE.imp (pe_bm F.plainAttrs_list F.slot_list_append F.type_list_append mt_append h (pa_cons (pe_some T ρ a) pa_nil hs) hbase hfew hline hs hplain) fun σ H R ⟨H0, at_, k⟩ => ⟨H0, at_, fun v od C1 H1 H01 p1 c1 r1 ⟨⟨z, ds, e1, hz⟩, hw⟩ => ?_⟩
  subst e1
  obtain rfl : v = .ref z := r1
  obtain ⟨vs, g1, g2⟩ := c1.ok z _ hz
  refine ⟨.inl ⟨rfl, vs, .inl (.inl g1)⟩, C1, _, hw, H01, at_.step p1 c1, fun v2 d C2 H2 H02 p2 c2 r2 ⟨i, z2, ds2, ez, hi2, hl, q⟩ => ?_⟩
  cases ez
  obtain ⟨vs2, f1, f2⟩ := c2.ok z _ (List.mem_iff_getElem?.mpr ⟨i, hi2⟩)
  refine ⟨z, vs2, v2, rfl, rfl, f1, ?_, ?_⟩
  · rw [← f2.length]; exact Nat.lt_trans hl (by decide)
  · obtain ⟨p3, c3⟩ := stp_write (o := .lst (vs2 ++ [v2])) c2 hi2 (c' := .lst (ds2 ++ [d])) ⟨_, upd_same, f2.append (Reps.cons r2 Reps.nil)⟩
    exact k _ .non _ _ _ ((p1.trans c1 p2).trans c2 p3) c3 rfl q
def pPop (od : D) : ME := fun C Q => ∃ (i : Nat) (z : Addr) (ds : List D) (d : D), od = .raw (.ref z) ∧ C[i]? = some (z, .lst (ds ++ [d])) ∧ Q d (C.set i (z, .lst ds))
theorem se_pop (ho : SE T o ρ A) (hbase : attributeBase o "pop" X.env (eval o X.env) = eval o X.env := by rfl) (hline : (apos.endLine == cpos.line) = true := by rfl) :
    SE T (.Call (.Attribute o "pop" apos) [] [] cpos) ρ (eApp A pPop) := fun C Q q => by
  refine PE.imp (pe_bm0 F.plainAttrs_list F.slot_list_pop F.type_list_pop mt_pop (ho C _ q) hbase hline) fun σ H R ⟨H0, at_, k⟩ => ⟨H0, at_, fun v od C1 H1 H01 p1 c1 r1 ⟨i, z, ds, d, e1, hi, q⟩ => ?_⟩
  subst e1
  obtain rfl : v = .ref z := r1
  obtain ⟨vs, g1, g2⟩ := c1.ok z _ (List.mem_iff_getElem?.mpr ⟨i, hi⟩)
  obtain ⟨vs1, vs2, e2, f1, f2⟩ := g2.split
  obtain ⟨v2, e3, f3⟩ := f2.one
  subst e3; subst e2
  refine ⟨.inl ⟨rfl, _, .inl (.inl g1)⟩, z, _, v2, rfl, rfl, g1, by simp, ?_⟩
  obtain ⟨p3, c3⟩ := stp_write (o := .lst vs1) c1 hi (c' := .lst ds) ⟨_, upd_same, f1⟩
  rw [List.dropLast_concat]
  exact k v2 d _ _ _ (p1.trans c1 p3) c3 f3 q
abbrev mSub (A B : ME) (d : D) (mm : MB) : MB := fun C => A C fun od C1 => B C1 fun id C2 => ∃ (j : Nat) (z : Addr) (ds : List D) (k : Int) (n : Nat), od = .raw (.ref z) ∧ id = .int k ∧ C2[j]? = some (z, .lst ds) ∧ ixN ds.length k = some n ∧ mm (C2.set j (z, .lst (ds.set n d)))
theorem sg_sub {d : D} (ho : SE T o ρ A) (hb : SE T b ρ B) (h : SB T body ρ mm N)
    (ha : ∀ v, assign (.Subscript o b pos) X.env v = (do
      let ov ← holding [v] (eval o X.env)
      let iv ← holding [v, ov] (eval b X.env)
      standAt pos
      holding [v, ov, iv] (setItem ov iv v)
      release [v, ov, iv] []) := by intro _; rfl) : SG T (.Subscript o b pos) d ρ body (mSub A B d mm) N := fun C q => by
  refine PG.imp (pg_sub (ho C _ q) (pe_some T ρ b) set_list ha) fun v σ H R ⟨H0, at_, r, k⟩ => ⟨H0, at_, fun v1 od C1 H1 H01 p1 c1 r1 q1 => ⟨C1, _, hb C1 _ q1, H01, at_.step p1 c1, fun v2 id C2 H2 H02 p2 c2 r2 ⟨j, z, ds, kk, n, e1, e2, hi, hn, q⟩ => ?_⟩⟩
  subst e1; subst e2
  obtain rfl : v1 = .ref z := r1
  cases r2
  obtain ⟨vs, g1, g2⟩ := c2.ok z _ (List.mem_iff_getElem?.mpr ⟨j, hi⟩)
  obtain ⟨p3, c3⟩ := stp_write (o := .lst (vs.set n v)) c2 hi (c' := .lst (ds.set n d)) ⟨_, upd_same, Reps.set ((r.mono p1.base).mono p2.base) n g2⟩
  have at3 := ((at_.step p1 c1).step p2 c2).step p3 c3
  exact ⟨z, vs, kk, n, rfl, rfl, g1, by rw [← g2.length]; exact hn, k _ _ _ _ _ ((p1.trans c1 p2).trans c2 p3) c3 at3.s at3.l (h _ q)⟩
abbrev mFld (K : W.Frag) (A B : ME) (m : Str) (mm : MB) : MB := fun C => A C fun d C1 => B C1 fun od C2 => ∃ (i : Nat) (z Cl : Addr) (ns : List Str) (ds : List D), od = .raw (.ref z) ∧ C2[i]? = some (z, .ins Cl ns ds) ∧ Cls K Cl ∧ NoAttr K Cl m ∧ ns.length < 1000 ∧ mm (C2.set i (z, .ins Cl (putN m d ns ds).1 (putN m d ns ds).2))
theorem sb_fld {pos' : Pos} (h : SE T e ρ A) (ho : SE T o ρ B) (hk : SB T rest ρ mm N) (hs : swapsWith e (some (.Attribute o m pos')) pos.line X.env = pure false := by rfl) : SB T (.Assign [.Attribute o m pos'] e pos :: rest) ρ (mFld X.K A B m mm) N :=
  fun C q => wss_cons (PS.imp (ps_fld (pe_some T ρ o) (h C _ q) hs) fun Dn σ H ⟨H0, at_, k⟩ => ⟨H0, at_, fun v d C1 H1 H01 p1 c1 r1 q1 => ⟨C1, _, ho C1 _ q1, H01, at_.step p1 c1, fun v2 od C2 H2 H02 p2 c2 r2 ⟨i, z, Cl, ns, ds, e1, hi, hc, hn, hl, q⟩ => by
    subst e1
    obtain rfl : v2 = .ref z := r2
    obtain ⟨dx, vs, g1, g2, g3⟩ := c2.ok z _ (List.mem_iff_getElem?.mpr ⟨i, hi⟩)
    obtain ⟨vs', f1, f2, f3⟩ := reps_put (f := m) (r1.mono p2.base) g3 g2
    obtain ⟨p3, c3⟩ := stp_write (o := .ins Cl dx (putF m v (ns.zip vs))) c2 hi (c' := .ins Cl (putN m d ns ds).1 (putN m d ns ds).2) ⟨dx, vs', by rw [upd_same, f1], f2, f3⟩
    have at3 := ((at_.step p1 c1).step p2 c2).step p3 c3
    refine ⟨z, Cl, dx, _, rfl, g1, hc, hn, ?_, ContS.here (((k.after p1 c1).after p2 c2).after p3 c3).nx at3 (hk _ q)⟩
    rw [List.length_zip, ← g2]; omega⟩⟩)

abbrev mRaise (A : ME) (Cl : Addr) (fld : Str) (Xq : QX) : MB := fun C => A C fun d C1 => Xq (.ref Cl) (some ([fld], [d])) C1
theorem sb_raise {fld : Str} {pos' : Pos} (hx : XCls X.prog X.K X.mg Cl fld) (hr : RoomG (k + 1) X.A) (hg : Gl X x) (hm : X.mg x = some (.ref Cl)) (h : SE T e ρ A) (hX : ∀ cls fs C, Xq cls fs C → T.XQ cls fs ρ C)
    (hs : starEach [e] X.env = (false, eval e X.env) :: starEach [] X.env := by rfl) (hdb : (x == ("__debug__" : Str)) = false := by decide) (hc : X.calm = true := by rfl) : SB T (.Raise (some (.Call (.Name x p) [e] [] pos)) none pos' :: rest) ρ (mRaise A Cl fld Xq) N :=
  fun C q => wss_cons (ws_raise hx hr hg hm ((h C _ q).mono fun d C1 h1 => hX _ _ _ h1) hs hdb hc)
def mPart (m : MB) : MB := fun C => ∃ C' r, C.Perm (C' ++ r) ∧ m C'
theorem sb_part (h : SB T rest ρ mm N) : SB T rest ρ (mPart mm) N := fun C ⟨C', r, pm, q⟩ => wss_part pm (h C' q)
theorem part_id {m : MB} (h : m C) : mPart m C := ⟨C, [], by simp, h⟩
def mWhile {α : Type} (t : α → MT) (f : α → (α → MB) → (α → MB) → MB) (s0 : α) (after : α → MB) : MB := fun C => ∃ I : Nat → α → Cells → Prop, (∃ n, I n s0 C) ∧ ∀ n s C, I n s C → t s C fun k C1 => if k = true then f s (fun s' C' => ∃ n', n' < n ∧ I n' s' C') after C1 else after s C1
theorem sb_while {α : Type} {t : α → MT} {f : α → (α → MB) → (α → MB) → MB} {s0 : α} {after : α → MB} {cond : Expr} (enc : α → Rho) (h0 : LeR (enc s0) ρ) (ht : ∀ s, ST T cond (enc s) (t s))
    (hb : ∀ s (nx bk : α → MB) (W V : QS), (∀ a ρ' C, LeR (enc a) ρ' → nx a C → W ρ' C) → (∀ a ρ' C, LeR (enc a) ρ' → bk a C → V ρ' C) → SB T body (enc s) (f s nx bk) { nx := W, rt := N.rt, bk := V, ct := W })
    (ha : ∀ s, SB T rest (enc s) (after s) N) : SB T (.While cond body [] pos :: rest) ρ (mWhile t f s0 after) N := fun C ⟨I, ⟨n0, i0⟩, hI⟩ => by
  refine wss_cons (ws_while (fun n ρ C => ∃ s, LeR (enc s) ρ ∧ I n s C) n0 ⟨s0, h0, i0⟩ fun n ρ C ⟨s, l, i⟩ => ?_)
  refine PT.imp (show PT X cond _ from (ht s C _ (hI n s C i)).mono (Q' := fun k C1 => if k = true then WSs T body (enc s) C1 { nx := fun ρ' C' => ∃ m', m' < n ∧ ∃ s, LeR (enc s) ρ' ∧ I m' s C', ct := fun ρ' C' => ∃ m', m' < n ∧ ∃ s, LeR (enc s) ρ' ∧ I m' s C', bk := fun ρ' C' => WSs T rest ρ' C' N, rt := N.rt } else WSs T rest (enc s) C1 N) fun k C1 h1 => ?_) fun σ H R ⟨H0, at_, kk⟩ => ⟨H0, at_.forget l, fun b C' H' H0' p c q => kk b C' H' H0' p c ?_⟩
  · cases k with
    | true => exact hb s _ _ _ _ (fun a ρ' C l ⟨n', h1, h2⟩ => ⟨n', h1, a, l, h2⟩) (fun a ρ' C l h => wss_forget l (ha a C h)) C1 h1
    | false => exact ha s C1 h1
  · cases b with
    | true => exact wss_forget l q
    | false => exact wss_forget l q
end
end Tr

set_option maxHeartbeats 4000000
namespace Tr
open PySem L2 PySem.Spec PyProof.Rows
section
variable {X : Cx} {T : TX X} {ρ ρ' : Rho} {C : Cells} {N : TEnds} {e a b c o i elt : Expr} {pos pos' p p2 apos cpos np : Pos} {es tgs : List Expr} {st b₀ : Stmt} {rest body tb fb suite : List Stmt} {x m n : Str} {A B A' : ME} {AS : MA} {mt mf mm : MB} {Q : QE}
theorem se_globS {s : Str} (hg : Gl X x) (h : ∃ t, X.mg x = some (.str s t)) (hn : x ≠ "__name__" := by decide) (hd : (x == ("__debug__" : Str)) = false := by decide) : SE T (.Name x pos) ρ (eVal (.str s)) := by
  obtain ⟨t, ht⟩ := h
  exact se_glob (d := .str s) (v := .str s) (pe_glob (v := .str s) hg ht ⟨_, rfl⟩ hd) (fun _ => rfl)
def mFrz (v : D) (k : D → MB) : MB := fun C => ∃ (i : Nat) (z : Addr) (c : Cell), v = .raw (.ref z) ∧ C[i]? = some (z, c) ∧ k c.toD (C.eraseIdx i)
theorem sb_frz {v : D} {k : D → MB} {r : D → Rho} (j : Nat) (hj : ρ[j]? = some (some v)) (hr : ∀ d, ρ.set j (some d) = r d) (h : ∀ d, SB T rest (r d) (k d) N) : SB T rest ρ (mFrz v k) N := fun C ⟨i, z, c, e, hi, q⟩ => by
  subst e
  refine wss_frz j i hj hi ?_
  rw [hr]
  exact h _ _ q
theorem LeR.set {v : Option D} {j : Nat} (h : LeR ρ ρ') : LeR (ρ.set j v) (ρ'.set j v) := ⟨by simp [h.l], fun i d q => by
  rw [List.getElem?_set] at q ⊢
  split at q
  · rename_i e; subst e
    split at q
    · rename_i hl; rw [if_pos rfl, if_pos (by rw [← h.l]; exact hl)]; exact q
    · cases q
  · rename_i e; rw [if_neg e]; exact h.s i d q⟩
theorem LeR.unset {j : Nat} (h : LeR ρ ρ') (hn : ∀ d, ρ[j]? ≠ some (some d)) : LeR ρ (ρ'.set j none) := ⟨by simp [h.l], fun i d q => by
  rw [List.getElem?_set]
  split
  · rename_i e; subst e; exact absurd q (hn d)
  · exact h.s i d q⟩
abbrev eDrop (A : ME) : ME := fun C Q => A C fun d C1 => ∃ C' r, C1.Perm (C' ++ r) ∧ Q d C'
theorem se_drop (h : SE T e ρ A) : SE T e ρ (eDrop A) := fun C Q q => PE.imp (h C _ q) fun σ H R ⟨H0, at_, k⟩ => ⟨H0, at_, fun v d C1 H1 H01 p1 c1 r1 ⟨C', r, pm, q⟩ =>
  let ⟨p2, c2⟩ := stp_part c1 pm
  k v d C' H1 H01 (p1.trans c1 p2) c2 r1 q⟩
variable {k : Nat} {f Cl : Addr} {fd : FuncData} {ps : List Str} {F : FS} {dvs : List V} {dds : List D} {Xq : QX}
theorem loop_inv {α : Type} {f : D → α → (α → MB) → (α → MB) → MB} {after : α → MB} {P : Cells → Prop} {ds : List D} {s : α} (I : Nat → α → Cells → Prop) (h0 : I 0 s C)
    (step : ∀ i d s C (nx : α → MB), ds[i]? = some d → I i s C → (∀ s' C', I (i + 1) s' C' → nx s' C') → P C ∧ f d s nx after C) (last : ∀ s C, I ds.length s C → P C ∧ after s C) : mLoop f after P ds s C := by
  have go : ∀ (r : List D) (j : Nat), j + r.length = ds.length → (∀ i, r[i]? = ds[j + i]?) → ∀ s C, I j s C → mLoop f after P r s C := by
    intro r
    induction r with
    | nil => intro j hj _ s C h; have : j = ds.length := by simpa using hj
             subst this; exact last s C h
    | cons d r ih =>
      intro j hj hg s C h
      refine step j d s C _ (by rw [← Nat.add_zero j, ← hg 0]; rfl) h fun s' C' h' => ?_
      exact ih (j + 1) (by simp at hj; omega) (fun i => by rw [Nat.add_assoc, Nat.add_comm 1 i, ← hg (i + 1)]; rfl) s' C' h'
  exact go ds 0 (by simp) (fun i => by simp) s C h0
theorem lcB_inv {P : Cells → Prop} {f : D → ME} {Q : QE} {ds : List D} (J : Nat → List D → Cells → Prop) (h0 : J 0 [] C)
    (step : ∀ i d acc C (k : QE), ds[i]? = some d → J i acc C → (∀ y C', J (i + 1) (acc ++ [y]) C' → k y C') → P C ∧ f d C k) (last : ∀ acc C, J ds.length acc C → P C ∧ Q (.lst acc) C) (hl : ds.length ≤ 100000) (hlen : ∀ i acc C, J i acc C → acc.length ≤ i) : lcB P f Q ds [] C := by
  have go : ∀ (r : List D) (j : Nat), j + r.length = ds.length → (∀ i, r[i]? = ds[j + i]?) → ∀ acc C, J j acc C → lcB P f Q r acc C := by
    intro r
    induction r with
    | nil => intro j hj _ s C h; have : j = ds.length := by simpa using hj
             subst this; exact last s C h
    | cons d r ih =>
      intro j hj hg acc C h
      refine step j d acc C _ (by rw [← Nat.add_zero j, ← hg 0]; rfl) h fun y C' h' => ⟨?_, ih (j + 1) (by simp at hj; omega) (fun i => by rw [Nat.add_assoc, Nat.add_comm 1 i, ← hg (i + 1)]; rfl) _ C' h'⟩
      have := hlen j acc C h
      simp at hj; omega
  exact go ds 0 (by simp) (fun i => by simp) [] C h0
theorem lcB_map {α : Type} {P : Cells → Prop} {f : D → ME} {Q : QE} {l : List α} (g h : α → D) (hp : P C) (hf : ∀ a ∈ l, ∀ k : QE, k (h a) C → f (g a) C k) (hl : l.length ≤ 100000) (q : Q (.lst (l.map h)) C) : lcB P f Q (l.map g) [] C := by
  have go : ∀ (r : List α) (acc : List D), (∀ a ∈ r, a ∈ l) → acc.length + r.length ≤ 100000 → Q (.lst (acc ++ r.map h)) C → lcB P f Q (r.map g) acc C := by
    intro r
    induction r with
    | nil => intro acc _ _ q; exact ⟨hp, by simpa using q⟩
    | cons a r ih =>
      intro acc hm hl q
      refine ⟨hp, hf a (hm a List.mem_cons_self) _ ⟨by simp at hl; omega, ih _ (fun b hb => hm b (List.mem_cons_of_mem _ hb)) (by simp at hl ⊢; omega) (by simpa using q)⟩⟩
  exact go l [] (fun _ h => h) (by simpa using hl) (by simpa using q)
theorem lcB1_map {α : Type} {P : Cells → Prop} {f : D → ME} {t : D → MT} {Q : QE} {l : List α} (g h : α → D) (b : α → Bool) (hp : P C) (ht : ∀ a ∈ l, ∀ k : QT, k (b a) C → t (g a) C k) (hf : ∀ a ∈ l, b a = true → ∀ k : QE, k (h a) C → f (g a) C k) (hl : l.length ≤ 100000) (q : Q (.lst ((l.filter b).map h)) C) : lcB1 P t f Q (l.map g) [] C := by
  have go : ∀ (r : List α) (acc : List D), (∀ a ∈ r, a ∈ l) → acc.length + r.length ≤ 100000 → Q (.lst (acc ++ (r.filter b).map h)) C → lcB1 P t f Q (r.map g) acc C := by
    intro r
    induction r with
    | nil => intro acc _ _ q; exact ⟨hp, by simpa using q⟩
    | cons a r ih =>
      intro acc hm hl q
      refine ⟨hp, ht a (hm a List.mem_cons_self) _ ?_⟩
      have hm' : ∀ b ∈ r, b ∈ l := fun b hb => hm b (List.mem_cons_of_mem _ hb)
      have hl' : acc.length + 1 + r.length ≤ 100000 := by simp at hl; omega
      cases e : b a with
      | true =>
        rw [if_pos rfl]
        rw [List.filter_cons_of_pos e] at q
        exact hf a (hm a List.mem_cons_self) e _ ⟨by omega, ih _ hm' (by simp; omega) (by simpa using q)⟩
      | false =>
        rw [if_neg (by decide)]
        rw [List.filter_cons_of_neg (by simp [e])] at q
        exact ih _ hm' (by omega) q
  exact go l [] (fun _ h => h) (by simpa using hl) (by simpa using q)
end
end Tr
namespace Tr
open PySem L2 PySem.Spec PyProof.Rows
def pMkF (F : FS) (Xq : QX) (Cl : Addr) (ds : List D) : ME := pFrz (makeW F Xq Cl ds)
theorem se_mkF {X : Cx} {T : TX X} {ρ : Rho} {e : Expr} {AS : MA} {F : FS} {Xq : QX} {Cl : Addr} {dds : List D} (h : SE T e ρ (eArgs AS fun ds => makeW F Xq Cl (ds ++ dds))) : SE T e ρ (eArgs AS fun ds => pMkF F Xq Cl (ds ++ dds)) := fun C Q q => se_frz h C Q q
theorem mkF_of {F : FS} {Xq : QX} {Cl : Addr} {ds fs : List D} {ns : List Str} {C : Cells} {Q : QE} (h : ∀ z, F (.raw (.ref z) :: ds) ((z, .ins Cl [] []) :: C) (fun d C' => d = .non ∧ ∃ (i : Nat) (z' Cl' : Addr) (ns : List Str) (ds : List D), D.raw (.ref z) = .raw (.ref z') ∧ C'[i]? = some (z', .ins Cl' ns ds) ∧ Q (.ins Cl' ns ds) (C'.eraseIdx i)) Xq) : pMkF F Xq Cl ds C Q :=
  ⟨C, [], by simp, fun z => by simpa using h z⟩
end Tr
namespace Tr
open PySem L2 PySem.Spec PyProof.Rows
section
variable {X : Cx} {T : TX X} {ρ : Rho} {C : Cells} {N : TEnds} {rest : List Stmt} {p pos pos' : Pos} {x : Str} {Cl : Addr} {Xq : QX}
structure X0 (K : W.Frag) (C : Addr) : Prop where
  q : PySem.W.excIn K C [.type "ValueError", .type "Exception", .type "BaseException", .type "object"] "ValueError.__new__" = true
  k : W.keepIn K (.ref C) = true
  s : W.subIn K (.ref C) (.type "BaseException") = some true
  t : W.typeIn K (.ref C) = some (.type "type")
end
end Tr

set_option maxHeartbeats 4000000
namespace Tr
open PySem L2 PySem.Spec PyProof.Rows
section
variable {X : Cx} {T : TX X} {ρ : Rho} {C : Cells} {N : TEnds} {e a b c o i elt : Expr} {pos pos' p p2 apos : Pos} {es : List Expr} {rest body : List Stmt} {x m : Str} {A B : ME} {AS : MA} {Q : QE} {k : Nat} {f Cl : Addr} {fd : FuncData} {ps : List Str} {F : FS} {dvs : List V} {dds : List D} {dus : List Value} {d1 d2 d : D} {ns ns2 : List Str} {ds ds2 : List D} {Xq : QX}
def isInsD : D → Bool
  | .ins _ _ _ => true
  | _ => false
def oAddO (own : D → D → ME) (x y : D) : ME := match x with
  | .ins c ns ds => own (.ins c ns ds) y
  | x => oAdd x y
def pIxO (Cl : Addr) (F : FS) (Xq : QX) (x y : D) : ME := match x with
  | .ins c ns ds => fun C Q => c = Cl ∧ callW F Xq [.ins c ns ds, y] C Q
  | x => pIx x y
def pMin2 : D → D → ME
  | .int i, .int j => fun C Q => Q (.int (if j < i then j else i)) C
  | _, _ => fun _ _ => False
end
end Tr

set_option maxHeartbeats 4000000
namespace Tr
open PySem L2 PySem.Spec PyProof.Rows
def lookD : List Key → List D → Key → Option D
  | k :: ks, d :: ds, j => if k = j then some d else lookD ks ds j
  | _, _, _ => none
def putD (ks : List Key) (ds : List D) (j : Key) (x : D) : List D := if (ks.any fun k => decide (k = j)) = true then (ks.zip ds).map fun p => if p.1 = j then x else p.2 else ds ++ [x]
def putKs (ks : List Key) (j : Key) : List Key := if (ks.any fun k => decide (k = j)) = true then ks else ks ++ [j]
def keyD : D → Option Key
  | .str s => some (.inr s)
  | .int i => some (.inl i)
  | _ => none
section
variable {K : W.Frag} {H : Hp}
theorem lookD_reps : ∀ {ks : List Key} {ds : List D} {vs : List V} {j : Key} {d : D}, Reps K H ds vs → lookD ks ds j = some d → ∃ v, valV (ks.zip vs) j = some v ∧ Rep K H d v
  | k :: ks, d0 :: ds, vs, j, d, ⟨v, r, e, r1, r2⟩, h => by
    subst e
    unfold lookD at h
    rw [List.zip_cons_cons]
    by_cases c : k = j
    · rw [if_pos c] at h; cases h
      exact ⟨v, valV_pos c, r1⟩
    · rw [if_neg c] at h
      obtain ⟨u, h1, h2⟩ := lookD_reps r2 h
      exact ⟨u, by rw [valV_neg c]; exact h1, h2⟩
  | [], ds, _, _, _, _, h => by cases ds <;> cases h
  | _ :: _, [], _, _, _, _, h => by cases h
theorem putD_reps {ks : List Key} {ds : List D} {vs : List V} {j : Key} {d : D} {v : V} (r : Reps K H ds vs) (l : ks.length = vs.length) (rd : Rep K H d v) :
    ∃ vs', putK (ks.zip vs) j v = (putKs ks j).zip vs' ∧ (putKs ks j).length = vs'.length ∧ Reps K H (putD ks ds j d) vs' := by
  have any : ∀ (ks : List Key) (vs : List V), ks.length = vs.length → ((ks.zip vs).any fun kv => decide (kv.1 = j)) = ks.any fun k => decide (k = j) := by
    intro ks
    induction ks with
    | nil => intro vs _; simp
    | cons k ks ih =>
      intro vs l
      cases vs with
      | nil => cases l
      | cons v vs =>
        rw [List.zip_cons_cons, List.any_cons, List.any_cons, ih vs (by simpa using l)]
  unfold putK putKs putD
  rw [any ks vs l]
  by_cases c : (ks.any fun k => decide (k = j)) = true
  · rw [if_pos c, if_pos c, if_pos c]
    refine ⟨(ks.zip vs).map fun p => if p.1 = j then v else p.2, ?_, by simp [l], ?_⟩
    · clear any c r
      induction ks generalizing vs with
      | nil => simp
      | cons k ks ih =>
        cases vs with
        | nil => cases l
        | cons u vs =>
          simp only [List.zip_cons_cons, List.map_cons]
          rw [ih (by simpa using l)]
          by_cases c : k = j <;> simp [c]
    · clear any c
      induction ks generalizing vs ds with
      | nil => simp; exact Reps.nil
      | cons k ks ih =>
        cases vs with
        | nil => cases l
        | cons u vs =>
          cases ds with
          | nil => cases r
          | cons d0 ds =>
            obtain ⟨_, _, e, r1, r2⟩ := r
            cases e
            simp only [List.zip_cons_cons, List.map_cons]
            refine Reps.cons ?_ (ih r2 (by simpa using l))
            by_cases c : k = j
            · rw [if_pos c, if_pos c]; exact rd
            · rw [if_neg c, if_neg c]; exact r1
  · rw [if_neg c, if_neg c, if_neg c]
    exact ⟨vs ++ [v], by rw [List.zip_append l]; rfl, by simp [l], Reps.append r (Reps.cons rd Reps.nil)⟩
end
section
variable {X : Cx} {T : TX X} {ρ : Rho} {C : Cells} {N : TEnds} {e a b c o i elt : Expr} {pos pos' p p2 apos : Pos} {es : List Expr} {rest body : List Stmt} {x m : Str} {A B : ME} {AS : MA} {mm : MB} {Q : QE} {d d1 d2 : D} {ks : List Key} {ds : List D} {key : Key}
def DicD (C : Cells) (d : D) (ks : List Key) (ds : List D) : Prop := d = .dic ks ds ∨ ∃ a, d = .raw (.ref a) ∧ (a, Cell.dK ks ds) ∈ C
theorem dic_at {H0 H : Hp} {v : V} (c : CellsR X.K H0 C H) (r : Rep X.K H0 d v) (h : DicD C d ks ds) : ∃ a vs, v = .ref a ∧ Rd H a (.dK (ks.zip vs)) ∧ ks.length = vs.length ∧ Reps X.K H0 ds vs := by
  rcases h with rfl | ⟨a, rfl, hm⟩
  · obtain ⟨a, vs, h1, h2, h3, h4⟩ := r
    exact ⟨a, vs, h1, Same.rd c.same h2, h3, h4⟩
  · obtain ⟨vs, h2, h3, h4⟩ := c.ok a _ hm
    exact ⟨a, vs, r, .inl h2, h3, h4⟩
theorem ix_dict (hu : X.A.units + 1 < cLine) : IxR X (fun x y H Q => ∃ a v, x = .ref a ∧ DGet H a y (some v) ∧ Q v H) := by
  intro value slice pins s σ H x y v u Q I rx ry ⟨a, w0, ex, g, q⟩ hs
  subst ex
  obtain rfl : v = Value.ref a := rx
  have tI := dict_typeIs I g
  unfold subscriptTail
  refine wpAny_bind ?_
  rw [getitemInPython_of_ne tI.not_modules]
  refine wpAny_bind (wpAny_specialOf tI PySem.F.slot_dict_getitem.lookup ?_)
  have way : wpAny (model X.prog X.w) X.A (subscripted slice false (.ref a) u) (fun r s₃ => wpAny (model X.prog X.w) X.A (letTemporaryGo value (.ref a) r >>= fun _ => pure r) (EP X pins σ Q) X.xe s₃) X.xe s := by
    rw [hs]
    refine wpAny_operating (wpAny_mono (d_getItem hu I g ry fun w' s3 I3 rw' => (⟨w0, H, I3, rw', q⟩ : EP X pins σ Q w' s3)) (fun r s₃ h₃ => ?_) fun _ _ z => z)
    exact wpAny_bind (wpAny_letTemporaryGo (wpAny_pure h₃))
  first
    | exact wpAny_pure (wpAny_bind way)
    | exact wpAny_bind (wpAny_pure (wpAny_bind way))
    | exact wpAny_bind way
theorem keyD_rep {H0 : Hp} {y : V} (h : keyD d = some key) (r : Rep X.K H0 d y) : y = kV key := by
  cases d with
  | str s => cases h; exact r
  | int i => cases h; exact r
  | _ => cases h
theorem iw_dic (hu : X.A.units + 64 < cLine) (h : DicD C d1 ks ds) (hk : keyD d2 = some key) (hl : lookD ks ds key = some d) (q : Q d C) : IW T d1 d2 C Q :=
  IxR.imp (ix_dict (by omega)) fun x y H R ⟨H0, c, r1, r2, k⟩ => by
    obtain ⟨a, vs, e1, g1, g2, g3⟩ := dic_at c r1 h
    obtain ⟨v, h1, h2⟩ := lookD_reps g3 hl
    exact ⟨a, v, e1, .inl ⟨_, key, g1, keyD_rep hk r2, h1.symm⟩, k.here c h2 q⟩
def pIxD (x y : D) : ME := fun C Q => pIx x y C Q ∨ ∃ ks ds key d, DicD C x ks ds ∧ keyD y = some key ∧ lookD ks ds key = some d ∧ Q d C
theorem se_ixD (hu : X.A.units + 64 < cLine) (ha : SE T a ρ A) (hb : SE T b ρ B) (hs : PlainIx b := by intro _ _; rfl) : SE T (.Subscript a b pos) ρ (eBin A B pIxD) :=
  fun C Q h => we_ix ((ha C _ h).mono fun x C1 h1 => (hb C1 _ h1).mono fun y C2 h2 => by
    rcases h2 with h2 | ⟨ks, ds, key, d, h1, h2, h3, h4⟩
    · exact pIx_iw h2
    · exact iw_dic hu h1 h2 h3 h4) hs
theorem set_dict (hu : X.A.units + 1 < cLine) : PSet X (fun o i v H Q => ∃ a H', o = .ref a ∧ DPut H a i v H' ∧ Q H') := by
  intro pins s σ H o i v ov iv u Q I ro ri rv ⟨a, H', ea, g, q⟩
  subst ea
  obtain rfl : ov = Value.ref a := ro
  exact d_setItem hu I g ri rv fun s4 I4 => ⟨H', I4, q⟩
abbrev mSubD (A B : ME) (d : D) (mm : MB) : MB := fun C => A C fun od C1 => B C1 fun id C2 => ∃ (j : Nat) (z : Addr) (ks : List Key) (ds : List D) (key : Key), od = .raw (.ref z) ∧ keyD id = some key ∧ C2[j]? = some (z, .dK ks ds) ∧ ks.length < 1000 ∧ mm (C2.set j (z, .dK (putKs ks key) (putD ks ds key d)))
theorem sg_subD {d : D} (hu : X.A.units + 64 < cLine) (ho : SE T o ρ A) (hb : SE T b ρ B) (h : SB T body ρ mm N)
    (ha : ∀ v, assign (.Subscript o b pos) X.env v = (do
      let ov ← holding [v] (eval o X.env)
      let iv ← holding [v, ov] (eval b X.env)
      standAt pos
      holding [v, ov, iv] (setItem ov iv v)
      release [v, ov, iv] []) := by intro _; rfl) : SG T (.Subscript o b pos) d ρ body (mSubD A B d mm) N := fun C q => by
  refine PG.imp (pg_sub (ho C _ q) (pe_some T ρ b) (set_dict (by omega)) ha) fun v σ H R ⟨H0, at_, r, k⟩ => ⟨H0, at_, fun v1 od C1 H1 H01 p1 c1 r1 q1 => ⟨C1, _, hb C1 _ q1, H01, at_.step p1 c1, fun v2 id C2 H2 H02 p2 c2 r2 ⟨j, z, ks, ds, key, e1, e2, hi, hn, q⟩ => ?_⟩⟩
  subst e1
  obtain rfl : v1 = .ref z := r1
  obtain ⟨vs, g1, g2, g3⟩ := c2.ok z _ (List.mem_iff_getElem?.mpr ⟨j, hi⟩)
  obtain ⟨vs', f1, f2, f3⟩ := putD_reps (j := key) g3 g2 ((r.mono p1.base).mono p2.base)
  obtain ⟨p3, c3⟩ := stp_write (o := .dK (putK (ks.zip vs) key v)) c2 hi (c' := .dK (putKs ks key) (putD ks ds key d)) ⟨vs', by rw [upd_same, f1], f2, f3⟩
  have at3 := ((at_.step p1 c1).step p2 c2).step p3 c3
  refine ⟨z, _, rfl, .inl ⟨_, key, g1, keyD_rep e2 r2, ?_, rfl⟩, k _ _ _ _ _ ((p1.trans c1 p2).trans c2 p3) c3 at3.s at3.l (h _ q)⟩
  rw [List.length_zip, sizeLine_eq]; omega
def oNotInS (x y : D) : ME := fun C Q => ∃ n z, x = .str ⟨#[n]⟩ ∧ y = .str z ∧ Q (.bl (!decide (n ∈ z.cps.toList))) C
def SD (T : TX X) (pos : Pos) (keys : List (Option Expr)) (values : List Expr) (ρ : Rho) (ks : List Key) (AS : MA) : Prop := ∃ trs, PPs X pos keys values trs ∧
  ∀ C (Q : QA), AS C Q → ∀ σ H (R : List (V × V) → Hp → Prop) H0, At T H0 ρ C σ H → (∀ ws ds C' H' H0', Stp H0 C H H0' C' H' → CellsR X.K H0' C' H' → Reps X.K H0' ds ws → ks.length = ws.length → Q ds C' → R ((ks.map kV).zip ws) H') → tPairs trs σ H R
theorem sd_nil : SD T pos [] [] ρ [] aNil := ⟨[], pps_nil, fun C Q q σ H R H0 at_ k => k [] [] C H H0 (Stp.refl _ _ _) at_.c Reps.nil rfl q⟩
theorem sd_cons {s : Str} {j : Nat} {pk : Pos} {v : Expr} {keys : List (Option Expr)} {values : List Expr} (h : SE T v ρ A) (g : SD T pos keys values ρ ks AS) : SD T pos (some (.Constant (.str s) j pk) :: keys) (v :: values) ρ (.inr s :: ks) (aCons A AS) := by
  obtain ⟨trs, pp, go⟩ := g
  refine ⟨_, pps_cons pe_str (pe_some T ρ v) pp, fun C Q q σ H R H0 at_ k => ?_⟩
  refine ⟨C, _, h C _ q, H0, at_, fun y d C1 H1 H01 p1 c1 r1 q1 => ?_⟩
  exact go C1 _ q1 σ H1 _ H01 (at_.step p1 c1) fun ws ds C2 H2 H02 p2 c2 r2 l q2 => k (y :: ws) (d :: ds) C2 H2 H02 (p1.trans c1 p2) c2 (Reps.cons (r1.mono p2.base) r2) (by simp [l]) q2
def eDisp (ks : List Key) (AS : MA) : ME := fun C Q => ks.Nodup ∧ ks.length ≤ 15 ∧ ∀ p, AS ((p, .dK [] []) :: C) fun ds C1 => ∃ i, C1[i]? = some (p, .dK [] []) ∧ Q (.raw (.ref p)) (C1.set i (p, .dK ks ds))
theorem merge_new : ∀ (more kvs : List (Key × V)), ((kvs ++ more).map (·.1)).Nodup → mergeK kvs more = kvs ++ more
  | [], kvs, _ => by simp [mergeK]
  | (k, v) :: r, kvs, h => by
    have hn : valV kvs k = none := by
      have h1 : ¬ k ∈ kvs.map (·.1) := by
        intro hm
        rw [List.map_append, List.nodup_append] at h
        exact h.2.2 k hm k List.mem_cons_self rfl
      cases e : valV kvs k with
      | none => rfl
      | some u =>
        exfalso
        apply h1
        unfold valV at e
        obtain ⟨q, hq, _⟩ := Option.map_eq_some_iff.mp e
        have hm := List.mem_of_find?_eq_some hq
        have hk0 : decide (q.1 = k) = true := List.find?_some (p := fun kv : Key × V => decide (kv.1 = k)) hq
        have hk := of_decide_eq_true hk0
        rw [← hk]
        exact List.mem_map_of_mem hm
    show mergeK (putK kvs k v) r = _
    rw [putK_new v hn]
    rw [merge_new r (kvs ++ [(k, v)]) (by simpa using h)]
    simp
theorem se_disp {keys : List (Option Expr)} {values : List Expr} (h : SD T pos keys values ρ ks AS) (hall : keys.all (·.isSome) = true := by rfl) (hl : keys.length = values.length := by rfl) (h0 : keys ≠ [] := by intro h; cases h) (h15 : keys.length ≤ 15 := by decide) :
    SE T (.Dict keys values pos) ρ (eDisp ks AS) := by
  obtain ⟨trs, pp, go⟩ := h
  intro C Q ⟨nd, k15, q⟩
  refine PE.imp (pe_disp pp hall hl h0 h15) fun σ H R ⟨H0, at_, k⟩ p hp => ?_
  obtain ⟨p2, c2⟩ := stp_cell (o := .dK []) (c := .dK [] []) at_.c hp ⟨[], upd_same, rfl, Reps.nil⟩
  have at2 := at_.step p2 c2
  refine go _ _ (q p) σ _ _ H0 at2 fun ws ds C' H' H0' p3 c3 r3 l ⟨i, hi, q3⟩ => ?_
  obtain ⟨vs, g1, g2, g3⟩ := c3.ok p _ (List.mem_iff_getElem?.mpr ⟨i, hi⟩)
  have e0 : H' p = some (.dK []) := g1
  have lz : ∀ (ks : List Key) (ws : List V), (ks.map kV).zip ws = (ks.zip ws).map fun kv => (kV kv.1, kv.2) := by
    intro ks
    induction ks with
    | nil => intro ws; rfl
    | cons k ks ih => intro ws; cases ws with
      | nil => rfl
      | cons w ws => simp [ih]
  refine ⟨e0, ks.zip ws, lz ks ws, by rw [List.length_zip]; omega, ?_⟩
  have fst : ∀ (ks : List Key) (ws : List V), ks.length = ws.length → (ks.zip ws).map (·.1) = ks := fun ks ws l => List.map_fst_zip (by omega)
  rw [merge_new _ [] (by rw [List.nil_append, fst ks ws l]; exact nd), List.nil_append]
  obtain ⟨p4, c4⟩ := stp_write (o := .dK (ks.zip ws)) c3 hi (c' := .dK ks ds) ⟨ws, upd_same, l, r3⟩
  exact k _ (.raw (.ref p)) _ _ _ ((p2.trans c2 p3).trans c3 p4) c4 rfl q3
variable {cpos : Pos}
def pPopAt (od d : D) : ME := fun C Q => ∃ (i : Nat) (z : Addr) (ds : List D) (k : Int) (n : Nat) (e : D), od = .raw (.ref z) ∧ d = .int k ∧ C[i]? = some (z, .lst ds) ∧ (-100000 ≤ k ∧ k < 100000) ∧ ixN ds.length k = some n ∧ ds[n]? = some e ∧ Q e (C.set i (z, .lst (ds.eraseIdx n)))
theorem Reps.erase {K : W.Frag} {H : Hp} : ∀ {ds : List D} {vs : List V} (n : Nat), Reps K H ds vs → Reps K H (ds.eraseIdx n) (vs.eraseIdx n)
  | [], vs, n, h => by
    have := h.length
    obtain rfl : vs = [] := by cases vs <;> simp_all
    simpa using h
  | d :: ds, vs, n, h => by
    obtain ⟨v, vs', rfl, h1, h2⟩ := h
    cases n with
    | zero => exact h2
    | succ n => exact Reps.cons h1 (Reps.erase n h2)
theorem se_popAt (ho : SE T o ρ A) (ha : SE T a ρ B)
    (hbase : attributeBase o "pop" X.env (eval o X.env) = eval o X.env := by rfl) (hline : (apos.endLine == cpos.line) = true := by rfl) (hs : starEach [a] X.env = (false, eval a X.env) :: starEach [] X.env := by rfl)
    (hfew : ((backTo cpos (starEach [a] X.env)).all (fun x => !x.1) && (backToKw cpos (keywordEach [] X.env)).all (fun x => x.1.isSome)
      && decide (([a] : List Expr).length + ([] : List Keyword).length + (if ([] : List Keyword).isEmpty then 0 else 1) < 30)) = true := by rfl) (hplain : (backTo cpos (starEach [] X.env)).any (·.1) = false := by rfl) :
    SE T (.Call (.Attribute o "pop" apos) [a] [] cpos) ρ (eL1 A B pPopAt) := fun C Q q => by
  have h : Tr.WE T o ρ C fun od C1 => isL od C1 ∧ Tr.WE T a ρ C1 fun d C2 => pPopAt od d C2 Q := (ho C _ q).mono fun od C1 ⟨h1, h2⟩ => ⟨h1, ha C1 _ h2⟩
  refine PE.imp (pe_bm F.plainAttrs_list F.slot_list_pop F.type_list_pop mt_popAt h (pa_cons (pe_some T ρ a) pa_nil hs) hbase hfew hline hs hplain) fun σ H R ⟨H0, at_, k⟩ => ⟨H0, at_, fun v od C1 H1 H01 p1 c1 r1 ⟨⟨z, ds, e1, hz⟩, hw⟩ => ?_⟩
  subst e1
  obtain rfl : v = .ref z := r1
  obtain ⟨vs, g1, g2⟩ := c1.ok z _ hz
  refine ⟨.inl ⟨rfl, vs, .inl (.inl g1)⟩, C1, _, hw, H01, at_.step p1 c1, fun v2 d C2 H2 H02 p2 c2 r2 ⟨i, z2, ds2, kk, n, e, ez, ed, hi2, hb, hn, he, q⟩ => ?_⟩
  cases ez
  subst ed
  cases r2
  obtain ⟨vs2, f1, f2⟩ := c2.ok z _ (List.mem_iff_getElem?.mpr ⟨i, hi2⟩)
  obtain ⟨ve, h1, h2⟩ := f2.get he
  refine ⟨z, vs2, kk, n, ve, rfl, rfl, f1, by omega, by omega, by rw [← f2.length]; exact (ixN_seq hn).1, h1, ?_⟩
  obtain ⟨p3, c3⟩ := stp_write (o := .lst (vs2.eraseIdx n)) c2 hi2 (c' := .lst (ds2.eraseIdx n)) ⟨_, upd_same, Reps.erase n f2⟩
  exact k ve e _ _ _ ((p1.trans c1 p2).trans c2 p3) c3 h2 q
def DcW (T : TX X) (scope : Scope) (bd : Bind) (kx vx : Expr) (vs : List Nat) (ρ : Rho) (P : Cells → Prop) (Q : QE) : List D → List Key → List D → Cells → Prop
  | [], ks, ds, C => P C ∧ Q (.dic ks ds) C
  | d :: r, ks, ds, C => P C ∧ ∃ ρ', bd.to d (wipeR ρ vs) = some ρ' ∧ InBlk T scope fun T' => Tr.WE T' kx ρ' C fun y C2 => InBlk T scope fun T2 => Tr.WE T2 vx ρ' C2 fun z C3 => ∃ key, keyD y = some key ∧ ks.length < 100000 ∧ DcW T scope bd kx vx vs ρ P Q r (putKs ks key) (putD ks ds key z) C3
structure WayD (X : Cx) (H01 : Hp) (C1 : Cells) (H1 : Hp) (L : Addr) (ks : List Key) (acc : List D) (H0 : Hp) (C : Cells) (H : Hp) : Prop where
  st : Stp H01 C1 H1 H0 C H
  c : CellsR X.K H0 C H
  at_ : ∃ vs, H L = some (.dK (ks.zip vs)) ∧ ks.length = vs.length ∧ Reps X.K H0 acc vs
  n0 : H0 L = none
  nd : ¬ Dom C L
theorem WayD.step {H01 H1 H0 H H0' H' : Hp} {C1 C' : Cells} {L : Addr} {acc : List D} (w : WayD X H01 C1 H1 L ks acc H0 C H) (p : Stp H0 C H H0' C' H') (c' : CellsR X.K H0' C' H') : WayD X H01 C1 H1 L ks acc H0' C' H' := by
  obtain ⟨vs, h1, hl, h2⟩ := w.at_
  obtain ⟨q1, q2⟩ := p.own L (by rw [h1]; simp) w.n0 w.nd
  exact ⟨w.st.trans w.c p, c', ⟨vs, p.fr L _ h1 w.nd, hl, h2.mono p.base⟩, q1, q2⟩
theorem WayD.add {H01 H1 H0 H : Hp} {C1 : Cells} {L : Addr} {acc : List D} {d : D} {v : V} (w : WayD X H01 C1 H1 L ks acc H0 C H) (hL : H1 L = none) (r : Rep X.K H0 d v) : ∃ vs, H L = some (.dK (ks.zip vs)) ∧ ks.length = vs.length ∧ WayD X H01 C1 H1 L (putKs ks key) (putD ks acc key d) H0 C (upd H L (.dK (putK (ks.zip vs) key v))) := by
  obtain ⟨vs, h1, hl, h2⟩ := w.at_
  have off : ∀ a x, (a, x) ∈ C → a ≠ L := fun a x hx e => w.nd ⟨x, e ▸ hx⟩
  obtain ⟨vs', e1, e2, e3⟩ := putD_reps (j := key) h2 hl r
  refine ⟨vs, h1, hl, ⟨⟨w.st.base, fun a o h n => ?_, w.st.own⟩, ⟨fun a o h => ?_, w.c.free, fun a x hx => (w.c.ok a x hx).mono (Same.refl _) (upd_ne (off a x hx)), w.c.nd⟩, ⟨vs', by rw [upd_same, e1], e2, e3⟩, w.n0, w.nd⟩⟩
  · rw [upd_ne (ne_of_none h hL)]; exact w.st.fr a o h n
  · rw [upd_ne (ne_of_none h w.n0)]; exact w.c.same a o h
theorem WayD.fin {H01 H1 H0 H : Hp} {C1 : Cells} {L : Addr} {acc : List D} (w : WayD X H01 C1 H1 L ks acc H0 C H) (hL : H1 L = none) : ∃ H0', Stp H01 C1 H1 H0' C H ∧ CellsR X.K H0' C H ∧ Rep X.K H0' (.dic ks acc) (.ref L) := by
  obtain ⟨vs, h1, hl, h2⟩ := w.at_
  have s0 : Same H0 (upd H0 L (.dK (ks.zip vs))) := fun a u h => by rw [upd_ne (ne_of_none h w.n0)]; exact h
  refine ⟨upd H0 L (.dK (ks.zip vs)), ⟨w.st.base.trans s0, w.st.fr, fun a h e n => ?_⟩, ⟨fun a o h => ?_, fun a d => ?_, fun a x hx => (w.c.ok a x hx).mono s0 rfl, w.c.nd⟩, ⟨L, vs, rfl, .inl upd_same, hl, h2.mono s0⟩⟩
  · obtain ⟨q1, q2⟩ := w.st.own a h e n
    exact ⟨by rw [upd_ne (show a ≠ L from fun z => h (by rw [z]; exact hL))]; exact q1, q2⟩
  · by_cases q : a = L
    · subst q; rw [upd_same] at h; cases h; exact h1
    · rw [upd_ne q] at h; exact w.c.same a o h
  · rw [upd_ne (show a ≠ L from fun z => w.nd (by rw [← z]; exact d))]; exact w.c.free a d
theorem wayD0 {H0 H : Hp} {L : Addr} (c : CellsR X.K H0 C H) (hL : H L = none) : WayD X H0 C H L [] [] H0 C (upd H L (.dK [])) := by
  have n0 := c.nn hL
  refine ⟨⟨Same.refl _, fun a o h n => by rw [upd_ne (ne_of_none h hL)]; exact h, fun a h e n => ⟨e, n⟩⟩, ⟨fun a o h => by rw [upd_ne (ne_of_none h n0)]; exact c.same a o h, c.free, fun a x hx => (c.ok a x hx).mono (Same.refl _) (upd_ne fun z => (c.ok a x hx).some (by rw [z]; exact hL)), c.nd⟩, ⟨[], upd_same, rfl, Reps.nil⟩, n0, c.notDom hL⟩
section
variable {scope : Scope} {own : List (Str × Nat)} {tg iter kx vx : Expr} {bd : Bind}
theorem read_dc (own : List (Str × Nat)) (bd : Bind) (hv : ∀ i ∈ bd.slots, i ∈ own.map (·.2)) : ∀ σ H R, TEx T ρ C Q σ H R → tDc (TIx T ρ C fun ds P C1 => DcW T scope bd kx vx (own.map (·.2)) ρ P Q ds [] [] C1) (bd.g X.K) tYes (someB T scope kx) (someB T scope vx) (own.map (·.2)) σ H R := by
  refine fun σ H R ⟨H0, at_, k⟩ => ⟨H0, at_, fun J ds P C1 H1 H01 p1 c1 y1 q1 L hL => ?_⟩
  have at1 := at_.step p1 c1
  refine ⟨fun j m H2 => m = ds.length - j ∧ j ≤ ds.length ∧ ∃ ks acc C2 H02, WayD X H01 C1 H1 L ks acc H02 C2 H2 ∧ DcW T scope bd kx vx (own.map (·.2)) ρ P Q (ds.drop j) ks acc C2, ⟨_, rfl, Nat.zero_le _, [], [], C1, H01, wayD0 c1 hL, q1⟩, ?_⟩
  rintro j m H2 ⟨rfl, hj, ks, acc, C2, H02, w2, q2⟩
  have hP : P C2 := by
    generalize ds.drop j = l at q2
    cases l with
    | nil => exact q2.1
    | cons d r => exact q2.1
  by_cases hlt : j < ds.length
  · rw [List.drop_eq_getElem_cons hlt] at q2
    obtain ⟨_, ρ', hb, qe⟩ := q2
    refine .inr ⟨y1.go j _ _ _ w2.st.base w2.c hP hlt, fun H3 => ∃ ks acc C3 H03, WayD X H01 C1 H1 L ks acc H03 C3 H3 ∧ DcW T scope bd kx vx (own.map (·.2)) ρ P Q (ds.drop (j + 1)) ks acc C3, fun H3 ⟨ks, acc, C3, H03, w3, q3⟩ => ⟨_, by omega, rfl, hlt, ks, acc, C3, H03, w3, q3⟩, fun x H3 hy => ?_⟩
    obtain ⟨H03, p3, c3, r3⟩ := y1.yld j _ _ _ x H3 ds[j] w2.st.base w2.c hP (by simp [hlt]) hy
    have w3 := w2.step p3 c3
    have at3 := at1.step w3.st c3
    refine bind_to c3.same hb hv r3 (at3.wipe _).s (at3.wipe _).l fun σ' s' l' ew => ⟨by rw [ew, wipe_wipe], ρ', C2, _, qe, H03, ⟨at3.a, c3, s', l'⟩, fun v y C4 H4 H04 p4 c4 r4 q4 => ?_⟩
    have w4 := w3.step p4 c4
    have at4 : At T H04 ρ' C4 σ' H4 := ⟨(at1.step w4.st c4).a, c4, SlotsR.mono s' p4.base, l'⟩
    refine ⟨ρ', C4, _, q4, H04, at4, fun v5 z C5 H5 H05 p5 c5 r5 ⟨key, hk, hlen, q5⟩ => ?_⟩
    obtain ⟨vs, f1, f2, w6⟩ := (w4.step p5 c5).add (key := key) hL r5
    refine ⟨_, key, keyD_rep hk r4, f1, ?_, _, _, C5, H05, w6, q5⟩
    rw [List.length_zip, ← f2, Nat.min_self]
    exact Nat.lt_trans hlen (by decide)
  · have e : j = ds.length := by omega
    subst e
    rw [List.drop_length] at q2
    obtain ⟨H0', f1, f2, f3⟩ := w2.fin hL
    exact .inl ⟨y1.stop _ _ _ _ w2.st.base w2.c hP (Nat.le_refl _), k _ _ C2 H2 H0' (p1.trans c1 f1) f2 f3 q2.2⟩
theorem we_dc (own : List (Str × Nat)) (bd : Bind) (hc : X.calm = true) (hN : X.N.Nodup) (ok : BlkOk X.N X.env.scope scope own)
    (hg : ∀ (s : Shared) (H : Hp) (Ca : Addr) (cl : List (Str × Addr)) (fp : List Addr), PG (X.blk s H scope (compEnvC scope cl Ca X.env) fp) tg (bd.g X.K)) (hv : ∀ i ∈ bd.slots, i ∈ own.map (·.2))
    (h : WI T tg iter ρ C fun ds P C1 => DcW T scope bd kx vx (own.map (·.2)) ρ P Q ds [] [] C1) (hs : ∀ x, foldedSetIterable iter X.env x = pure x := by intro _; rfl) : Tr.WE T (.DictComp kx vx [⟨tg, iter, [], 0⟩] scope pos) ρ C Q := by
  exact PE.imp (pe_dc hc hN h ok hg (fun _ _ _ _ _ => pts_nil) (pe_someB T scope kx) (pe_someB T scope vx) hs) (read_dc own bd hv)
def dcB (P : Cells → Prop) (f g : D → ME) (Q : QE) : List D → List Key → List D → Cells → Prop
  | [], ks, ds, C => P C ∧ Q (.dic ks ds) C
  | d :: r, ks, ds, C => P C ∧ f d C fun y C2 => g d C2 fun z C3 => ∃ key, keyD y = some key ∧ ks.length < 100000 ∧ dcB P f g Q r (putKs ks key) (putD ks ds key z) C3
abbrev eDc (I : MI) (f g : D → ME) : ME := fun C Q => I C fun ds P C1 => dcB P f g Q ds [] [] C1
theorem dc_mirror {bd : Bind} {vs : List Nat} {P : Cells → Prop} {Q : QE} {f g : D → ME} (hb : BdOk bd (wipeR ρ vs) T scope kx f) (hb2 : BdOk bd (wipeR ρ vs) T scope vx g) : ∀ {ds : List D} {ks : List Key} {acc : List D} {C : Cells}, dcB P f g Q ds ks acc C → DcW T scope bd kx vx vs ρ P Q ds ks acc C
  | [], ks, acc, C, h => h
  | d :: r, ks, acc, C, ⟨hp, h⟩ => by
    obtain ⟨ρ', e1, h1⟩ := hb.run d C _ h
    refine ⟨hp, ρ', e1, fun s H Ca cl fp => (h1 s H Ca cl fp).mono fun y C2 q => ?_⟩
    obtain ⟨ρ2, e2, h2⟩ := hb2.run d C2 _ q
    rw [e1] at e2; cases e2
    exact fun s H Ca cl fp => (h2 s H Ca cl fp).mono fun z C3 ⟨key, hk, hl, q⟩ => ⟨key, hk, hl, dc_mirror hb hb2 q⟩
theorem se_dc {I : MI} {f g : D → ME} (own : List (Str × Nat)) (bd : Bind) (hc : X.calm = true) (hN : X.N.Nodup) (ok : BlkOk X.N X.env.scope scope own)
    (hg : ∀ (s : Shared) (H : Hp) (Ca : Addr) (cl : List (Str × Addr)) (fp : List Addr), PG (X.blk s H scope (compEnvC scope cl Ca X.env) fp) tg (bd.g X.K)) (hv : ∀ i ∈ bd.slots, i ∈ own.map (·.2))
    (hI : SI T tg iter ρ I) (hb : BdOk bd (wipeR ρ (own.map (·.2))) T scope kx f) (hb2 : BdOk bd (wipeR ρ (own.map (·.2))) T scope vx g) (hs : ∀ x, foldedSetIterable iter X.env x = pure x := by intro _; rfl) : SE T (.DictComp kx vx [⟨tg, iter, [], 0⟩] scope pos) ρ (eDc I f g) :=
  fun C Q q => we_dc own bd hc hN ok hg hv ((hI C _ q).mono fun ds P C1 h => dc_mirror hb hb2 h) hs
end
section
variable {X : Cx} {e : Expr} {es : List Expr} {p : Pos} {te : TE} {t : TA}
def tStar (K : W.Frag) (te : TE) (t : TA) : TA := fun σ H Q => te σ H fun x H1 => ∃ a xs, x = .ref a ∧ (SqL K H1 a xs ∨ SqT K H1 a xs) ∧ t σ H1 fun ys H2 => Q (xs ++ ys) H2
theorem pa_star (ha : PE X e te) (hr : PA X es t) (hs : starEach (.Starred e p :: es) X.env = (true, eval e X.env) :: starEach es X.env := by rfl) : PA X (.Starred e p :: es) (tStar X.K te t) := by
  refine ⟨fun pos pins s σ H Q I h => ?_⟩
  refine PySem.W.items_star (thn (ha.run pins s σ H _ I h) fun u s1 ⟨x, H1, I1, r1, a, xs, ex, hq, q1⟩ => ?_) hs
  subst ex
  obtain rfl : u = Value.ref a := r1
  have fin : ∀ {T : String} {o : Obj} {its : List Value} {n : Nat}, (T = "list" ∨ T = "tuple") → s1.heap.get? a = some o → o.cls = .type T → o.data = .seq its.toArray n → Vals xs its → its.length ≤ sizeLine →
      PySem.W.StarOf (model X.prog X.w) X.A X.xe (.ref a) (fun here s₂ => wpAny (model X.prog X.w) X.A (spliced (backTo pos (starEach es X.env))) (fun vs s₃ => AP X pins σ Q (here ++ vs) s₃) X.xe s₂) s1 := fun {T o its n} hT ho hc hd rv hz => by
    have hT' : s1.TypeIs (.ref a) T := ⟨o, ho, hc⟩
    have z : wpAny (model X.prog X.w) X.A (collect (.ref a)) (fun here s₂ => wpAny (model X.prog X.w) X.A (spliced (backTo pos (starEach es X.env))) (fun vs s₃ => AP X pins σ Q (here ++ vs) s₃) X.xe s₂) X.xe s1 := by
      refine wpAny_collect_seq a hT ho hc hd (fun h' hk => ?_) (by rw [List.size_toArray]; exact hz)
      have I2 : Inv X pins σ H1 { s1 with heap := h' } := I1.kept (t' := s1.toks) hk
      exact thn (hr.run pos pins _ σ H1 _ I2 q1) fun us s2 ⟨ys, H2, I3, r2, q2⟩ => ⟨xs ++ ys, H2, I3, rv.append r2, q2⟩
    unfold PySem.W.StarOf notIterableAtAll
    rcases hT with rfl | rfl
    · exact wpAny_bind (wpAny_specialOf hT' PySem.F.slot_list_iter.lookup (wpAny_pure ⟨rfl, z⟩))
    · exact wpAny_bind (wpAny_specialOf hT' PySem.F.slot_tuple_iter.lookup (wpAny_pure ⟨rfl, z⟩))
  rcases hq with hq | hq
  · obtain ⟨its, rv, ⟨o, n, ho, hc, hdn, hd⟩, hz⟩ := I1.list hq
    exact fin (.inl rfl) ho hc hd rv (by rw [← rv.length]; exact hz)
  · obtain ⟨its, rv, ⟨o, ho, hc, n, hd⟩, hz⟩ := I1.tuple hq
    exact fin (.inr rfl) ho hc hd rv (by rw [← rv.length]; exact hz)
end
theorem seqD_at {K : W.Frag} {H0 H : Hp} {v : V} {ds : List D} (c : CellsR K H0 C H) (r : Rep K H0 d v) (h : SeqD C d ds) : ∃ a vs, v = .ref a ∧ (SqL K H a vs ∨ SqT K H a vs) ∧ Reps K H0 ds vs := by
  rcases h with h | rfl
  · obtain ⟨a, vs, h1, h2, h3⟩ := lst_at c r h
    exact ⟨a, vs, h1, .inl h2, h3⟩
  · obtain ⟨a, vs, h1, h2, h3⟩ := r
    exact ⟨a, vs, h1, .inr (Same.sqT c.same h2), h3⟩
theorem wa_star {p : Pos} {Q : QA} (h : Tr.WE T a ρ C fun d C1 => ∃ xs, SeqD C1 d xs ∧ Tr.WA T es ρ C1 fun ds C2 => Q (xs ++ ds) C2) (hs : starEach (.Starred a p :: es) X.env = (true, eval a X.env) :: starEach es X.env := by rfl) : Tr.WA T (.Starred a p :: es) ρ C Q :=
  PA.imp (pa_star h (pa_some T ρ es) hs) fun σ H R ⟨H0, at_, k⟩ => ⟨H0, at_, fun v d C1 H1 H01 p1 c1 r1 ⟨xs, hx, q1⟩ => by
    obtain ⟨a, vs, e, hq, rv⟩ := seqD_at c1 r1 hx
    exact ⟨a, vs, e, hq, C1, _, q1, H01, at_.step p1 c1, fun vs2 ds C2 H2 H02 p2 c2 r2 q2 => k _ _ C2 H2 H02 (p1.trans c1 p2) c2 (Reps.append (rv.mono p2.base) r2) q2⟩⟩
abbrev aStar (A : ME) (B : MA) : MA := fun C Q => A C fun d C1 => ∃ xs, SeqD C1 d xs ∧ B C1 fun ds C2 => Q (xs ++ ds) C2
theorem sa_star {p : Pos} (h : SE T a ρ A) (g : SA T es ρ AS) (hs : starEach (.Starred a p :: es) X.env = (true, eval a X.env) :: starEach es X.env := by rfl) : SA T (.Starred a p :: es) ρ (aStar A AS) :=
  fun C Q q => wa_star ((h C _ q).mono fun d C1 ⟨xs, hx, h1⟩ => ⟨xs, hx, g C1 _ h1⟩) hs
def pII (g : Int → Int → Int) : D → D → ME
  | .int i, .int j => fun C Q => Q (.int (g i j)) C
  | _, _ => fun _ _ => False
section
variable {scope : Scope} {own : List (Str × Nat)} {tg iter : Expr} {bd : Bind}
end
end
end Tr

set_option maxHeartbeats 4000000
namespace Tr
open PySem L2 PySem.Spec PyProof.Rows
def TrD (C : Cells) (d : D) (k : Bool) : Prop := match d with
  | .non => k = false
  | .bl b => k = b
  | .int i => k = (i != 0)
  | .str s => s.length ≤ 100000 ∧ k = ((s.length : Int) != 0)
  | d => ∃ ds, SeqD C d ds ∧ k = !ds.isEmpty
theorem reps_emp {K : W.Frag} {H : Hp} {ds : List D} {vs : List V} (r : Reps K H ds vs) : (!ds.isEmpty) = !vs.isEmpty := by
  have h := r.length
  cases ds <;> cases vs <;> simp_all
theorem trD_seq {K : W.Frag} {H0 H : Hp} {C : Cells} {d : D} {v : V} {k : Bool} (c : CellsR K H0 C H) (r : Rep K H0 d v) (h : ∃ ds, SeqD C d ds ∧ k = !ds.isEmpty) : TruV K v H k := by
  obtain ⟨ds, hs, rfl⟩ := h
  obtain ⟨a, vs, rfl, hq, rr⟩ := seqD_at c r hs
  rw [reps_emp rr]
  exact hq.elim (fun h => .inl ⟨_, h, rfl⟩) fun h => .inr (.inl ⟨_, h, rfl⟩)
theorem trD_V {K : W.Frag} {H0 H : Hp} {C : Cells} {d : D} {v : V} {k : Bool} (c : CellsR K H0 C H) (r : Rep K H0 d v) (h : TrD C d k) : TruV K v H k := by
  cases d with
  | non => cases r; exact h
  | bl b => cases r; exact h
  | int i => cases r; exact h
  | str s => cases r; exact ⟨by rw [sizeLine_eq]; exact Nat.le_trans h.1 (by decide), h.2⟩
  | lst ds => exact trD_seq c r h
  | tup ds => exact trD_seq c r h
  | dic ks ds => exact trD_seq c r h
  | ins Cl ns ds => exact trD_seq c r h
  | raw w => exact trD_seq c r h
  | tpn ds => exact trD_seq c r h
section
variable {X : Cx} {T : TX X} {ρ : Rho} {C : Cells} {e a b : Expr} {es : List Expr} {pos : Pos} {A B : ME}
theorem we_orV {Q : QE} (h : WE T a ρ C fun d C1 => ∃ k, TrD C1 d k ∧ if k = true then Q d C1 else WE T (.BoolOp .Or (b :: es) pos) ρ C1 Q) : WE T (.BoolOp .Or (a :: b :: es) pos) ρ C Q :=
  PE.imp (pe_orT h (pe_some T ρ _)) fun σ H R ⟨H0, at_, k⟩ => ⟨H0, at_, fun v d C' H' H0' p c r ⟨j, e, q⟩ => by
    refine ⟨j, trD_V c r e, ?_⟩
    cases j with
    | false => exact ⟨C', Q, q, H0', at_.step p c, k.after p c fun _ _ z => z⟩
    | true => exact k _ d C' H' H0' p c r q⟩
abbrev eOrV (A B : ME) : ME := fun C Q => A C fun d C1 => ∃ k, TrD C1 d k ∧ if k = true then Q d C1 else B C1 Q
theorem se_orV (h : SE T a ρ A) (g : SE T (.BoolOp .Or (b :: es) pos) ρ B) : SE T (.BoolOp .Or (a :: b :: es) pos) ρ (eOrV A B) :=
  fun C Q q => we_orV ((h C _ q).mono fun d C1 ⟨k, e, h1⟩ => ⟨k, e, by
    cases k with
    | true => exact h1
    | false => exact g C1 Q h1⟩)
end
end Tr
namespace Tr
open PySem L2 PySem.Spec PyProof.Rows
theorem tupN_made {X : Cx} : CallR X (.type "tuple") (fun vs H Q => ∃ a xs, vs = [.ref a] ∧ SqL X.K H a xs ∧ ∀ z o, H z = none → o.dict = none → Q (.ref z) (upd H z (.frz o (.tup xs)))) := by
  rintro pins s σ H vs us Q I r ⟨a, xs, rfl, hq, q⟩
  obtain ⟨u, rfl, ru⟩ := vals1 r
  cases ru
  obtain ⟨its, rv, pl, hz⟩ := I.list hq
  refine call_tuple_list pl.isList (fun h' kp => ?_) (by rw [List.size_toArray, ← rv.length]; exact hz)
  have J : Inv X pins σ H { s with heap := h' } := Inv.kept (t' := s.toks) I kp
  let ob : Obj := { cls := .type "tuple", data := .seq its.toArray }
  have J2 : Inv X pins σ (upd H h'.objs.size (.frz ob (.tup xs))) { s with heap := h'.push ob } := J.laid (t' := s.toks) (fun b o e => Heap.get?_push_of_some _ e) (Nat.le_refl _)
    (show ObjOk X.prog X.w _ _ _ (.frz ob (.tup xs)) from ⟨Heap.get?_push_size _ rfl, hz, its, rv, IsTup.new _ _⟩)
  exact ⟨.ref h'.objs.size, _, J2, rfl, q _ ob (J.hok.fresh (Nat.le_refl _)) rfl⟩
theorem nd_sq {K : W.Frag} {H : Hp} {a : Addr} {vs : List V} (h : NdT H a vs) : SqT K H a vs := let ⟨o, h1, _⟩ := h; .inl (.inr ⟨o, h1⟩)
theorem NdT.mono {H H' : Hp} {a : Addr} {vs : List V} (e : Same H H') (h : NdT H a vs) : NdT H' a vs := let ⟨o, h1, h2⟩ := h; ⟨o, e _ _ h1, h2⟩
def wk : D → D
  | .tpn ds => .tup ds
  | d => d
theorem rep_wk {K : W.Frag} {H : Hp} {d : D} {v : V} (r : Rep K H d v) : Rep K H (wk d) v := by
  unfold wk
  split
  · obtain ⟨a, vs, e, h, rr⟩ := r
    exact ⟨a, vs, e, nd_sq h, rr⟩
  · exact r
theorem pe_ndM {X : Cx} {o e : Expr} {es : List Expr} {apos cpos : Pos} {m : Str} {id : String} {r : V → List V → Hp → VK → Prop} {to : TE} {t : TA} (sl : Slot "tuple" m id) (hty : typeOf (.builtin id) = pure (.type "method_descriptor")) (hm : MtR X id r) (ho : PE X o to) (ha : PA X (e :: es) t)
    (hbase : attributeBase o m X.env (eval o X.env) = eval o X.env) (hline : (apos.endLine == cpos.line) = true) (hs : starEach (e :: es) X.env = (false, eval e X.env) :: starEach es X.env)
    (hfew : ((backTo cpos (starEach (e :: es) X.env)).all (fun x => !x.1) && (backToKw cpos (keywordEach [] X.env)).all (fun x => x.1.isSome) && decide ((e :: es).length + ([] : List Keyword).length + (if ([] : List Keyword).isEmpty then 0 else 1) < 30)) = true)
    (hplain : (backTo cpos (starEach es X.env)).any (·.1) = false) : PE X (.Call (.Attribute o m apos) (e :: es) [] cpos) (fun σ H Q => to σ H fun x H1 => (∃ a vs, x = .ref a ∧ NdT H1 a vs) ∧ t σ H1 fun xs H2 => r x xs H2 Q) := by
  refine ⟨fun pins s σ H Q I h => wpAny_Call_method_late hbase hfew hline rfl (thn (ho.run pins s σ H _ I h) ?_)⟩
  rintro v s1 ⟨x, H1, J, r1, ⟨a, vs, rfl, ob, hk, hd⟩, q1⟩
  cases r1
  obtain ⟨g, _, its, _, o2, g2, hc, _⟩ := J.hok a _ hk
  rw [g] at g2
  cases g2
  refine ⟨"tuple", id, F.plainAttrs_tuple, sl, hty, ⟨ob, g, hc⟩, fun b eb => (by cases eb; exact ⟨ob, g, hd⟩), ?_⟩
  have hA := ha.run cpos pins s1 σ H1 _ J q1
  rw [hs] at hA
  rw [hs]
  refine Calls.callWith_builtin (show (false || (backTo cpos (starEach es X.env)).any (·.1)) = false by rw [hplain]; rfl) (Calls.evalArgs_plain (thn hA ?_))
  exact fun us s2 ⟨ws, H2, J2, r2, q2⟩ => hm pins s2 σ H2 (.ref a) ws _ us Q J2 rfl r2 q2
section
variable {X : Cx} {T : TX X} {ρ : Rho} {C : Cells} {o a e : Expr} {apos cpos pos : Pos} {A B : ME}
theorem cw_tupleN {d : D} {ds : List D} {Q : QE} (h : LstD C d ds) (q : Q (.tpn ds) C) : CW T (.type "tuple") [d] C Q :=
  CallR.imp tupN_made fun xs H R ⟨H0, c, r, k⟩ => by
    obtain ⟨v, e1, r1⟩ := r.one
    subst e1
    obtain ⟨a, vs, e2, h2, h3⟩ := lst_at c r1 h
    subst e2
    refine ⟨a, vs, rfl, h2, fun z o hl hd => ?_⟩
    obtain ⟨p2, c2⟩ := stp_new (o := .frz o (.tup vs)) c hl
    exact k _ (.tpn ds) C _ _ p2 c2 ⟨z, vs, rfl, ⟨o, upd_same, hd⟩, h3.mono p2.base⟩ q
def pTupleN (d : D) : ME := fun C Q => (∃ ds, LstD C d ds ∧ Q (.tpn ds) C) ∨ (∃ ds, d = .tpn ds ∧ Q (.tpn ds) C) ∨ pTuple1 d C Q
theorem cw_tupleS {ds : List D} {Q : QE} (q : Q (.tpn ds) C) : CW T (.type "tuple") [.tpn ds] C Q :=
  CallR.imp call_tuple_of fun xs H R ⟨H0, c, r, k⟩ => by
    obtain ⟨v, e1, r1⟩ := r.one
    subst e1
    obtain ⟨a, vs, rfl, h2, h3⟩ := r1
    exact ⟨a, vs, rfl, .inr ⟨nd_sq (h2.mono c.same), k.here (d := .tpn ds) c ⟨a, vs, rfl, h2, h3⟩ q⟩⟩
theorem on_tupleN (ds : List D) (C : Cells) (Q : QE) (h : on1 pTupleN ds C Q) : CW T (.type "tuple") ds C Q := by
  match ds, h with
  | [d], .inl ⟨xs, h1, h2⟩ => exact cw_tupleN h1 h2
  | [d], .inr (.inl ⟨xs, h1, h2⟩) => subst h1; exact cw_tupleS h2
  | [d], .inr (.inr h) => exact pTuple_ok [d] C Q h
def pIndexT (od d : D) : ME := fun C Q => ∃ (ys : List Str) (z : Str) (j : Nat), od = .tpn (ys.map D.str) ∧ d = .str z ∧ ys[j]? = some z ∧ (∀ m, m < j → ys[m]? ≠ some z) ∧ Q (.int (j : Nat)) C
abbrev eT1 (A B : ME) (O : D → D → ME) : ME := fun C Q => A C fun od C1 => (∃ ds, od = .tpn ds) ∧ B C1 fun d C2 => O od d C2 Q
theorem se_indexT (ho : SE T o ρ A) (ha : SE T a ρ B)
    (hbase : attributeBase o "index" X.env (eval o X.env) = eval o X.env := by rfl) (hline : (apos.endLine == cpos.line) = true := by rfl) (hs : starEach [a] X.env = (false, eval a X.env) :: starEach [] X.env := by rfl)
    (hfew : ((backTo cpos (starEach [a] X.env)).all (fun x => !x.1) && (backToKw cpos (keywordEach [] X.env)).all (fun x => x.1.isSome)
      && decide (([a] : List Expr).length + ([] : List Keyword).length + (if ([] : List Keyword).isEmpty then 0 else 1) < 30)) = true := by rfl) (hplain : (backTo cpos (starEach [] X.env)).any (·.1) = false := by rfl) :
    SE T (.Call (.Attribute o "index" apos) [a] [] cpos) ρ (eT1 A B pIndexT) := fun C Q q => by
  have h : Tr.WE T o ρ C fun od C1 => (∃ ds, od = .tpn ds) ∧ Tr.WE T a ρ C1 fun d C2 => pIndexT od d C2 Q := (ho C _ q).mono fun od C1 ⟨h1, h2⟩ => ⟨h1, ha C1 _ h2⟩
  refine PE.imp (pe_ndM F.slot_tuple_index F.type_tuple_index mt_tup_index h (pa_cons (pe_some T ρ a) pa_nil hs) hbase hline hs hfew hplain) fun σ H R ⟨H0, at_, k⟩ => ⟨H0, at_, fun v od C1 H1 H01 p1 c1 r1 ⟨⟨ds, e1⟩, hw⟩ => ?_⟩
  subst e1
  obtain ⟨z, vs, rfl, hq, hr⟩ := r1
  refine ⟨⟨z, vs, rfl, hq.mono c1.same⟩, C1, _, hw, H01, at_.step p1 c1, fun v2 d C2 H2 H02 p2 c2 r2 ⟨ys, s, j, e2, e3, h1, h2, q⟩ => ?_⟩
  cases e2
  subst e3
  cases r2
  obtain rfl := Reps.of_strs hr
  exact ⟨z, ys, s, j, rfl, rfl, nd_sq ((hq.mono p2.base).mono c2.same), h1, h2, k _ (.int (j : Nat)) _ _ _ (p1.trans c1 p2) c2 rfl q⟩
abbrev eWk (A : ME) : ME := fun C Q => A C fun d C1 => Q (wk d) C1
theorem se_wk (h : SE T e ρ A) : SE T e ρ (eWk A) := fun C Q q => PE.imp (h C _ q) fun σ H R ⟨H0, a, k⟩ => ⟨H0, a, fun v d C' H' H0' p c r q => k v (wk d) C' H' H0' p c (rep_wk r) q⟩
def pFldW (K : W.Frag) (m : Str) (d : D) : ME := fun C Q => pFld K m d C fun e C1 => Q (wk e) C1
theorem se_fldW {m : Str} (h : SE T e ρ A) (hb : attributeBase e m X.env (eval e X.env) = eval e X.env := by rfl) : SE T (.Attribute e m pos) ρ (eApp A (pFldW X.K m)) := fun C Q q => se_wk (se_fld h hb) C Q q
theorem s_fldW {K : W.Frag} {d e' : D} {Cl : Addr} {ns : List Str} {ds : List D} {m : Str} {Q : QE} (h1 : InsD C d Cl ns ds) (h2 : Cls K Cl) (h3 : NoAttr K Cl m) (h4 : (ns.zip ds).lookup m = some e') (h : Q (wk e') C) : pFldW K m d C Q := ⟨_, _, _, _, h1, h2, h3, h4, h⟩
theorem s_tupleN {d : D} {ds : List D} {Q : QE} (h : LstD C d ds) (q : Q (.tpn ds) C) : on1 pTupleN [d] C Q := .inl ⟨ds, h, q⟩
theorem s_tupleS {ds : List D} {Q : QE} (q : Q (.tpn ds) C) : on1 pTupleN [.tpn ds] C Q := .inr (.inl ⟨ds, rfl, q⟩)
theorem s_tupleN' {d : D} {Q : QE} (h : on1 pTuple1 [d] C Q) : on1 pTupleN [d] C Q := .inr (.inr h)
theorem s_indexT {ys : List Str} {z : Str} {j : Nat} {Q : QE} (h1 : ys[j]? = some z) (h2 : ∀ m, m < j → ys[m]? ≠ some z) (q : Q (.int (j : Nat)) C) : pIndexT (.tpn (ys.map D.str)) (.str z) C Q := ⟨ys, z, j, rfl, rfl, h1, h2, q⟩
end
end Tr

set_option maxHeartbeats 4000000
namespace TupNe
open PySem PySem.SeqAt GQ
open AutoSeq1 (wpAny_loadPart')
open MeetsSeq MeetsSeq2 MeetsSeq3 SeqRoads2
section
variable {prog : Program} {w : World} {A : Around} {R : Result → Shared → Prop}
end
section
variable {prog : Program} {w : World} {A : Around} {E : Value → Shared → Prop} {s : Shared}
end
end TupNe
namespace Tr
open PySem L2 PySem.Spec PyProof.Rows
section
variable {X : Cx} {T : TX X} {C : Cells} {Q : QE} {k : Nat} {f Cl : Addr} {fd : FuncData} {ps : List Str} {F : FS}
end
end Tr

set_option maxHeartbeats 4000000
namespace Tr
open PySem L2 PySem.Spec PyProof.Rows PySem.W
section
variable {K : W.Frag} {C : Addr} {M : Model}
end
section
variable {prog : Program} {w : World} {A : Around} {E : Value → Shared → Prop} {s : Shared} {K : W.Frag} {L : Addr} {m : Str → Option Value} {x C f : Addr} {ox : Obj} {od : Option Obj} {h₀ : Heap}
end
section
variable {X : Cx} {T : TX X} {C : Cells} {Q : QE} {k : Nat} {f Cl : Addr} {fd : FuncData} {ps : List Str} {F : FS} {d1 d2 : D} {ns ns2 : List Str} {ds ds2 : List D}
end
section
variable {X : Cx} {T : TX X} {C : Cells} {ρ : Rho} {N : TEnds} {tgs : List Expr} {pos : Pos} {body : List Stmt}
end
end Tr

set_option maxHeartbeats 4000000
namespace Tr
open PySem L2 PySem.Spec PyProof.Rows
structure PMc (X : Cx) (cs : List MatchCase) (z : Str) (t : TS) : Prop where
  run : ∀ (pins : List (Addr × Obj)) (s : Shared) (σ : L2.St) (H : Hp) (Dn : Ends) (u : Value) (first : Bool), Inv X pins σ H s → RelV (.str z) u → t Dn σ H → wpAny (model X.prog X.w) X.A (matchCases cs X.env u first) (L2.SP X pins Dn) X.xe s
section
variable {X : Cx} {T : TX X} {ρ : Rho} {C : Cells} {N : TEnds} {e a b o i : Expr} {pos cp mp tpos apos cpos : Pos} {body rest : List Stmt} {cs : List MatchCase} {z k : Str} {t : TS} {A B E : ME} {m m1 mm : MB} {Q : QE}
variable {tgs : List Expr} {ds : List D} {d : D}
end
end Tr

set_option maxHeartbeats 4000000
namespace Tr
open PySem L2 PySem.Spec PyProof.Rows
section
variable {X : Cx} {T : TX X} {ρ : Rho} {C : Cells} {tg e : Expr} {t : TE} {A : ME}
end
end Tr

set_option maxHeartbeats 4000000
namespace Tr
open PySem L2 PySem.Spec PyProof.Rows
section
variable {X : Cx} {T : TX X} {ρ : Rho} {C : Cells} {N : TEnds} {pos pos' np : Pos} {x : Str} {c : Value} {body suite : List Stmt} {b₀ : Stmt}
end
end Tr

set_option maxHeartbeats 4000000
namespace LstNe
open PySem PySem.SeqAt GQ
open AutoSeq1 (wpAny_loadPart')
open MeetsSeq MeetsSeq2 MeetsSeq3 SeqRoads2
section
variable {prog : Program} {w : World} {A : Around} {R : Result → Shared → Prop}
end
section
variable {prog : Program} {w : World} {A : Around} {E : Value → Shared → Prop} {s : Shared}
end
end LstNe
namespace Tr
open PySem L2 PySem.Spec PyProof.Rows
section
variable {X : Cx} {T : TX X} {C : Cells} {Q : QE} {k : Nat} {f Cl : Addr} {fd : FuncData} {ps : List Str} {F : FS} {d1 d2 : D}
end
end Tr

set_option maxHeartbeats 4000000
namespace Tr
open PySem L2 PySem.Spec PyProof.Rows
section
variable {X : Cx} {T : TX X} {ρ : Rho} {C : Cells} {Q : QE} {o : Expr} {pos : Pos} {k : Nat} {g Cl : Addr} {fd : FuncData} {ps : List Str} {F : FS} {m : Str} {A : ME} {Xq : QX}
end
section
variable {X : Cx} {T : TX X} {ρ : Rho} {N : TEnds} {pos : Pos} {x : Str} {d : D} {ds : List D} {tgs : List Expr} {body : List Stmt} {mm : MB}
end
end Tr

set_option maxHeartbeats 4000000
namespace Tr
open PySem L2 PySem.Spec PyProof.Rows
section
variable {X : Cx} {T : TX X} {ρ : Rho} {C : Cells} {Q : QE} {a b : Expr} {p pos : Pos} {A B : ME}
end
end Tr

set_option maxHeartbeats 4000000
namespace Tr
open PySem L2 PySem.Spec PyProof.Rows
section
variable {X : Cx} {T : TX X} {ρ : Rho} {C : Cells} {N : TEnds} {d : D} {body : List Stmt} {tgs : List Expr} {pos : Pos}
def mUn6 (d : D) (f : D → D → D → D → D → D → MB) : MB := match d with
  | .tup [x, y, z, u, v, w] => f x y z u v w
  | _ => fun _ => False
theorem s_mun6 {d0 d1 d2 d3 d4 d5 : D} {f : D → D → D → D → D → D → MB} (h : f d0 d1 d2 d3 d4 d5 C) : mUn6 (.tup [d0, d1, d2, d3, d4, d5]) f C := h
end
end Tr

set_option maxHeartbeats 4000000
namespace Tr
open PySem PySem.Spec PyProof.Rows
theorem zip_len_none : typeLookup (.type "zip") "__len__" = pure none := by rw [typeLookup_type, builtinLookup_eq_fast]; kernel_rfl
theorem zip_hint_none : typeLookup (.type "zip") "__length_hint__" = pure none := by rw [typeLookup_type, builtinLookup_eq_fast]; kernel_rfl
structure ZipAt (z TI TO i1 i2 l1 l2 S : Addr) (xs ys : Array Value) (i : Nat) (h : Heap) : Prop where
  ti : IsPair h TI (.ref i1) (.ref i2)
  a1 : h.IsListIter i1 l1 i
  a2 : h.IsListIter i2 l2 i
  x1 : h.IsList l1 xs
  x2 : h.IsList l2 ys
  lv : ∃ o, h.get? TO = some o
  zz : (IsZip h z TI TO .none ∧ ∃ a b, IsPair h TO a b) ∨ ∃ (T : Addr) (f : Bool) (o : Obj), IsZipHeld h z TI TO T f ∧ h.get? T = some o ∧ T ≠ z ∧ T ≠ i1 ∧ T ≠ i2 ∧ T ≠ S
structure OffZ (z TI TO i1 i2 l1 l2 S : Addr) : Prop where
  z : z ≠ S
  ti : TI ≠ S
  to : TO ≠ S
  i1 : i1 ≠ S
  i2 : i2 ≠ S
  l1 : l1 ≠ S
  l2 : l2 ≠ S
theorem ZipAt.but {z TI TO i1 i2 l1 l2 S : Addr} {xs ys : Array Value} {i : Nat} {h h' : Heap} (f : OffZ z TI TO i1 i2 l1 l2 S) (s : ZipAt z TI TO i1 i2 l1 l2 S xs ys i h) (k : ∀ b o, b ≠ S → h.get? b = some o → h'.get? b = some o) : ZipAt z TI TO i1 i2 l1 l2 S xs ys i h' := by
  refine ⟨k _ _ f.ti s.ti, s.a1.at fun o e => k _ o f.i1 e, s.a2.at fun o e => k _ o f.i2 e, s.x1.at fun o e => k _ o f.l1 e, s.x2.at fun o e => k _ o f.l2 e, s.lv.elim fun o e => ⟨o, k _ o f.to e⟩, ?_⟩
  rcases s.zz with ⟨q, a, b, q2⟩ | ⟨T, g, o, q1, q2, q3, q4, q5, q6⟩
  · exact .inl ⟨k _ _ f.z q, a, b, k _ _ f.to q2⟩
  · exact .inr ⟨T, g, o, k _ _ f.z q1, k _ _ q6 q2, q3, q4, q5, q6⟩
def Given2 (z TO i1 i2 S : Addr) (xs ys : Array Value) (h : Heap) (acc : Array Value) (i : Nat) : Prop :=
  acc.size = i ∧ ∀ j, j < i → ∃ (T : Addr) (x y : Value), acc[j]? = some (.ref T) ∧ xs[j]? = some x ∧ ys[j]? = some y ∧ IsPair h T x y ∧ T ≠ z ∧ T ≠ TO ∧ T ≠ i1 ∧ T ≠ i2 ∧ T ≠ S
theorem Given2.but {z TO i1 i2 S : Addr} {xs ys : Array Value} {i : Nat} {h h' : Heap} {acc : Array Value} (g : Given2 z TO i1 i2 S xs ys h acc i) (k : ∀ b o, b ≠ z → b ≠ TO → b ≠ i1 → b ≠ i2 → b ≠ S → h.get? b = some o → h'.get? b = some o) : Given2 z TO i1 i2 S xs ys h' acc i :=
  ⟨g.1, fun j hj => by
    obtain ⟨T, x, y, q1, q2, q3, q4, n1, n2, n3, n4, n5⟩ := g.2 j hj
    exact ⟨T, x, y, q1, q2, q3, k _ _ n1 n2 n3 n4 n5 q4, n1, n2, n3, n4, n5⟩⟩
section
variable {prog : Program} {w : World} {A : Around} {E : Value → Shared → Prop}
theorem zip_gives {s : Shared} {z TI TO i1 i2 l1 l2 S : Addr} {xs ys : Array Value} {i : Nat} {x y : Value} {Q : Option Value → Shared → Prop} (D : ZipApart z TI TO i1 i2 l1 l2) (st : ZipAt z TI TO i1 i2 l1 l2 S xs ys i s.heap) (hS : S < s.heap.objs.size) (ex : xs[i]? = some x) (ey : ys[i]? = some y)
    (hQ : ∀ h', ZipAt z TI TO i1 i2 l1 l2 S xs ys (i + 1) h' → IsPair h' s.heap.objs.size x y → (∀ c o, c ≠ z → c ≠ TO → c ≠ i1 → c ≠ i2 → s.heap.get? c = some o → h'.get? c = some o) → Q (some (.ref s.heap.objs.size)) { s with heap := h' }) :
    wpAny (model prog w) A (pyNext (.ref z)) Q E s := by
  obtain ⟨ti, a1, a2, x1, x2, lv, zz⟩ := st
  have lt : ∀ {c o}, s.heap.get? c = some o → s.heap.objs.size ≠ c := fun e => Nat.ne_of_gt (Heap.lt_size e)
  have n1 : s.heap.objs.size ≠ i1 := let ⟨_, e, _⟩ := a1; lt e
  have n2 : s.heap.objs.size ≠ i2 := let ⟨_, e, _⟩ := a2; lt e
  rcases zz with ⟨q, a, b, q2⟩ | ⟨T, g, o, q1, q2, q3, q4, q5, q6⟩
  · exact wpAny_pyNext_zip_item D q ti q2 a1 a2 x1 x2 ex ey fun h' r1 r2 r3 r4 r5 r6 k => hQ h' ⟨k _ _ D.TIz D.TITO D.TIi1 D.TIi2 ti, r3, r4, x1.at fun o e => k _ o D.l1z D.l1TO D.l1i1 D.l1i2 e, x2.at fun o e => k _ o D.l2z D.l2TO D.l2i1 D.l2i2 e, ⟨_, r2⟩,
      .inr ⟨s.heap.objs.size, false, _, r1, r5, lt q, n1, n2, Nat.ne_of_gt hS⟩⟩ r5 k
  · exact wpAny_pyNext_zip_item_held D q1 q2 ti a1 a2 x1 x2 ex ey fun h' r1 r3 r4 r5 r6 k => hQ h' ⟨k _ _ D.TIz D.TIi1 D.TIi2 ti, r3, r4, x1.at fun o e => k _ o D.l1z D.l1i1 D.l1i2 e, x2.at fun o e => k _ o D.l2z D.l2i1 D.l2i2 e, lv.elim fun o e => ⟨o, k _ o D.TOz D.TOi1 D.TOi2 e⟩,
      .inr ⟨T, true, o, r1, k _ _ q3 q4 q5 q2, q3, q4, q5, q6⟩⟩ r5 fun c o c1 _ c3 c4 e => k c o c1 c3 c4 e
theorem zip_over {s : Shared} {z TI TO i1 i2 l1 l2 S : Addr} {xs ys : Array Value} {i : Nat} {Q : Option Value → Shared → Prop} (hh : A.handled = none) (D : ZipApart z TI TO i1 i2 l1 l2) (st : ZipAt z TI TO i1 i2 l1 l2 S xs ys i s.heap) (hend : xs[i]? = none ∨ ys[i]? = none)
    (hQ : ∀ h', (∀ c o, c ≠ z → c ≠ TO → c ≠ i1 → c ≠ i2 → s.heap.get? c = some o → h'.get? c = some o) → Q none { s with heap := h' }) :
    wpAny (model prog w) A (pyNext (.ref z)) Q E s := by
  obtain ⟨ti, a1, a2, x1, x2, lv, zz⟩ := st
  rcases zz with ⟨q, a, b, q2⟩ | ⟨T, g, o, q1, q2, q3, q4, q5, q6⟩
  · exact wpAny_pyNext_zip_end hh D q ti q2 a1 a2 x1 x2 hend hQ
  · exact wpAny_pyNext_zip_end_held hh D q1 q2 ti a1 a2 x1 x2 hend fun h' k => hQ h' fun c o c1 _ c3 c4 e => k c o c1 c3 c4 e
theorem zip_fill {R : Result → Shared → Prop} {z TI TO i1 i2 l1 l2 S : Addr} {xs ys : Array Value} {n : Nat} (hh : A.handled = none) (D : ZipApart z TI TO i1 i2 l1 l2) (f : OffZ z TI TO i1 i2 l1 l2 S) (h1 : xs.size = n) (h2 : ys.size = n) (hs : n ≤ 10000) (res : Value) :
    ∀ (k i : Nat) (s : Shared) (acc : Array Value) (c : Nat), n - i = k → i ≤ n → ZipAt z TI TO i1 i2 l1 l2 S xs ys i s.heap → s.heap.get? S = some { cls := .type "list", dict := none, data := .seq acc c, slots := #[] } → Given2 z TO i1 i2 S xs ys s.heap acc i →
      (∀ h' acc' c', (∀ b o, b ≠ z → b ≠ TO → b ≠ i1 → b ≠ i2 → b ≠ S → s.heap.get? b = some o → h'.get? b = some o) → h'.get? S = some { cls := .type "list", dict := none, data := .seq acc' c', slots := #[] } → Given2 z TO i1 i2 S xs ys h' acc' n → R (.ok (.ret res)) { s with heap := h' }) →
      codeAny (model prog w) A (.builtin "list.extend.loop" ⟨[.ref S, .ref z, res], []⟩) R s := by
  intro k
  induction k with
  | zero =>
    intro i s acc c hk hi st hS gv hR
    obtain rfl : i = n := by omega
    refine codeAny_builtin F.entry_extend_loop ?_; rw [Around.under_plainId F.plain_extend_loop _]
    show wpAny _ A.in1 (pyNext (.ref z) >>= _) _ _ s
    refine wpAny_bind (zip_over hh D st (.inl (Array.getElem?_eq_none (by omega))) fun h' hk => wpAny_pure ?_)
    exact hR h' acc c (fun b o b1 b2 b3 b4 _ e => hk b o b1 b2 b3 b4 e) (hk _ _ f.z.symm f.to.symm f.i1.symm f.i2.symm hS) (gv.but fun b o b1 b2 b3 b4 _ e => hk b o b1 b2 b3 b4 e)
  | succ k ih =>
    intro i s acc c hk hi st hS gv hR
    have hlt : i < n := by omega
    have ex := Array.getElem?_eq_getElem (xs := xs) (i := i) (by omega)
    have ey := Array.getElem?_eq_getElem (xs := ys) (i := i) (by omega)
    refine codeAny_builtin F.entry_extend_loop ?_; rw [Around.under_plainId F.plain_extend_loop _]
    show wpAny _ A.in1 (pyNext (.ref z) >>= _) _ _ s
    refine wpAny_bind (zip_gives D st (Heap.lt_size hS) ex ey fun h1 st1 pr1 k1 => ?_)
    have hS1 := k1 _ _ f.z.symm f.to.symm f.i1.symm f.i2.symm hS
    have big : ∀ {c o}, s.heap.get? c = some o → s.heap.objs.size ≠ c := fun e => Nat.ne_of_gt (Heap.lt_size e)
    have nz : s.heap.objs.size ≠ z := by rcases st.zz with ⟨q, _⟩ | ⟨_, _, _, q, _⟩ <;> exact big q
    have n1 : s.heap.objs.size ≠ i1 := let ⟨_, e, _⟩ := st.a1; big e
    have n2 : s.heap.objs.size ≠ i2 := let ⟨_, e, _⟩ := st.a2; big e
    have nO : s.heap.objs.size ≠ TO := let ⟨_, e⟩ := st.lv; big e
    show wpAny _ A.in1 (updateSeq S (·.push (.ref s.heap.objs.size)) >>= _) _ _ _
    have gz := gv.1
    refine wpAny_bind (wpAny_updateSeq hS1 rfl (wpAny_pure ⟨plainId_quiet F.plain_extend_loop _, ih (i + 1) _ (acc.push (.ref s.heap.objs.size)) _ (by omega) hlt (st1.but f fun b o hb e => ?_) (Heap.get?_update_self _ hS1 rfl) ?_ fun h' acc' c' hk' hS' gv' => ?_⟩)
      (by rw [gz, sizeLine_eq]; omega) (by show (acc.push _).size ≤ sizeLine + 1; rw [Array.size_push, gz, sizeLine_eq]; omega))
    · exact (Heap.get?_update_other _ _ (Ne.symm hb)).trans e
    · refine ⟨by rw [Array.size_push, gz], fun j hj => ?_⟩
      rw [Array.getElem?_push]
      by_cases hji : j = i
      · subst hji
        rw [if_pos gz.symm]
        exact ⟨_, _, _, rfl, ex, ey, (Heap.get?_update_other _ _ (big hS).symm).trans pr1, nz, nO, n1, n2, big hS⟩
      · rw [if_neg (by omega)]
        exact (gv.but fun b o b1 b2 b3 b4 b5 e => (Heap.get?_update_other _ _ (Ne.symm b5)).trans (k1 b o b1 b2 b3 b4 e)).2 j (by omega)
    · exact hR h' acc' c' (fun b o b1 b2 b3 b4 b5 e => hk' b o b1 b2 b3 b4 b5 ((Heap.get?_update_other _ _ (Ne.symm b5)).trans (k1 b o b1 b2 b3 b4 e))) hS' gv'
theorem call_list_zip {s : Shared} {z TI TO i1 i2 l1 l2 : Addr} {xs ys : Array Value} {n : Nat} {Q : Value → Shared → Prop} (hh : A.handled = none) (D : ZipApart z TI TO i1 i2 l1 l2) (hz : IsZip s.heap z TI TO .none) (ti : IsPair s.heap TI (.ref i1) (.ref i2)) (hO : ∃ a b, IsPair s.heap TO a b)
    (a1 : s.heap.IsListIter i1 l1 0) (a2 : s.heap.IsListIter i2 l2 0) (x1 : s.heap.IsList l1 xs) (x2 : s.heap.IsList l2 ys) (h1 : xs.size = n) (h2 : ys.size = n) (hs : n ≤ 10000)
    (hQ : ∀ h' acc c, (∀ b o, b ≠ z → b ≠ TO → b ≠ i1 → b ≠ i2 → s.heap.get? b = some o → h'.get? b = some o) → h'.get? s.heap.objs.size = some { cls := .type "list", dict := none, data := .seq acc c, slots := #[] } → Given2 z TO i1 i2 s.heap.objs.size xs ys h' acc n → Q (.ref s.heap.objs.size) { s with heap := h' }) :
    wpAny (model prog w) A (call (.type "list") [.ref z]) Q E s := by
  have lt : ∀ {c o}, s.heap.get? c = some o → c ≠ s.heap.objs.size := fun e => Nat.ne_of_lt (Heap.lt_size e)
  have nz := lt hz
  have f : OffZ z TI TO i1 i2 l1 l2 s.heap.objs.size := ⟨nz, lt ti, (let ⟨_, _, e⟩ := hO; lt e), (let ⟨_, e, _⟩ := a1; lt e), (let ⟨_, e, _⟩ := a2; lt e), (let ⟨_, e, _⟩ := x1; lt e), (let ⟨_, e, _⟩ := x2; lt e)⟩
  refine callType_codes (Q₁ := fun obj s₁ => obj = .ref s.heap.objs.size ∧ s₁ = { s with heap := s.heap.push { cls := .type "list", data := .seq #[] } }) F.called_list (F.typeCall_list_1 _) F.entry_list_init (code_list_new _ ⟨rfl, rfl⟩) ?_
  rintro obj s₁ ⟨rfl, rfl⟩
  have pu : ∀ b o, s.heap.get? b = some o → (s.heap.push { cls := .type "list", data := .seq #[] }).get? b = some o := fun b o e => Heap.get?_push_of_some _ e
  have hS : (s.heap.push { cls := .type "list", data := .seq #[] }).get? s.heap.objs.size = some { cls := .type "list", data := .seq #[] } := Heap.get?_push_size _ rfl
  refine ⟨⟨_, hS, rfl⟩, F.args_list_init_2 _ _, ?_⟩
  generalize hS0 : s.heap.objs.size = S at *
  generalize hH0 : s.heap.push { cls := .type "list", data := .seq #[] } = H0 at *
  show wpAny _ _ (do let old ← Builtin.List.listItems (.ref S); Builtin.List.listUpdate (.ref S) (fun _ => #[]); letGo old.toList.reverse; Builtin.List.listExtendWith (.ref S) (.ref z) .none) _ _ _
  refine wpAny_bind ?_; unfold Builtin.List.listItems
  refine wpAny_bind (wpAny_seqItems hS rfl (wpAny_pure ?_))
  show wpAny _ _ (updateSeq S (fun _ => #[]) >>= fun _ => letGo (#[] : Array Value).toList.reverse >>= fun _ => Builtin.List.listExtendWith (.ref S) (.ref z) .none) _ _ _
  refine wpAny_bind (wpAny_updateSeq hS rfl ?_)
  have hS2 := Heap.get?_update_self (Obj.mapSeq (fun _ => (#[] : Array Value))) hS rfl
  have k2 : ∀ b o, b ≠ S → s.heap.get? b = some o → (H0.update S (Obj.mapSeq (fun _ => (#[] : Array Value)))).get? b = some o := fun b o hb e => (Heap.get?_update_other _ _ (Ne.symm hb)).trans (pu b o e)
  generalize H0.update S (Obj.mapSeq (fun _ => (#[] : Array Value))) = H2 at hS2 k2 ⊢
  refine wpAny_bind (wpAny_letGo ?_); unfold Builtin.List.listExtendWith
  have hz2 : IsZip H2 z TI TO .none := k2 _ _ nz hz
  have hT : ({ s with heap := H2 } : Shared).TypeIs (.ref z) "zip" := ⟨_, hz2, rfl⟩
  refine wpAny_bind (wpAny_typeOf hT ?_)
  have e1 : Builtin.List.listSameRef (.ref S) (.ref z) = false := by simp [Builtin.List.listSameRef, Ne.symm nz]
  have e2 : (Value.type "zip" == Value.type "list") = false := by decide
  have e3 : (Value.type "zip" == Value.type "tuple") = false := by decide
  simp only [e1, e2, e3, Bool.or_false, Bool.false_eq_true, if_false]
  refine wpAny_bind (wpAny_pyIter_zip hz2 (wpAny_bind (wpAny_holding ?_)))
  unfold Builtin.List.listLengthHint
  refine wpAny_bind (wpAny_specialOf hT zip_len_none ?_)
  show wpAny _ _ (specialOf (Value.ref z) (Str.ofString "__length_hint__") >>= _) _ _ _
  refine wpAny_bind (wpAny_specialOf hT zip_hint_none (wpAny_pure ?_))
  show wpAny _ _ (rule "list.extend.makes-room" >>= fun _ => Builtin.List.listTouch (.ref S) >>= fun _ => again (.builtin "list.extend.loop" ⟨[.ref S, .ref z, .none], []⟩)) _ _ _
  refine wpAny_bind (wpAny_rule (wpAny_bind ?_))
  show wpAny _ _ (updateSeq S (·.push .none) >>= fun _ => updateSeq S (·.pop)) _ _ _
  refine wpAny_bind (wpAny_updateSeq hS2 rfl ?_)
  have hS3 := Heap.get?_update_self (Obj.mapSeq (·.push Value.none)) hS2 rfl
  refine wpAny_updateSeq (hz := by seq_fits) hS3 rfl ?_
  have hS4 := Heap.get?_update_self (Obj.mapSeq (·.pop)) hS3 rfl
  have k4 : ∀ b o, b ≠ S → s.heap.get? b = some o → ((H2.update S (Obj.mapSeq (·.push Value.none))).update S (Obj.mapSeq (·.pop))).get? b = some o := fun b o hb e => (Heap.get?_update_other _ _ (Ne.symm hb)).trans ((Heap.get?_update_other _ _ (Ne.symm hb)).trans (k2 b o hb e))
  refine wpAny_pure ⟨plainId_quiet F.plain_extend_loop _, zip_fill (A := A.in1) hh D f h1 h2 hs _ n 0 _ #[] _ (Nat.sub_zero _) (Nat.zero_le _) ?_ hS4 ⟨rfl, fun j hj => absurd hj (Nat.not_lt_zero _)⟩ fun h' acc c' hk hS' gv => ?_⟩
  · obtain ⟨a, b, hO⟩ := hO
    exact ⟨k4 _ _ f.ti ti, a1.at fun o e => k4 _ o f.i1 e, a2.at fun o e => k4 _ o f.i2 e, x1.at fun o e => k4 _ o f.l1 e, x2.at fun o e => k4 _ o f.l2 e, ⟨_, k4 _ _ f.to hO⟩, .inl ⟨k4 _ _ f.z hz, a, b, k4 _ _ f.to hO⟩⟩
  · refine ⟨rfl, hQ h' acc c' (fun b o b1 b2 b3 b4 e => ?_) hS' gv⟩
    have nS : b ≠ S := lt e
    exact hk b o b1 b2 b3 b4 nS (k4 b o nS e)
end
end Tr
namespace Tr
open PySem L2 PySem.Spec PyProof.Rows
theorem vals_get : ∀ {xs : List V} {us : List Value}, Vals xs us → ∀ {j : Nat} {u : Value}, us[j]? = some u → ∃ v, xs[j]? = some v ∧ RelV v u
  | _, _, .nil, j, u, h => by simp at h
  | _, _, .cons r t, 0, u, h => by
    cases Option.some.inj h
    exact ⟨_, rfl, r⟩
  | _, _, .cons r t, j + 1, u, h => by
    obtain ⟨v, h1, h2⟩ := vals_get t (j := j) (u := u) (by simpa using h)
    exact ⟨v, by simpa using h1, h2⟩
theorem kv_zip : ∀ {vs : List V} {us : List Value}, Vals vs us → ∀ ks : List Key, KV (ks.zip vs) (ks.zip us)
  | _, _, .nil, ks => by rw [List.zip_nil_right, List.zip_nil_right]; exact .nil
  | _, _, .cons r t, [] => .nil
  | _, _, .cons r t, k :: ks => .cons ⟨rfl, r⟩ (kv_zip t ks)
section
variable {X : Cx} {a b : Expr} {ta tb : TE}
def kDZ (K : W.Frag) (x y : V) (H : Hp) (Q : VK) : Prop :=
  ∃ (p q : Addr) (ks : List Key) (vs : List V), x = .ref p ∧ y = .ref q ∧ SqL K H p (ks.map kV) ∧ SqL K H q vs ∧ ks.length = vs.length ∧ vs.length ≤ 10000 ∧ ∀ z, H z = none → Q (.ref z) (upd H z (.dK (mergeK [] (ks.zip vs))))
def tDZ (K : W.Frag) (ta tb : TE) : TE := fun σ H Q => ta σ H fun x H1 => tb σ H1 fun y H2 => kDZ K x y H2 Q
theorem pe_dicZip {p1 p2 p3 pos1 pos2 pos3 : Pos} (hc : X.calm = true) (g1 : Gl X "dict") (m1 : X.mg "dict" = none) (g2 : Gl X "list") (m2 : X.mg "list" = none) (g3 : Gl X "zip") (m3 : X.mg "zip" = none) (ha : PE X a ta) (hb : PE X b tb)
    (na : starEach [a, b] X.env = (false, eval a X.env) :: starEach [b] X.env := by rfl) (nb : starEach [b] X.env = (false, eval b X.env) :: starEach [] X.env := by rfl) (hp : (backTo pos3 (starEach [b] X.env)).any (·.1) = false := by rfl)
    (nl : starEach [.Call (.Name "zip" p3) [a, b] [] pos3] X.env = (false, eval (.Call (.Name "zip" p3) [a, b] [] pos3) X.env) :: starEach [] X.env := by rfl)
    (nd : starEach [.Call (.Name "list" p2) [.Call (.Name "zip" p3) [a, b] [] pos3] [] pos2] X.env = (false, eval (.Call (.Name "list" p2) [.Call (.Name "zip" p3) [a, b] [] pos3] [] pos2) X.env) :: starEach [] X.env := by rfl) :
    PE X (.Call (.Name "dict" p1) [.Call (.Name "list" p2) [.Call (.Name "zip" p3) [a, b] [] pos3] [] pos2] [] pos1) (tDZ X.K ta tb) := by
  refine ⟨fun pins s σ H Q I h => ?_⟩
  have zipev : wpAny (model X.prog X.w) X.A (eval (.Call (.Name "zip" p3) [a, b] [] pos3) X.env) (fun u s' => ∃ (s1 : Shared) (H2 : Hp) (p q : Addr) (ks : List Key) (vs : List V) (us ws : List Value) (h' : Heap), u = .ref (s1.heap.objs.size + 4) ∧ s' = { s1 with heap := h' } ∧ Inv X pins σ H2 s1 ∧
      p < s1.heap.objs.size ∧ q < s1.heap.objs.size ∧ Vals (ks.map kV) us ∧ Vals vs ws ∧ h'.IsList p us.toArray ∧ h'.IsList q ws.toArray ∧ ks.length = vs.length ∧ vs.length ≤ 10000 ∧ (∀ z, H2 z = none → Q (.ref z) (upd H2 z (.dK (mergeK [] (ks.zip vs))))) ∧
      IsZip h' (s1.heap.objs.size + 4) (s1.heap.objs.size + 2) (s1.heap.objs.size + 3) .none ∧ IsPair h' (s1.heap.objs.size + 2) (.ref s1.heap.objs.size) (.ref (s1.heap.objs.size + 1)) ∧ (∃ a b, IsPair h' (s1.heap.objs.size + 3) a b) ∧
      h'.IsListIter s1.heap.objs.size p 0 ∧ h'.IsListIter (s1.heap.objs.size + 1) q 0 ∧ ∀ c o, s1.heap.get? c = some o → h'.get? c = some o) X.xe s := by
    refine Call_ (ld_blt I g3 m3 PyProof.Rows.boot_zip (PyProof.Rows.callWith_type1 (args_cons (thn (ha.run pins s σ H _ I h) fun v s1 ⟨x, H1, I1, r1, q1⟩ => one_arg hb I1 q1 (fun u s2 y H2 I2 r2 q2 => ?_) nb) na) na hp))
    obtain ⟨p, q, ks, vs, rfl, rfl, hx, hy, hl, hz, hq⟩ := q2
    cases r1
    cases r2
    obtain ⟨us, rv1, l1, _⟩ := I2.list hx
    obtain ⟨ws, rv2, l2, _⟩ := I2.list hy
    exact call_zip_2 l1.isList l2.isList fun h' z1 z2 z3 z4 z5 _ hk => ⟨s2, H2, p, q, ks, vs, us, ws, h', rfl, rfl, I2, l1.lt, l2.lt, rv1, rv2, l1.isList.at fun o e => hk _ o e, l2.isList.at fun o e => hk _ o e, hl, hz, hq, z1, z2, ⟨_, _, z3⟩, z4, z5, hk⟩
  refine Call_ (ld_blt I g1 m1 PyProof.Rows.boot_dict (PyProof.Rows.callWith_type1 (args_cons (Call_ (ld_blt I g2 m2 PyProof.Rows.boot_list (PyProof.Rows.callWith_type1 (args_cons (thn zipev fun u s' hu => args_nil ?_) nl) nl))) nd) nd))
  obtain ⟨s1, H2, p, q, ks, vs, us, ws, h', rfl, rfl, I2, lp, lq, rv1, rv2, l1, l2, hl, hz, hq, z1, z2, z3, z4, z5, hk⟩ := hu
  have e1 := rv1.length
  have e2 := rv2.length
  rw [List.length_map] at e1
  refine call_list_zip (n := vs.length) (I2.ok.hd hc) (PySem.W.ktu_apart s1.heap.objs.size p q lp lq) z1 z2 z3 z4 z5 l1 l2 (by rw [List.size_toArray, ← e1, hl]) (by rw [List.size_toArray, ← e2]) hz fun h2 acc c k2 hL gv => args_nil ?_
  have kk : ∀ b o, s1.heap.get? b = some o → h2.get? b = some o := fun b o e => by
    have hb := Heap.lt_size e
    exact k2 b o (Nat.ne_of_lt (Nat.lt_of_lt_of_le hb (Nat.le_add_right _ _))) (Nat.ne_of_lt (Nat.lt_of_lt_of_le hb (Nat.le_add_right _ _))) (Nat.ne_of_lt hb) (Nat.ne_of_lt (Nat.lt_of_lt_of_le hb (Nat.le_add_right _ _))) (hk b o e)
  have I3 : Inv X pins σ H2 { s1 with heap := h2 } := I2.kept (t' := s1.toks) kk
  have rel : KV (ks.zip vs) (ks.zip ws) := kv_zip rv2 ks
  have lzip : (ks.zip ws).length = vs.length := by rw [List.length_zip, hl, ← e2, Nat.min_self]
  refine L2.call_dict_pairs (prs := ks.zip ws) (I3.ok.hd hc) hL rfl rfl rfl (by rw [lzip]; exact gv.1) (by rw [lzip, sizeLine_eq]; omega) (fun j y e => ?_) fun h3 tk hd' k3 => ?_
  · have hj : j < vs.length := by rw [← lzip]; exact (List.getElem?_eq_some_iff.mp e).1
    obtain ⟨T, x, v, t1, t2, t3, t4, _⟩ := gv.2 j hj
    obtain ⟨y1, y2⟩ := y
    rw [List.getElem?_zip_eq_some] at e
    rw [List.getElem?_toArray] at t2 t3
    have ev : v = y2 := Option.some.inj (t3.symm.trans e.2)
    subst ev
    obtain ⟨kv, g1, g2⟩ := vals_get rv1 t2
    rw [List.getElem?_map, e.1] at g1
    cases Option.some.inj g1
    exact ⟨T, x, t1, ⟨_, t4, rfl, _, rfl⟩, kV_is (P := X.prog) (w := X.w) g2⟩
  · have hm : ((h2.objs.size : Addr) == sysModules) = false := beq_eq_false_iff_ne.mpr (Nat.ne_of_gt I3.big)
    have hlen : (mergeK [] (ks.zip vs)).length ≤ sizeLine := by
      have := length_mergeK (ks.zip vs) []
      rw [List.length_nil, Nat.zero_add, List.length_zip, hl, Nat.min_self] at this
      rw [sizeLine_eq]; omega
    exact ⟨.ref h2.objs.size, upd H2 h2.objs.size (.dK (mergeK [] (ks.zip vs))), I3.laid (t' := tk) (o := .dK (mergeK [] (ks.zip vs))) k3 (Nat.le_refl _) ⟨hlen, hm, merged [] (ks.zip ws), KV.merge rel .nil, hd'⟩, rfl, hq _ (I3.hok.fresh (Nat.le_refl _))⟩
end
theorem merge_zipN : ∀ (ks : List Key) (vs : List V) (acc : List (Key × V)), ks.length = vs.length → (acc.map (·.1) ++ ks).Nodup → mergeK acc (ks.zip vs) = acc ++ ks.zip vs
  | [], vs, acc, h, nd => by rw [List.zip_nil_left, List.append_nil]; rfl
  | k :: ks, [], acc, h, nd => by cases h
  | k :: ks, v :: vs, acc, h, nd => by
    rw [List.zip_cons_cons]
    show mergeK (putK acc k v) (ks.zip vs) = _
    have nk : k ∉ acc.map (·.1) := fun hm => (List.nodup_append.mp nd).2.2 _ hm _ List.mem_cons_self rfl
    have e : putK acc k v = acc ++ [(k, v)] := by
      unfold putK
      rw [if_neg]
      intro z
      obtain ⟨x, hx, e⟩ := List.any_eq_true.mp z
      exact nk (List.mem_map.mpr ⟨x, hx, of_decide_eq_true e⟩)
    rw [e, merge_zipN ks vs (acc ++ [(k, v)]) (by simpa using h) (by rw [List.map_append, List.append_assoc]; exact nd), List.append_assoc]
    rfl
section
variable {X : Cx} {T : TX X} {ρ : Rho} {C : Cells} {Q : QE} {a b : Expr} {A B : ME}
theorem we_dicZip {p1 p2 p3 pos1 pos2 pos3 : Pos} (g1 : Gl X "dict") (m1 : X.mg "dict" = none) (g2 : Gl X "list") (m2 : X.mg "list" = none) (g3 : Gl X "zip") (m3 : X.mg "zip" = none)
    (h : WE T a ρ C fun d C1 => WE T b ρ C1 fun e C2 => ∃ (ss : List Str) (ds : List D), LstD C2 d (ss.map D.str) ∧ LstD C2 e ds ∧ ss.Nodup ∧ ss.length = ds.length ∧ ds.length ≤ 10000 ∧ Q (.dic (ss.map .inr) ds) C2)
    (na : starEach [a, b] X.env = (false, eval a X.env) :: starEach [b] X.env := by rfl) (nb : starEach [b] X.env = (false, eval b X.env) :: starEach [] X.env := by rfl) (hp : (backTo pos3 (starEach [b] X.env)).any (·.1) = false := by rfl)
    (nl : starEach [.Call (.Name "zip" p3) [a, b] [] pos3] X.env = (false, eval (.Call (.Name "zip" p3) [a, b] [] pos3) X.env) :: starEach [] X.env := by rfl)
    (nd : starEach [.Call (.Name "list" p2) [.Call (.Name "zip" p3) [a, b] [] pos3] [] pos2] X.env = (false, eval (.Call (.Name "list" p2) [.Call (.Name "zip" p3) [a, b] [] pos3] [] pos2) X.env) :: starEach [] X.env := by rfl) (hc : X.calm = true := by rfl) :
    WE T (.Call (.Name "dict" p1) [.Call (.Name "list" p2) [.Call (.Name "zip" p3) [a, b] [] pos3] [] pos2] [] pos1) ρ C Q :=
  PE.imp (pe_dicZip hc g1 m1 g2 m2 g3 m3 h (pe_some T ρ b) na nb hp nl nd) fun σ H R ⟨H0, at_, k⟩ => ⟨H0, at_, fun v1 d1 C1 H1 H01 p1 c1 r1 q1 => by
    have at1 := at_.step p1 c1
    refine ⟨C1, _, q1, H01, at1, fun v2 d2 C2 H2 H02 p2 c2 r2 ⟨ss, ds, h1, h2, h3, h4, h5, q⟩ => ?_⟩
    obtain ⟨x, vs, e1, s1, t1⟩ := lst_at c2 (r1.mono p2.base) h1
    obtain ⟨y, ws, e2, s2, t2⟩ := lst_at c2 r2 h2
    obtain rfl := Reps.of_strs t1
    have lw : ds.length = ws.length := t2.length
    refine ⟨x, y, (ss.map Sum.inr : List Key), ws, e1, e2, by rw [List.map_map]; exact s1, s2, by rw [List.length_map, h4, lw], by omega, fun z hz => ?_⟩
    rw [merge_zipN (ss.map Sum.inr : List Key) ws [] (by rw [List.length_map, h4, lw]) (by
      rw [List.map_nil, List.nil_append]
      exact List.Pairwise.map _ (fun _ _ h e => h (Sum.inr.inj e)) h3), List.nil_append]
    obtain ⟨p3, c3⟩ := stp_new (o := .dK ((ss.map Sum.inr : List Key).zip ws)) c2 hz
    refine k _ (.dic (ss.map .inr) ds) C2 _ _ ((p1.trans c1 p2).trans c2 p3) c3 ⟨z, ws, rfl, .inl upd_same, by rw [List.length_map, h4, lw], t2.mono p3.base⟩ q⟩
def eDicZip (A B : ME) : ME := fun C Q => A C fun x C1 => B C1 fun y C2 => ∃ (ss : List Str) (ds : List D), LstD C2 x (ss.map D.str) ∧ LstD C2 y ds ∧ ss.Nodup ∧ ss.length = ds.length ∧ ds.length ≤ 10000 ∧ Q (.dic (ss.map .inr) ds) C2
theorem se_dicZip {p1 p2 p3 pos1 pos2 pos3 : Pos} (g1 : Gl X "dict") (m1 : X.mg "dict" = none) (g2 : Gl X "list") (m2 : X.mg "list" = none) (g3 : Gl X "zip") (m3 : X.mg "zip" = none) (ha : SE T a ρ A) (hb : SE T b ρ B)
    (na : starEach [a, b] X.env = (false, eval a X.env) :: starEach [b] X.env := by rfl) (nb : starEach [b] X.env = (false, eval b X.env) :: starEach [] X.env := by rfl) (hp : (backTo pos3 (starEach [b] X.env)).any (·.1) = false := by rfl)
    (nl : starEach [.Call (.Name "zip" p3) [a, b] [] pos3] X.env = (false, eval (.Call (.Name "zip" p3) [a, b] [] pos3) X.env) :: starEach [] X.env := by rfl)
    (nd : starEach [.Call (.Name "list" p2) [.Call (.Name "zip" p3) [a, b] [] pos3] [] pos2] X.env = (false, eval (.Call (.Name "list" p2) [.Call (.Name "zip" p3) [a, b] [] pos3] [] pos2) X.env) :: starEach [] X.env := by rfl) (hc : X.calm = true := by rfl) :
    SE T (.Call (.Name "dict" p1) [.Call (.Name "list" p2) [.Call (.Name "zip" p3) [a, b] [] pos3] [] pos2] [] pos1) ρ (eDicZip A B) := fun C Q z =>
  we_dicZip g1 m1 g2 m2 g3 m3 ((ha C _ z).mono fun d C1 z1 => hb C1 _ z1) na nb hp nl nd hc
end
end Tr

set_option maxHeartbeats 4000000
namespace Tr
open PySem L2 PySem.Spec PyProof.Rows
section
variable {C : Cells} {Q : QE} {i j : Int} {x y s t : Str} {xs ys ds : List D} {d e d1 d2 : D} {K : W.Frag} {own : D → D → ME} {own1 : D → ME} {b k : Bool}
theorem s_add_int (h : Q (.int (i + j)) C) : oAdd (.int i) (.int j) C Q := h
theorem s_add_str (h : x.length + y.length ≤ 100000 ∧ Q (.str (x ++ y)) C) : oAdd (.str x) (.str y) C Q := h
theorem s_add_tup (h : xs.length + ys.length ≤ 100000 ∧ Q (.tup (xs ++ ys)) C) : oAdd (.tup xs) (.tup ys) C Q := h
theorem s_add_lst (h : xs.length + ys.length ≤ 100000 ∧ Q (.lst (xs ++ ys)) C) : oAdd (.lst xs) (.lst ys) C Q := h
theorem s_add_cell (h1 : LstD C d xs) (h2 : LstD C e ys) (h : xs.length + ys.length ≤ 100000 ∧ Q (.lst (xs ++ ys)) C) : oAdd d e C Q := by
  unfold oAdd; split
  · obtain h1 | ⟨_, h1, _⟩ := h1 <;> cases h1
  · obtain h1 | ⟨_, h1, _⟩ := h1 <;> cases h1
  · obtain h1 | ⟨_, h1, _⟩ := h1 <;> cases h1
  · obtain h1 | ⟨_, h1, _⟩ := h1 <;> cases h1
    obtain h2 | ⟨_, h2, _⟩ := h2 <;> cases h2
    exact h
  · exact ⟨xs, ys, h1, h2, h⟩
theorem s_addO {own : D → D → ME} (n : isInsD d1 = false) (h : oAdd d1 d2 C Q) : oAddO own d1 d2 C Q := by
  unfold oAddO; split
  · cases n
  · exact h
theorem s_addOI {own : D → D → ME} {c : Addr} {ns : List Str} (h : own (.ins c ns ds) d2 C Q) : oAddO own (.ins c ns ds) d2 C Q := h
theorem s_ixO {Cl : Addr} {F : FS} {Xq : QX} (n : isInsD d1 = false) (h : pIx d1 d2 C Q) : pIxO Cl F Xq d1 d2 C Q := by
  unfold pIxO; split
  · cases n
  · exact h
theorem s_min (h : Q (.int (if j < i then j else i)) C) : on2 pMin2 [.int i, .int j] C Q := h
theorem s_sub (h : Q (.int (i - j)) C) : oSub (.int i) (.int j) C Q := h
theorem s_mul (h : CMul i j ∧ Q (.int (i * j)) C) : oMul (.int i) (.int j) C Q := h
theorem s_fdiv (h : (0 < j ∧ j < 1073741824) ∧ Q (.int (i / j)) C) : oFdiv (.int i) (.int j) C Q := h
theorem s_mod (h : 0 < j ∧ Q (.int (i % j)) C) : oMod (.int i) (.int j) C Q := h
theorem s_pow (h : CPow i j ∧ Q (.int (i ^ j.toNat)) C) : oPow (.int i) (.int j) C Q := h
theorem s_lt (h : Q (.bl (decide (i < j))) C) : oLt (.int i) (.int j) C Q := h
theorem s_le (h : Q (.bl (decide (i ≤ j))) C) : oLe (.int i) (.int j) C Q := h
theorem s_gt (h : Q (.bl (decide (j < i))) C) : oGt (.int i) (.int j) C Q := h
theorem s_ge (h : Q (.bl (decide (j ≤ i))) C) : oGe (.int i) (.int j) C Q := h
theorem s_lt_str (h : Q (.bl (decide (x.cps.toList < y.cps.toList))) C) : oLt (.str x) (.str y) C Q := h
theorem s_le_str (h : Q (.bl (!decide (y.cps.toList < x.cps.toList))) C) : oLe (.str x) (.str y) C Q := h
theorem s_eq_int (h : Q (.bl (decide (i = j))) C) : oEq own (.int i) (.int j) C Q := h
theorem s_eq_str (h : Q (.bl (decide (x = y))) C) : oEq own (.str x) (.str y) C Q := h
theorem s_eq_bl (h : Q (.bl (b == k)) C) : oEq own (.bl b) (.bl k) C Q := h
theorem s_ne_int (h : Q (.bl (!decide (i = j))) C) : oNe own (.int i) (.int j) C Q := h
theorem s_ne_str (h : Q (.bl (!decide (x = y))) C) : oNe own (.str x) (.str y) C Q := h
theorem s_ne_bl (h : Q (.bl (b != k)) C) : oNe own (.bl b) (.bl k) C Q := h
def isB : D → Bool
  | .int _ | .str _ | .bl _ => true
  | _ => false
def EqD (C : Cells) (d1 d2 : D) (b : Bool) : Prop := ∃ p1 p2, PyR C d1 p1 ∧ PyR C d2 p2 ∧ SeqAt.shaped p1 = true ∧ SeqAt.shaped p2 = true ∧ PyData.eqv p1 p2 = b
theorem eq_go (n : isB d1 = false ∨ isB d2 = false) (h : (∃ p1 p2, PyR C d1 p1 ∧ PyR C d2 p2 ∧ SeqAt.shaped p1 = true ∧ SeqAt.shaped p2 = true ∧ Q (.bl (PyData.eqv p1 p2)) C) ∨ own d1 d2 C Q) : oEq own d1 d2 C Q := by
  unfold oEq; split
  · rcases n with n | n <;> cases n
  · rcases n with n | n <;> cases n
  · rcases n with n | n <;> cases n
  · exact h
theorem ne_go (n : isB d1 = false ∨ isB d2 = false) (h : (∃ p1 p2, PyR C d1 p1 ∧ PyR C d2 p2 ∧ SeqAt.shaped p1 = true ∧ SeqAt.shaped p2 = true ∧ Q (.bl (!PyData.eqv p1 p2)) C) ∨ own d1 d2 C Q) : oNe own d1 d2 C Q := by
  unfold oNe; split
  · rcases n with n | n <;> cases n
  · rcases n with n | n <;> cases n
  · rcases n with n | n <;> cases n
  · exact h
theorem s_neD (n : isB d1 = false ∨ isB d2 = false) (h : EqD C d1 d2 b) (q : Q (.bl (!b)) C) : oNe own d1 d2 C Q := by
  obtain ⟨p1, p2, h1, h2, h3, h4, rfl⟩ := h
  exact ne_go n (.inl ⟨p1, p2, h1, h2, h3, h4, q⟩)
theorem s_eqO (n : isB d1 = false ∨ isB d2 = false) (h : own d1 d2 C Q) : oEq own d1 d2 C Q := eq_go n (.inr h)
theorem s_neO (n : isB d1 = false ∨ isB d2 = false) (h : own d1 d2 C Q) : oNe own d1 d2 C Q := ne_go n (.inr h)
theorem eqd_lstS {xs ys : List Str} (h1 : LstD C d1 (xs.map D.str)) (h2 : LstD C d2 (ys.map D.str)) (hx : ∀ x ∈ xs, PyData.strOk x = true) (hy : ∀ x ∈ ys, PyData.strOk x = true) : EqD C d1 d2 (decide (xs = ys)) :=
  ⟨_, _, pyR_l h1 (plain_strs xs), pyR_l h2 (plain_strs ys), shaped_lstS hx, shaped_lstS hy, by rw [PyData.eqv, eqv_strs]⟩
theorem eqd_lstI {xs ys : List Int} (h1 : LstD C d1 (xs.map D.int)) (h2 : LstD C d2 (ys.map D.int)) : EqD C d1 d2 (decide (xs = ys)) :=
  ⟨_, _, pyR_l h1 (plain_ints xs), pyR_l h2 (plain_ints ys), shaped_lstI xs, shaped_lstI ys, by rw [PyData.eqv, eqv_ints]⟩
theorem s_is_bl (h : Q (.bl (decide (b = k))) C) : oIs (.bl b) (.bl k) C Q := h
theorem s_isnot_bl (h : Q (.bl (!decide (b = k))) C) : oIsNot (.bl b) (.bl k) C Q := h
def notRaw : D → Bool
  | .raw _ => false
  | _ => true
theorem s_isN (n : notRaw d = true) (h : Q (.bl (isNon d)) C) : oIs d .non C Q := by
  cases d with
  | raw _ => cases n
  | _ => exact ⟨fun w e => (by cases e), h⟩
theorem s_isNotN (n : notRaw d = true) (h : Q (.bl (!isNon d)) C) : oIsNot d .non C Q := by
  cases d with
  | raw _ => cases n
  | _ => exact ⟨fun w e => (by cases e), h⟩
theorem s_isN_ref {a : Addr} (h : Q (.bl false) C) : oIs (.raw (.ref a)) .non C Q := h
theorem s_isNotN_ref {a : Addr} (h : Q (.bl true) C) : oIsNot (.raw (.ref a)) .non C Q := h
theorem s_inS {xs : List Str} (h1 : SeqD C d (xs.map D.str)) (h : Q (.bl (decide (s ∈ xs))) C) : oIn (.str s) d C Q :=
  .inl ⟨_, h1, rfl, by simp [flatD], by rw [inD_strs]; exact h⟩
theorem s_notInS {xs : List Str} (h1 : SeqD C d (xs.map D.str)) (h : Q (.bl (!decide (s ∈ xs))) C) : oNotIn (.str s) d C Q :=
  ⟨_, h1, rfl, by simp [flatD], by rw [inD_strs]; exact h⟩
theorem s_inSign {n : Nat} {z : Str} (h : Q (.bl (decide (n ∈ z.cps.toList))) C) : oIn (.str ⟨#[n]⟩) (.str z) C Q := .inr ⟨n, z, rfl, rfl, h⟩
theorem s_notInSign {n : Nat} {z : Str} (h : Q (.bl (!decide (n ∈ z.cps.toList))) C) : oNotInS (.str ⟨#[n]⟩) (.str z) C Q := ⟨n, z, rfl, rfl, h⟩
theorem s_tup (h : ds.length ≤ 100000 ∧ Q (.tup ds) C) : pTup ds C Q := h
theorem s_lst (h : ds.length ≤ 100000 ∧ Q (.lst ds) C) : pLst ds C Q := h
theorem s_lstC (h : ds.length ≤ 100000 ∧ ∀ p, Q (.raw (.ref p)) ((p, .lst ds) :: C)) : pLstC ds C Q := h
theorem s_tru {R : QT} (h : R b C) : pTru (.bl b) C R := h
theorem s_ii {g : Int → Int → Int} (h : Q (.int (g i j)) C) : pII g (.int i) (.int j) C Q := h
theorem s_neg (h : Q (.int (-i)) C) : pNeg (.int i) C Q := h
theorem s_fld {Cl : Addr} {ns : List Str} {m : Str} (h1 : InsD C d Cl ns ds) (h2 : Cls K Cl) (h3 : NoAttr K Cl m) (h4 : (ns.zip ds).lookup m = some e) (h : Q e C) : pFld K m d C Q := ⟨_, _, _, _, h1, h2, h3, h4, h⟩
theorem s_ix_tup (h1 : atI ds i = some d) (h : Q d C) : pIx (.tup ds) (.int i) C Q := ⟨d, h1, h⟩
theorem s_ix_lst (h1 : atI ds i = some d) (h : Q d C) : pIx (.lst ds) (.int i) C Q := ⟨d, h1, h⟩
theorem s_ix_cell {a : Addr} (h0 : LstD C (.raw (.ref a)) ds) (h1 : atI ds i = some d) (h : Q d C) : pIx (.raw (.ref a)) (.int i) C Q := ⟨ds, d, h0, h1, h⟩
theorem s_oi {R : Option Int → Cells → Prop} (h : R (some i) C) : pOI (.int i) C R := h
theorem s_sl_tup {l u : Option Int} (h : Q (.tup (cutD ds l u)) C) : pSl (.tup ds) l u C Q := h
theorem s_sl_lst {l u : Option Int} (h : Q (.lst (cutD ds l u)) C) : pSl (.lst ds) l u C Q := h
theorem s_sl_str {l u : Option Int} (h : s.length ≤ 100000 ∧ Q (.str (cutS s l u)) C) : pSl (.str s) l u C Q := h
theorem s_sl_cell {a : Addr} {l u : Option Int} (h0 : LstD C (.raw (.ref a)) ds) (h : Q (.lst (cutD ds l u)) C) : pSl (.raw (.ref a)) l u C Q := ⟨ds, h0, h⟩
theorem s_rev (h0 : LstD C d ds) (h : Q (.lst ds.reverse) C) : pRev d C Q := ⟨ds, h0, h⟩
theorem s_revC (h0 : LstD C d ds) (h : ∀ p, Q (.raw (.ref p)) ((p, .lst ds.reverse) :: C)) : pRevC d C Q := ⟨ds, h0, h⟩
variable {R : QI}
theorem s_it_lst (h : R ds (fun _ => True) C) : pIter (.lst ds) C R := h
theorem s_it_tup (h : R ds (fun _ => True) C) : pIter (.tup ds) C R := h
theorem s_it_cell {a : Addr} (h0 : SeqD C (.raw (.ref a)) ds) (h : R ds (fun C' => SeqD C' (.raw (.ref a)) ds) C) : pIter (.raw (.ref a)) C R := ⟨ds, h0, h⟩
theorem s_itS (h : R (signsD s) (fun _ => True) C) : pIterS (.str s) C R := h
theorem s_rg1 (h : (-(2 ^ 62) ≤ i ∧ i < 2 ^ 62) ∧ R (rangeD 0 i.toNat) (fun _ => True) C) : pRange1 (.int i) C R := h
theorem s_rg2 (h : (-(2 ^ 62) ≤ i ∧ i < 2 ^ 62 ∧ -(2 ^ 62) ≤ j ∧ j < 2 ^ 62) ∧ R (rangeD i (j - i).toNat) (fun _ => True) C) : pRange2 (.int i) (.int j) C R := h
theorem s_en_lst (h : R (enumD 0 ds) (fun _ => True) C) : pEnum (.lst ds) C R := h
theorem s_en_tup (h : R (enumD 0 ds) (fun _ => True) C) : pEnum (.tup ds) C R := h
theorem s_en_cell {a : Addr} (h0 : SeqD C (.raw (.ref a)) ds) (h : R (enumD 0 ds) (fun C' => SeqD C' (.raw (.ref a)) ds) C) : pEnum (.raw (.ref a)) C R := ⟨ds, h0, h⟩
theorem s_un2 {β : Sort _} {q : β} {f : D → D → Cells → β → Prop} (h : f d e C q) : un2 (.tup [d, e]) f C q := h
theorem s_un3 {β : Sort _} {q : β} {f : D → D → D → Cells → β → Prop} (h : f d e d1 C q) : un3 (.tup [d, e, d1]) f C q := h
theorem s_mun2 {f : D → D → MB} (h : f d e C) : mUn2 (.tup [d, e]) f C := h
theorem s_mun3 {f : D → D → D → MB} (h : f d e d1 C) : mUn3 (.tup [d, e, d1]) f C := h
theorem s_mun5 {d3 : D} {f : D → D → D → D → D → MB} (h : f d e d1 d2 d3 C) : mUn5 (.tup [d, e, d1, d2, d3]) f C := h
theorem s_mun4 {f : D → D → D → D → MB} (h : f d e d1 d2 C) : mUn4 (.tup [d, e, d1, d2]) f C := h
theorem s_len_lst (h : Q (.int ds.length) C) : on1 (pLen1 own1) [.lst ds] C Q := h
theorem s_len_tup (h : Q (.int ds.length) C) : on1 (pLen1 own1) [.tup ds] C Q := h
theorem s_len_str (h : s.length ≤ 100000 ∧ Q (.int s.length) C) : on1 (pLen1 own1) [.str s] C Q := h
theorem s_len_cell {a : Addr} (h0 : LstD C (.raw (.ref a)) ds) (h : Q (.int ds.length) C) : on1 (pLen1 own1) [.raw (.ref a)] C Q := .inl ⟨ds, h0, h⟩
theorem s_len_own {Cl : Addr} {ns : List Str} (h : own1 (.ins Cl ns ds) C Q) : on1 (pLen1 own1) [.ins Cl ns ds] C Q := .inr h
theorem s_str_str (h : Q (.str s) C) : on1 (pStr1 own1) [.str s] C Q := h
theorem s_str_int (h : i.natAbs.log2 < 1920 ∧ Q (.str (toString i)) C) : on1 (pStr1 own1) [.int i] C Q := h
theorem s_str_own {Cl : Addr} {ns : List Str} (h : own1 (.ins Cl ns ds) C Q) : on1 (pStr1 own1) [.ins Cl ns ds] C Q := h
theorem s_str_ownC {a : Addr} (h : own1 (.raw (.ref a)) C Q) : on1 (pStr1 own1) [.raw (.ref a)] C Q := h
theorem s_int_int (h : Q (.int i) C) : on1 pInt1 [.int i] C Q := h
theorem s_int_bl (h : Q (.int (if b then 1 else 0)) C) : on1 pInt1 [.bl b] C Q := h
theorem s_int_str (h : s.length ≤ 640 ∧ ∃ n, intText? s = some n ∧ Q (.int n) C) : on1 pInt1 [.str s] C Q := h
theorem s_list_lst (h : Q (.lst ds) C) : on1 pList1 [.lst ds] C Q := h
theorem s_list_tup (h : Q (.lst ds) C) : on1 pList1 [.tup ds] C Q := h
theorem s_list_cell {a : Addr} (h0 : SeqD C (.raw (.ref a)) ds) (h : Q (.lst ds) C) : on1 pList1 [.raw (.ref a)] C Q := ⟨ds, h0, h⟩
theorem s_listC_lst (h : ∀ p, Q (.raw (.ref p)) ((p, .lst ds) :: C)) : on1 pListC1 [.lst ds] C Q := h
theorem s_listC_tup (h : ∀ p, Q (.raw (.ref p)) ((p, .lst ds) :: C)) : on1 pListC1 [.tup ds] C Q := h
theorem s_listC_cell {a : Addr} (h0 : SeqD C (.raw (.ref a)) ds) (h : ∀ p, Q (.raw (.ref p)) ((p, .lst ds) :: C)) : on1 pListC1 [.raw (.ref a)] C Q := ⟨ds, h0, h⟩
theorem s_tuple_lst (h : Q (.tup ds) C) : on1 pTuple1 [.lst ds] C Q := h
theorem s_tuple_tup (h : Q (.tup ds) C) : on1 pTuple1 [.tup ds] C Q := h
theorem s_tuple_seq (h0 : SeqD C d ds) (h : Q (.tup ds) C) : on1 pTuple1 [d] C Q := by
  show pTuple1 d C Q
  unfold pTuple1; split
  · obtain (h0 | ⟨_, h0, _⟩) | h0 := h0 <;> cases h0; exact h
  · obtain (h0 | ⟨_, h0, _⟩) | h0 := h0 <;> cases h0; exact h
  · exact ⟨ds, h0, h⟩
theorem s_list_seq (h0 : SeqD C d ds) (h : Q (.lst ds) C) : on1 pList1 [d] C Q := by
  show pList1 d C Q
  unfold pList1; split
  · obtain (h0 | ⟨_, h0, _⟩) | h0 := h0 <;> cases h0; exact h
  · obtain (h0 | ⟨_, h0, _⟩) | h0 := h0 <;> cases h0; exact h
  · exact ⟨ds, h0, h⟩
theorem s_it_seq (h0 : SeqD C d ds) (h : ∀ P : Cells → Prop, (∀ C', SeqD C' d ds → P C') → R ds P C) : pIter d C R := by
  unfold pIter; split
  · obtain (h0 | ⟨_, h0, _⟩) | h0 := h0 <;> cases h0; exact h _ fun _ _ => trivial
  · obtain (h0 | ⟨_, h0, _⟩) | h0 := h0 <;> cases h0; exact h _ fun _ _ => trivial
  · exact ⟨ds, h0, h _ fun _ h => h⟩
theorem s_en_seq (h0 : SeqD C d ds) (h : ∀ P : Cells → Prop, (∀ C', SeqD C' d ds → P C') → R (enumD 0 ds) P C) : pEnum d C R := by
  unfold pEnum; split
  · obtain (h0 | ⟨_, h0, _⟩) | h0 := h0 <;> cases h0; exact h _ fun _ _ => trivial
  · obtain (h0 | ⟨_, h0, _⟩) | h0 := h0 <;> cases h0; exact h _ fun _ _ => trivial
  · exact ⟨ds, h0, h _ fun _ h => h⟩
theorem s_allM {α : Type} {l : List α} {f : α → Bool} (h : Q (.bl (l.all f)) C) : on1 pAll1 [.lst (l.map fun a => D.bl (f a))] C Q :=
  ⟨l.map f, by rw [List.map_map]; rfl, by rw [List.all_map]; exact h⟩
theorem s_anyM {α : Type} {l : List α} {f : α → Bool} (h : Q (.bl (l.any f)) C) : on1 pAny1 [.lst (l.map fun a => D.bl (f a))] C Q :=
  ⟨l.map f, by rw [List.map_map]; rfl, by rw [List.any_map]; exact h⟩
theorem s_abs (h : Q (.int (if i < 0 then -i else i)) C) : on1 pAbs1 [.int i] C Q := h
theorem s_max (h : Q (.int (if j > i then j else i)) C) : on2 pMax2 [.int i, .int j] C Q := h
theorem s_isi {tv u : Value} (h1 : ClsD e u) (h2 : TyD K C d tv) (h3 : W.kitOne K tv u = some b) (h : Q (.bl b) C) : on2 (pIsI K) [d, e] C Q := .inl ⟨tv, u, b, h1, h2, h3, h⟩
theorem s_isiT {tv : Value} {us : List Value} (h1 : Paired ClsD ds us) (h2 : TyD K C d tv) (h3 : W.kitAny K tv us = some b) (h : Q (.bl b) C) : on2 (pIsI K) [d, .tup ds] C Q := .inr ⟨ds, tv, us, b, rfl, h1, h2, h3, h⟩
theorem s_onStr {β : Sort _} {q : β} {kk : Str → Cells → β → Prop} (h : kk s C q) : onStr (.str s) kk C q := h
theorem s_split (h : (t.length == 0) = false ∧ s.length ≤ 100000 ∧ Q (.lst ((Txt.split s t).map D.str)) C) : pSplit s (.str t) C Q := h
theorem s_part (h : (t.length == 0) = false ∧ s.length ≤ 100000 ∧ Q (.tup [.str (Txt.partition s t).1, .str (Txt.partition s t).2.1, .str (Txt.partition s t).2.2]) C) : pPart s (.str t) C Q := h
theorem s_starts (h : Q (.bl (Txt.startswith s t)) C) : pStarts s (.str t) C Q := h
theorem s_join {zs : List Str} (h0 : SeqD C d (zs.map D.str)) (h : (zs.map (·.length)).sum + zs.length * s.length ≤ 100000 ∧ Q (.str (Txt.join s zs)) C) : pJoin s d C Q := ⟨zs, h0, h⟩
theorem s_fmt_str (h : s.length ≤ 100000 ∧ Q (.str s) C) : pFmt (.str s) C Q := h
theorem s_fmt_int (h : i.natAbs.log2 < 1920 ∧ Q (.str (toString i)) C) : pFmt (.int i) C Q := h
theorem s_app {a : Addr} (n : Nat) (h1 : C[n]? = some (a, .lst ds)) (h : ds.length < 100000 ∧ Q .non (C.set n (a, .lst (ds ++ [d])))) : pApp (.raw (.ref a)) d C Q := ⟨n, a, ds, rfl, h1, h⟩
theorem s_frz {a : Addr} {k : D → MB} {c : Cell} (n : Nat) (h1 : C[n]? = some (a, c)) (h : k c.toD (C.eraseIdx n)) : mFrz (.raw (.ref a)) k C := ⟨n, a, c, rfl, h1, h⟩
theorem s_isL {a : Addr} (h : LstD C (.raw (.ref a)) ds) : isL (.raw (.ref a)) C := by
  obtain h | ⟨z, h, hm⟩ := h
  · cases h
  · cases h; exact ⟨_, _, rfl, hm⟩
theorem s_pop {a : Addr} (n : Nat) (h1 : C[n]? = some (a, .lst (ds ++ [d]))) (h : Q d (C.set n (a, .lst ds))) : pPop (.raw (.ref a)) C Q := ⟨n, a, ds, d, rfl, h1, h⟩
theorem ite2M {c : Prop} [Decidable c] {A B : Prop} (h1 : c → A) (h2 : ¬ c → B) : if c then A else B := by
  by_cases h : c
  · rw [if_pos h]; exact h1 h
  · rw [if_neg h]; exact h2 h
theorem ifT {A B : Prop} (h : A) : if (true : Bool) = true then A else B := h
theorem q_bl {C : Cells} {Q : QE} {b b' : Bool} (q : Q (.bl b) C) (e : b = b') : Q (.bl b') C := e ▸ q
theorem ifPos {b : Bool} {A B : Prop} (e : b = true) (h : A) : if b = true then A else B := by rw [if_pos e]; exact h
theorem ifNeg {b : Bool} {A B : Prop} (e : b = false) (h : B) : if b = true then A else B := by rw [if_neg (by rw [e]; decide)]; exact h
theorem ifPosN {b : Bool} {A B : Prop} (e : b = false) (h : A) : if (!b) = true then A else B := by rw [if_pos (by rw [e]; rfl)]; exact h
theorem ifNegN {b : Bool} {A B : Prop} (e : b = true) (h : B) : if (!b) = true then A else B := by rw [if_neg (by rw [e]; decide)]; exact h
theorem ifF {A B : Prop} (h : B) : if (false : Bool) = true then A else B := by rw [if_neg (by decide)]; exact h
end
end Tr
namespace Tr
open PySem L2 PySem.Spec PyProof.Rows
theorem drop_id {C : Cells} {d : D} {Q : QE} (h : Q d C) : ∃ C' r, C.Perm (C' ++ r) ∧ Q d C' := ⟨C, [], by simp, h⟩
end Tr
namespace Tr
open PySem L2 PySem.Spec PyProof.Rows
def isStr : D → Bool
  | .str _ => true
  | _ => false
def strOf : D → Str
  | .str s => s
  | _ => Str.empty
structure AnyD (K : W.Frag) (C : Cells) (d : D) : Prop where
  ty : ∃ t, TyD K C d t ∧ W.kitOne K t (.type "str") = some (isStr d)
  ln : (strOf d).length ≤ 100000
def SqA (K : W.Frag) (C : Cells) (d : D) (b : Bool) : Prop := ∃ t, TyD K C d t ∧ W.kitAny K t [.type "list", .type "tuple"] = some b
theorem any_str {K : W.Frag} {C : Cells} {s : Str} (h : s.length ≤ 100000) : AnyD K C (.str s) := ⟨⟨_, .str s, kit_ty (show kitB "str" "str" = some true by decide +kernel)⟩, h⟩
theorem txt_join (s : Str) (ys : List Str) : Txt.join s ys = Str.join s ys := StrLaws.glued_eq_join s ys
theorem txt_join_len (s : Str) (ys : List Str) : (Txt.join s ys).length ≤ (ys.map (·.length)).sum + ys.length * s.length := by
  rw [txt_join]; exact StrLaws.join_length_le s ys
theorem seq_ty {K : W.Frag} {C : Cells} {d : D} {xs : List D} (h : SeqD C d xs) : ∃ t, TyD K C d t ∧ W.kitAny K t [.type "list", .type "tuple"] = some true := by
  have kl : W.kitOne K (.type "list") (.type "list") = some true := kit_ty (by decide +kernel)
  have kt : W.kitOne K (.type "tuple") (.type "tuple") = some true := kit_ty (by decide +kernel)
  have klt : W.kitOne K (.type "tuple") (.type "list") = some false := kit_ty (by decide +kernel)
  rcases h with (rfl | ⟨a, rfl, hm⟩) | rfl
  · exact ⟨_, .lst _, kitAny_cons (b := true) kl (fun h => by cases h) (fun _ => rfl)⟩
  · exact ⟨_, .cl hm, kitAny_cons (b := true) kl (fun h => by cases h) (fun _ => rfl)⟩
  · exact ⟨_, .tup _, kitAny_cons (b := false) klt (fun _ => kitAny_cons (b := true) kt (fun h => by cases h) (fun _ => rfl)) (fun h => by cases h)⟩
theorem sq_seq {K : W.Frag} {C : Cells} {d : D} {xs : List D} (h : SeqD C d xs) : SqA K C d true := seq_ty h
theorem s_isSq {K : W.Frag} {C : Cells} {d : D} {b : Bool} {Q : QE} (h : SqA K C d b) (q : Q (.bl b) C) : on2 (pIsI K) [d, .tup [.raw (.ty "list"), .raw (.ty "tuple")]] C Q :=
  let ⟨_, h1, h2⟩ := h
  s_isiT (.cons (.ty _) (.cons (.ty _) .nil)) h1 h2 q
theorem s_isStr {K : W.Frag} {C : Cells} {d : D} {Q : QE} (h : AnyD K C d) (q : Q (.bl (isStr d)) C) : on2 (pIsI K) [d, .raw (.ty "str")] C Q :=
  let ⟨_, h1, h2⟩ := h.ty
  s_isi (.ty _) h1 h2 q
theorem lstD_sub {C C' : Cells} {d : D} {xs : List D} (s : ∀ x ∈ C, x ∈ C') (h : LstD C d xs) : LstD C' d xs := by
  rcases h with h | ⟨a, h, hm⟩
  · exact .inl h
  · exact .inr ⟨a, h, s _ hm⟩
theorem seqD_sub {C C' : Cells} {d : D} {xs : List D} (s : ∀ x ∈ C, x ∈ C') (h : SeqD C d xs) : SeqD C' d xs := by
  rcases h with h | h
  · exact .inl (lstD_sub s h)
  · exact .inr h
theorem atI_in {α : Type} {l : List α} {k : Int} (h0 : 0 ≤ k) (h1 : k < l.length) : ∃ d, atI l k = some d ∧ d ∈ l := by
  unfold atI ixN
  rw [if_pos h0, if_pos h1]
  have h : k.toNat < l.length := by omega
  exact ⟨l[k.toNat], by simp [h], List.getElem_mem h⟩
theorem atI_map {α β : Type} (f : α → β) {l : List α} {k : Int} {x : α} (h : atI l k = some x) : atI (l.map f) k = some (f x) := by
  unfold atI at h ⊢
  rw [List.length_map]
  cases e : ixN l.length k with
  | none => rw [e] at h; cases h
  | some j =>
    rw [e] at h
    have h' : l[j]? = some x := h
    show (l.map f)[j]? = some (f x)
    rw [List.getElem?_map, h']; rfl
theorem atI_head {α : Type} {l : List α} {c : α} (h : l.head? = some c) : atI l 0 = some c := by
  cases l with
  | nil => cases h
  | cons a l =>
    cases h
    unfold atI ixN
    simp
theorem atI_last {α : Type} {l : List α} {x : α} : atI (l ++ [x]) (-1) = some x := by
  unfold atI ixN
  rw [List.length_append, List.length_singleton, if_neg (by decide), if_pos (by omega)]
  show (l ++ [x])[((-1 : Int) + ((l.length + 1 : Nat) : Int)).toNat]? = some x
  rw [show ((-1 : Int) + ((l.length + 1 : Nat) : Int)).toNat = l.length by omega]
  simp
theorem s_ix_at {α : Type} {C : Cells} {Q : QE} {l : List α} {g : α → D} {k : Int} (h0 : 0 ≤ k) (h1 : k < l.length) (q : ∀ a ∈ l, Q (g a) C) : pIx (.lst (l.map g)) (.int k) C Q := by
  obtain ⟨a, e, hm⟩ := atI_in (l := l) h0 h1
  exact s_ix_lst (atI_map g e) (q a hm)
theorem callN_all {F : FS} {ds : List D} {C : Cells} {Q : QE} (h : F ds C Q fun _ _ _ => False) : callN F ds C Q := ⟨C, [], by simp, by simpa using h⟩
end Tr
namespace Tr
open PySem L2 PySem.Spec PyProof.Rows
end Tr
namespace Tr
open PySem L2 PySem.Spec PyProof.Rows
end Tr

set_option maxHeartbeats 2000000
namespace Tr
open PySem L2 PySem.Spec PyProof.Rows
def fdAt (K : W.Frag) (a : Addr) : Option FuncData := match K.lookup a with
  | some ob => (match ob.data with | .func g => some g | _ => none)
  | none => none
theorem fdAt_ok {K : W.Frag} {a : Addr} {g : FuncData} (h : fdAt K a = some g) : ∃ oc od sl, K.lookup a = some ⟨oc, od, .func g, sl⟩ := by
  unfold fdAt at h
  cases e : K.lookup a with
  | none => rw [e] at h; cases h
  | some ob =>
    obtain ⟨c, d, dt, sl⟩ := ob
    rw [e] at h
    cases dt with
    | func g' => cases h; exact ⟨c, d, sl, rfl⟩
    | _ => cases h
def refOr (v : Value) : Addr := match v with
  | .ref a => a
  | _ => 0
def isRefV (v : Value) : Bool := match v with
  | .ref _ => true
  | _ => false
theorem isRefV_ok {v : Value} (h : isRefV v = true) : v = .ref (refOr v) := by cases v <;> first | rfl | cases h
def dfAd (K : W.Frag) (f : Addr) : Addr := match fdAt K f with
  | some g => refOr g.defaults
  | none => 0
def cdAd (K : W.Frag) (f : Addr) : Addr := match fdAt K f with
  | some g => refOr g.code
  | none => 0
def hdAd (l : List (Str × Addr)) : Addr := match l with
  | p :: _ => p.2
  | [] => 0
def clAd (K : W.Frag) (f : Addr) : Addr := match fdAt K f with
  | some g => hdAd g.closure
  | none => 0
def seqAt (K : W.Frag) (a : Addr) : List Value := match K.lookup a with
  | some ob => (match ob.data with | .seq its _ => its.toList | _ => [])
  | none => []
def itAd (K : W.Frag) (a : Addr) (i : Nat) : Addr := match (seqAt K a)[i]? with
  | some v => refOr v
  | none => 0
def cmP (K : W.Frag) (C : Addr) (m : Str) : Addr := match W.findCls K (.ref C) (.type "type") m with
  | some (.get _ p _ _) => refOr p
  | _ => 0
def cmF (K : W.Frag) (C : Addr) (m : Str) : Addr := match W.recIn K (cmP K C m) "classmethod" with
  | some (v :: _) => refOr v
  | _ => 0
abbrev FnX : Type := Option (Str × Str × Arguments × FuncBody × Scope × Addr × List Str × Addr)
def fnX (K : W.Frag) (a : Addr) : FnX := match fdAt K a with
  | some g => some (g.name, g.qualname, g.params, g.body, g.scope, g.globals, g.closure.map (·.1), g.builtins)
  | none => none
structure Df where
  at' : W.Frag → Addr
  name : Str
  qual : Str
  params : Arguments
  body : List Stmt
  scope : Scope
  dfl : W.Frag → List Addr
  cl : List Str
def Df.val (d : Df) : FnX := some (d.name, d.qual, d.params, .stmts d.body, d.scope, mainGlobals, d.cl, builtinsNs)
def Df.ok (K : W.Frag) (d : Df) : Bool := W.keepIn K (.ref (d.at' K)) && (match fdAt K (d.at' K) with
  | some g => W.codeIn K g.code d.qual && He.dflB K g.defaults ((d.dfl K).map V.ref)
  | none => false)
theorem fnX_ok {K : W.Frag} {a : Addr} {d : Df} (e : fnX K a = d.val) : ∃ g oc od sl, fdAt K a = some g ∧ K.lookup a = some ⟨oc, od, .func g, sl⟩ ∧
    g.name = d.name ∧ g.qualname = d.qual ∧ g.params = d.params ∧ g.body = .stmts d.body ∧ g.scope = d.scope ∧ g.globals = mainGlobals ∧ g.closure.map (·.1) = d.cl ∧ g.builtins = builtinsNs := by
  unfold fnX Df.val at e
  cases q : fdAt K a with
  | none => rw [q] at e; cases e
  | some g =>
    rw [q] at e
    obtain ⟨oc, od, sl, h⟩ := fdAt_ok q
    simp only [Option.some.injEq, Prod.mk.injEq] at e
    obtain ⟨h1, h2, h3, h4, h5, h6, h7, h8⟩ := e
    exact ⟨g, oc, od, sl, rfl, h, h1, h2, h3, h4, h5, h6, h7, h8⟩
theorem Df.funD {K : W.Frag} {d : Df} (e : fnX K (d.at' K) = d.val) (c : d.ok K = true) (hc : d.cl = []) : ∃ fd, FunD K d.name d.qual d.params d.body d.scope ((d.dfl K).map V.ref) [] (d.at' K) fd := by
  obtain ⟨g, oc, od, sl, q, lk, h1, h2, h3, h4, h5, h6, h7, h8⟩ := fnX_ok e
  unfold Df.ok at c
  rw [q, Bool.and_eq_true] at c
  obtain ⟨kp, c⟩ := c
  have c2 : W.codeIn K g.code d.qual = true ∧ He.dflB K g.defaults ((d.dfl K).map V.ref) = true := Bool.and_eq_true_iff.mp c
  clear c
  rw [hc, List.map_eq_nil_iff] at h7
  obtain ⟨n1, n2, n3, n4, n5, n6, n7, n8, n9, n10, n11, n12, n13, n14, n15⟩ := g
  dsimp only at h1 h2 h3 h4 h5 h6 h7 h8 c2
  subst h1 h2 h3 h4 h5 h6 h7 h8
  exact ⟨_, ⟨oc, od, n8, n9, n10, n11, n12, n13, n14, sl, rfl, lk, c2.1, He.dflB_ok c2.2, .inl rfl⟩, kp⟩
theorem Df.sup {K : W.Frag} {d : Df} (e : fnX K (d.at' K) = d.val) (c : d.ok K = true) (hc : d.cl = (["__class__"] : List Str)) (hd : d.dfl K = []) (hr : ((fdAt K (d.at' K)).any fun g => isRefV g.code) = true) :
    ∃ oc od kV dc pm an ct sl, K.lookup (d.at' K) = some ⟨oc, od, .func (W.ksFn d.name d.qual d.params d.body d.scope .none kV dc pm an (.ref (cdAd K (d.at' K))) ct (clAd K (d.at' K))), sl⟩ ∧ W.codeIn K (.ref (cdAd K (d.at' K))) d.qual = true := by
  obtain ⟨g, oc, od, sl, q, lk, h1, h2, h3, h4, h5, h6, h7, h8⟩ := fnX_ok e
  unfold Df.ok at c
  rw [q, Bool.and_eq_true] at c
  obtain ⟨kp, c⟩ := c
  have c2 : W.codeIn K g.code d.qual = true ∧ He.dflB K g.defaults ((d.dfl K).map V.ref) = true := Bool.and_eq_true_iff.mp c
  clear c
  rw [hd] at c2
  rw [q] at hr
  have hr : isRefV g.code = true := hr
  have e1 : cdAd K (d.at' K) = refOr g.code := by unfold cdAd; rw [q]
  have e2 : clAd K (d.at' K) = hdAd g.closure := by unfold clAd; rw [q]
  have e3 := isRefV_ok hr
  have e4 : g.defaults = .none := by
    have : He.dflB K g.defaults [] = true := c2.2
    revert this
    generalize g.defaults = v
    intro h
    cases v <;> first | rfl | cases h
  have e5 : g.closure = ([("__class__", hdAd g.closure)] : List (Str × Addr)) := by
    rw [hc] at h7
    revert h7
    generalize g.closure = l
    intro h
    match l, h with
    | [(x, y)], h =>
      have : x = ("__class__" : Str) := by simpa using h
      rw [this]; rfl
  have c1 := c2.1
  clear c2
  rw [e1, e2]
  rw [e3] at c1
  obtain ⟨n1, n2, n3, n4, n5, n6, n7, n8, n9, n10, n11, n12, n13, n14, n15⟩ := g
  dsimp only at h1 h2 h3 h4 h5 h6 h7 h8 e3 e4 e5 c1 lk ⊢
  subst h1 h2 h3 h4 h5 h6 h8 e4
  refine ⟨oc, od, n9, n10, n11, n12, n14, sl, ?_, c1⟩
  rw [lk]
  conv => lhs; rw [e5, e3]
def clsT (K : W.Frag) (C : Addr) : Bool := (W.clsIn K C).isSome
theorem clsT_ok {K : W.Frag} {C : Addr} (h : clsT K C = true) : ∃ cd, W.clsIn K C = some cd := Option.isSome_iff_exists.mp h
def strT (K : W.Frag) (x s : Str) : Bool := match W.nsIn K mainGlobals x with
  | some (some (.str y _)) => decide (y = s)
  | _ => false
theorem strT_ok {K : W.Frag} {x s : Str} (h : strT K x s = true) : ∃ t, W.nsIn K mainGlobals x = some (some (.str s t)) := by
  unfold strT at h
  split at h
  · rename_i y t e
    exact ⟨t, by rw [e, of_decide_eq_true h]⟩
  · cases h
def tupT (K : W.Frag) (a : Addr) (ss : List Str) : Bool := match K.lookup a with
  | some ob => (match ob.cls, ob.data with
    | .type c, .seq its _ => decide (c = "tuple") && (decide (its.size ≤ 100000) && He.relAll (ss.map V.str) its.toList)
    | _, _ => false)
  | none => false
theorem tupT_ok {K : W.Frag} {a : Addr} {ss : List Str} (h : tupT K a ss = true) (H : Hp) : Rep K H (.tup (ss.map D.str)) (.ref a) := by
  unfold tupT at h
  cases q : K.lookup a with
  | none => rw [q] at h; cases h
  | some ob =>
    rw [q] at h
    obtain ⟨c, d, dt, sl⟩ := ob
    cases c with
    | type c =>
      cases dt with
      | seq its n =>
        have h : (decide (c = "tuple") && (decide (its.size ≤ 100000) && He.relAll (ss.map V.str) its.toList)) = true := h
        rw [Bool.and_eq_true, Bool.and_eq_true] at h
        obtain ⟨h1, h2, h3⟩ := h
        have e1 := of_decide_eq_true h1
        subst e1
        refine rep_ktup (its := its.toList) (n := n) (od := d) (osl := sl) (by rw [q, Array.toArray_toList]) (by rw [Array.length_toList]; exact of_decide_eq_true h2) (He.relAll_ok h3) (Reps.strs ss)
      | _ => cases h
    | _ => cases dt <;> cases h
def cmT (K : W.Frag) (C : Addr) (m : Str) : Bool := (match W.findCls K (.ref C) (.type "type") m with
  | some (.get (.builtin b) p .none (.ref c)) => decide (b = "classmethod.__get__") && (isRefV p && decide (c = C))
  | _ => false) && (match W.recIn K (cmP K C m) "classmethod" with
  | some (v :: _) => isRefV v
  | _ => false)
theorem cmT_ok {K : W.Frag} {C : Addr} {m : Str} (h : cmT K C m = true) : W.findCls K (.ref C) (.type "type") m = some (.get (.builtin "classmethod.__get__") (.ref (cmP K C m)) .none (.ref C)) ∧ ∃ rs, W.recIn K (cmP K C m) "classmethod" = some (.ref (cmF K C m) :: rs) := by
  unfold cmT at h
  rw [Bool.and_eq_true] at h
  obtain ⟨h1, h2⟩ := h
  constructor
  · split at h1
    · rename_i b p c e
      rw [Bool.and_eq_true, Bool.and_eq_true] at h1
      obtain ⟨h3, h4, h5⟩ := h1
      have e3 := of_decide_eq_true h3
      have e5 := of_decide_eq_true h5
      subst e3 e5
      have ep : cmP K c m = refOr p := by unfold cmP; rw [e]
      rw [e, ep, ← isRefV_ok h4]
    · cases h1
  · split at h2
    · rename_i v rs e
      have ev : cmF K C m = refOr v := by unfold cmF; rw [e]
      exact ⟨rs, by rw [e, ev, ← isRefV_ok h2]⟩
    · cases h2
def filT (K : W.Frag) (a : Addr) (f : Str) : Bool := match K.lookup a with
  | some ob => (match ob.data with
    | .fields vs => (match (vs[2]? : Option Value) with
      | some (.str z _) => decide (z = f)
      | _ => false)
    | _ => false)
  | none => false
theorem filT_ok {K : W.Frag} {a : Addr} {f : Str} (h : filT K a f = true) : ∃ c d vs s t, K.lookup a = some ⟨c, d, .fields vs, s⟩ ∧ vs[2]? = some (.str f t) := by
  unfold filT at h
  cases q : K.lookup a with
  | none => rw [q] at h; cases h
  | some ob =>
    rw [q] at h
    obtain ⟨c, d, dt, sl⟩ := ob
    cases dt with
    | fields vs =>
      dsimp only at h
      split at h
      · rename_i z t e
        have := of_decide_eq_true h
        subst this
        exact ⟨c, d, vs, sl, t, rfl, e⟩
      · cases h
    | _ => cases h
def celT (K : W.Frag) (a C : Addr) : Bool := match K.lookup a with
  | some ob => (match ob.data with
    | .cell (some v) => isRefV v && decide (refOr v = C)
    | _ => false)
  | none => false
theorem celT_ok {K : W.Frag} {a C : Addr} (h : celT K a C = true) : ∃ c d s, K.lookup a = some ⟨c, d, .cell (some (.ref C)), s⟩ := by
  unfold celT at h
  cases q : K.lookup a with
  | none => rw [q] at h; cases h
  | some ob =>
    rw [q] at h
    obtain ⟨c, d, dt, sl⟩ := ob
    cases dt with
    | cell v =>
      cases v with
      | none => cases h
      | some v =>
        have h : (isRefV v && decide (refOr v = C)) = true := h
        rw [Bool.and_eq_true] at h
        have e := isRefV_ok h.1
        have e2 := of_decide_eq_true h.2
        rw [e2] at e
        exact ⟨c, d, sl, by rw [e]⟩
    | _ => cases h
def excT (K : W.Frag) (C : Addr) (tl : List Value) (nw : String) : Bool := match K.lookup C with
  | some ob => (match ob.cls, ob.data, ob.slots.toList with
    | .type t, .cls cd, [_, _, _, _, some (.builtin n), _] => (match cd.mro with
      | c :: bm => decide (t = "type") && (decide (n = nw) && (isRefV c && (decide (refOr c = C) && (cd.hasDict && (!cd.hasDel && W.excTail tl bm)))))
      | [] => false)
    | _, _, _ => false)
  | none => false
theorem excT_ok {K : W.Frag} {C : Addr} {tl : List Value} {nw : String} (h : excT K C tl nw = true) : ∃ nm qn N bs bm sn sub ab col dd k0 k1 k2 k3 k5,
    K.lookup C = some (excClassObj nm qn C N bs bm true sn sub ab col dd k0 k1 k2 k3 k5 nw) ∧ W.excTail tl bm = true := by
  unfold excT at h
  cases q : K.lookup C with
  | none => rw [q] at h; cases h
  | some ob =>
    rw [q] at h
    obtain ⟨c, dd, dt, sl⟩ := ob
    dsimp only at h
    split at h
    · rename_i t cd k0 k1 k2 k3 n k5 hs
      split at h
      · rename_i c bm hm
        simp only [Bool.and_eq_true] at h
        obtain ⟨h1, h2, h3, h4, h5, h6, h7⟩ := h
        have e1 := of_decide_eq_true h1
        have e2 := of_decide_eq_true h2
        have e3 := isRefV_ok h3
        have e4 := of_decide_eq_true h4
        rw [e4] at e3
        obtain ⟨nm, bs, mro, ns, qn, hd, sn, sub, ab, col, del⟩ := cd
        dsimp only at hm h5 h6 h7
        have h6 : del = false := by simpa using h6
        subst e1 e2 e3 hm h5 h6
        have hsl : sl = #[k0, k1, k2, k3, some (.builtin n), k5] := by
          obtain ⟨l⟩ := sl
          simp only at hs
          rw [hs]
        subst hsl
        exact ⟨nm, qn, ns, bs, bm, sn, sub, ab, col, dd, k0, k1, k2, k3, k5, rfl, h7⟩
      · cases h
    · cases h
def upTo : Nat → List Addr → List Addr
  | 0, l => l
  | n + 1, l => upTo n (n :: l)
abbrev AlX : Type := Bool × List FnX
def obsX (chs : List (List (W.Frag → Bool))) (dfs : List Df) (K : W.Frag) : AlX := ((chs.all fun l => l.all fun t => t K) && dfs.all fun d => d.ok K, dfs.map fun d => fnX K (d.at' K))
def valX (dfs : List Df) : AlX := (true, dfs.map Df.val)
def SaysX (chs : List (List (W.Frag → Bool))) (dfs : List Df) (K : W.Frag) : Prop := obsX chs dfs K = valX dfs
def hookX (as : List Addr) (chs : List (List (W.Frag → Bool))) (dfs : List Df) : W.Hook where
  α := AlX
  obs := fun s => obsX chs dfs (He.frG s.heap.get? as)
  val := fun _ => valX dfs
  says := fun _ h => ∃ K : W.Frag, K.In h ∧ SaysX chs dfs K
  of := fun _ _ e => ⟨_, He.frG_in, e⟩
  keeps := fun _ _ _ ⟨K, hK, c⟩ k => ⟨K, W.Frag.In.keeps hK k, c⟩
def obX (as : List Addr) (chs : List (List (W.Frag → Bool))) (dfs : List Df) (s : W.SharedT) : AlX := obsX chs dfs (He.frG (HandSHeadRun.getT s) as)
theorem obX_eq (as : List Addr) (chs : List (List (W.Frag → Bool))) (dfs : List Df) (s : W.SharedT) : obX as chs dfs s = (hookX as chs dfs).obs s.abs := by
  have e : HandSHeadRun.getT s = s.abs.heap.get? := funext fun a => HandSHeadRun.getT_eq s a
  unfold obX
  rw [e]
  rfl
section
variable {chs : List (List (W.Frag → Bool))} {dfs : List Df} {K : W.Frag}
theorem SaysX.t (c : SaysX chs dfs K) (j i : Nat) {l : List (W.Frag → Bool)} {t : W.Frag → Bool} (hj : chs[j]? = some l) (hi : l[i]? = some t) : t K = true := by
  have h : ((chs.all fun l => l.all fun t => t K) && dfs.all fun d => d.ok K) = true := congrArg (fun z : AlX => z.1) c
  rw [Bool.and_eq_true] at h
  exact List.all_eq_true.mp (List.all_eq_true.mp h.1 l (List.mem_of_getElem? hj)) t (List.mem_of_getElem? hi)
theorem SaysX.d (c : SaysX chs dfs K) (i : Nat) {d : Df} (hi : dfs[i]? = some d) : fnX K (d.at' K) = d.val ∧ d.ok K = true := by
  have h : ((chs.all fun l => l.all fun t => t K) && dfs.all fun d => d.ok K) = true := congrArg (fun z : AlX => z.1) c
  have h2 : (dfs.map fun d => fnX K (d.at' K)) = dfs.map Df.val := congrArg (fun z : AlX => z.2) c
  rw [Bool.and_eq_true] at h
  have h3 : (dfs.map fun d => fnX K (d.at' K))[i]? = (dfs.map Df.val)[i]? := by rw [h2]
  rw [List.getElem?_map, List.getElem?_map, hi] at h3
  exact ⟨Option.some.inj h3, List.all_eq_true.mp h.2 d (List.mem_of_getElem? hi)⟩
end
theorem law_walkX {l : W.OpenLaw} {k : Nat} {q : Program} {loose : List Str} {XP : (Str → Option Value) → Heap → Prop} {as : List Addr} {chs : List (List (W.Frag → Bool))} {dfs : List Df} {d : DefRec} {x : Str}
    (hn : l.most = some 63) (hdf : d.params.defaults = []) (hr : RoomG k callerA)
    (F : ∀ (w : World) (mg : Str → Option Value) (fa : Addr) (h : Heap) (K : W.Frag), K.In h → SaysX chs dfs K → h.Ns mainGlobals mg → mg d.name = some (.ref fa) →
      ∃ fd : FuncData, (∀ (s : Shared) (u : Value), BindsTo s fd ⟨[u], []⟩ [(x, u)]) ∧ ∀ base : Heap, K.In base → base.Ns mainGlobals mg → FnG l.prog w K mg base k fa fd [x] lawFS) :
    W.WalkO q loose XP (hookX as chs dfs).says l.row.toRowW d [] (fun f vs => PySem.call f vs) := by
  refine Att.attach_call hn hdf fun w s₀ s₁ mg mb fa o pm cd doc a vs ns G Y ho hd hcd hmg hobj hints hlen hg => ?_
  obtain ⟨K, KX, hs⟩ := Y
  obtain ⟨fd, hb, hF⟩ := F w mg fa _ K KX hs G.T.g hmg
  exact law_goes KX G.T.g G.T.b G.T.builtins G.T.nolimit hg hobj hints hlen hr hF hb
theorem says_cat {c1 c2 : List (List (W.Frag → Bool))} {d1 d2 : List Df} {K : W.Frag} (h1 : SaysX c1 d1 K) (h2 : SaysX c2 d2 K) : SaysX (c1 ++ c2) (d1 ++ d2) K := by
  have a1 : ((c1.all fun l => l.all fun t => t K) && d1.all fun d => d.ok K) = true := congrArg (fun z : AlX => z.1) h1
  have b1 : (d1.map fun d => fnX K (d.at' K)) = d1.map Df.val := congrArg (fun z : AlX => z.2) h1
  have a2 : ((c2.all fun l => l.all fun t => t K) && d2.all fun d => d.ok K) = true := congrArg (fun z : AlX => z.1) h2
  have b2 : (d2.map fun d => fnX K (d.at' K)) = d2.map Df.val := congrArg (fun z : AlX => z.2) h2
  rw [Bool.and_eq_true] at a1 a2
  unfold SaysX obsX valX
  rw [List.all_append, List.all_append, a1.1, a1.2, a2.1, a2.2, List.map_append, List.map_append, b1, b2]
  rfl
theorem run_cat {r : W.OpenRow} {q : Program} {as : List Addr} {M : Nat} {loose : List Str} {w : World} {chs c1 c2 : List (List (W.Frag → Bool))} {dfs d1 d2 : List Df} (ec : chs = c1 ++ c2) (ed : dfs = d1 ++ d2)
    (h1 : HandSHeadRun.RunEq r q (hookX as c1 d1) (obX as c1 d1) M loose w) (h2 : HandSHeadRun.RunEq r q (hookX as c2 d2) (obX as c2 d2) M loose w) : HandSHeadRun.RunEq r q (hookX as chs dfs) (obX as chs dfs) M loose w := by
  subst ec ed
  intro os
  have a := h1 os
  have b := h2 os
  revert a b
  generalize HandSHeadRun.endF (HandSHeadRun.stepQ (HandSHeadRun.denQ HandSHeadRun.tabQ) r.prog w) M r.prog w os = X
  cases X with
  | none => intro a; cases a
  | some s =>
    intro a b
    have a : (HandSHeadRun.looksF r.prog (W.boot_heap w.params) s.abs, HandSHeadRun.seenQ q loose (importedModules r.prog.main.body) (fun s => W.xlAt q [] s && W.recOk r.toRowW.records s) s.abs, obX as c1 d1 s) = (true, W.openGood q loose, valX d1) := Option.some.inj a
    have b : (HandSHeadRun.looksF r.prog (W.boot_heap w.params) s.abs, HandSHeadRun.seenQ q loose (importedModules r.prog.main.body) (fun s => W.xlAt q [] s && W.recOk r.toRowW.records s) s.abs, obX as c2 d2 s) = (true, W.openGood q loose, valX d2) := Option.some.inj b
    obtain ⟨e1, a⟩ := Prod.mk.inj a
    obtain ⟨e2, a3⟩ := Prod.mk.inj a
    obtain ⟨_, b⟩ := Prod.mk.inj b
    obtain ⟨_, b3⟩ := Prod.mk.inj b
    have c3 : obX as (c1 ++ c2) (d1 ++ d2) s = valX (d1 ++ d2) := says_cat a3 b3
    exact congrArg some (Prod.ext e1 (Prod.ext e2 c3))
end Tr

set_option maxHeartbeats 4000000
namespace Kk
open PySem L2 PySem.Spec PyProof.Rows Tr
def small : Str := "abcdefghijklmnopqrstuvwxyz"
def barred : List Str := ["no", "yes", "do", "if", "and", "not", "then"]
def top (i : Nat) : Stmt := PySem.Challenge.pw_hastypage_k09_whole_other_names.main.body.getD i (.Pass ⟨0, 0, 0, 0⟩)
abbrev s_is_name : Stmt := top 8
abbrev s_is_sequence : Stmt := top 9
abbrev s_are_names : Stmt := top 10
abbrev s_is_targets : Stmt := top 12
abbrev s_are_kinds : Stmt := top 13
abbrev s_are_some : Stmt := top 14
abbrev s_is_book_line : Stmt := top 16
abbrev s_may_follow : Stmt := top 17
abbrev s__law_deal : Stmt := top 19
abbrev s__law_draw : Stmt := top 20
abbrev s__law_mixed : Stmt := top 21
abbrev s__law_words : Stmt := top 22
abbrev s__law_book : Stmt := top 23
abbrev s__law_book_text : Stmt := top 24
abbrev s__law_led : Stmt := top 25
abbrev s_law : Stmt := top 26
abbrev s_Book_init : Stmt := inClass (top 15) 0
abbrev s_Book_read : Stmt := inClass (top 15) 1
abbrev s_Book_need_kind : Stmt := inClass (top 15) 2
abbrev s_Book_target : Stmt := inClass (top 15) 3
abbrev s_Book_without : Stmt := inClass (top 15) 4
abbrev s_Book_eq : Stmt := inClass (top 15) 5
abbrev s_Book_str : Stmt := inClass (top 15) 6
theorem sc_is_name : FnScope ["value", "letter"] ["value"] (defScope s_is_name) := ⟨rfl, rfl, rfl, by decide +kernel, rfl, by decide +kernel, by decide +kernel⟩
theorem sc_is_sequence : FnScope ["value"] ["value"] (defScope s_is_sequence) := ⟨rfl, rfl, rfl, by decide +kernel, rfl, by decide +kernel, by decide +kernel⟩
theorem sc_are_names : FnScope ["value", "at", "name"] ["value"] (defScope s_are_names) := ⟨rfl, rfl, rfl, by decide +kernel, rfl, by decide +kernel, by decide +kernel⟩
theorem sc_is_targets : FnScope ["value", "values", "one"] ["value", "values"] (defScope s_is_targets) := ⟨rfl, rfl, rfl, by decide +kernel, rfl, by decide +kernel, by decide +kernel⟩
theorem sc_are_kinds : FnScope ["value", "values", "one"] ["value", "values"] (defScope s_are_kinds) := ⟨rfl, rfl, rfl, by decide +kernel, rfl, by decide +kernel, by decide +kernel⟩
theorem sc_are_some : FnScope ["value", "names", "name"] ["value", "names"] (defScope s_are_some) := ⟨rfl, rfl, rfl, by decide +kernel, rfl, by decide +kernel, by decide +kernel⟩
theorem sc_is_book_line : FnScope ["words", "word"] ["words"] (defScope s_is_book_line) := ⟨rfl, rfl, rfl, by decide +kernel, rfl, by decide +kernel, by decide +kernel⟩
theorem sc_may_follow : FnScope ["word", "last", "places"] ["word", "last"] (defScope s_may_follow) := ⟨rfl, rfl, rfl, by decide +kernel, rfl, by decide +kernel, by decide +kernel⟩
theorem sc__law_deal : FnScope ["_law_script", "_law_base", "_law_cells", "_law_blend", "_law_cell"] ["_law_script", "_law_base"] (defScope s__law_deal) := ⟨rfl, rfl, rfl, by decide +kernel, rfl, by decide +kernel, by decide +kernel⟩
theorem sc__law_draw : FnScope ["_law_deal_here", "_law_amount", "_law_left"] ["_law_deal_here", "_law_amount"] (defScope s__law_draw) := ⟨rfl, rfl, rfl, by decide +kernel, rfl, by decide +kernel, by decide +kernel⟩
theorem sc__law_mixed : FnScope ["_law_deal_here", "_law_some", "_law_left", "_law_found"] ["_law_deal_here", "_law_some"] (defScope s__law_mixed) := ⟨rfl, rfl, rfl, by decide +kernel, rfl, by decide +kernel, by decide +kernel⟩
theorem sc__law_words : FnScope ["_law_deal_here", "_law_many", "_law_some"] ["_law_deal_here", "_law_many"] (defScope s__law_words) := ⟨rfl, rfl, rfl, by decide +kernel, rfl, by decide +kernel, by decide +kernel⟩
theorem sc__law_book : FnScope ["_law_deal_here", "_law_most", "_law_some", "_law_names", "_law_kinds", "_law_name", "_law_loose", "_law_one"] ["_law_deal_here", "_law_most"] (defScope s__law_book) := ⟨rfl, rfl, rfl, by decide +kernel, rfl, by decide +kernel, by decide +kernel⟩
theorem sc__law_book_text : FnScope ["_law_form", "_law_some", "_law_kinds", "_law_loose", "_law_others", "_law_lines", "_law_name", "_law_targets", "_law_head", "_law_names", "_law_told", "_law_one"] ["_law_form"] (defScope s__law_book_text) := ⟨rfl, rfl, rfl, by decide +kernel, rfl, by decide +kernel, by decide +kernel⟩
theorem sc__law_led : FnScope ["_law_form", "_law_led_here", "_law_some", "_law_kinds", "_law_loose", "_law_others", "_law_told", "_law_name", "_law_targets", "_law_one"] ["_law_form", "_law_led_here"] (defScope s__law_led) := ⟨rfl, rfl, rfl, by decide +kernel, rfl, by decide +kernel, by decide +kernel⟩
theorem sc_law : FnScope ["_law_script", "_law_deal_here", "_law_words_here", "_law_fresh", "_law_turn", "_law_form", "_law_led_here", "_law_one", "_law_other", "_law_made", "_law_name", "_law_targets", "_law_value", "_law_target", "_law_less", "_law_bare", "_law_word", "_law_pair", "_law_kind"] ["_law_script"] (defScope s_law) := ⟨rfl, rfl, rfl, by decide +kernel, rfl, by decide +kernel, by decide +kernel⟩
theorem sc_Book_init : FnScope ["self", "choices", "kinds", "loose", "others", "name", "targets"] ["self", "choices", "kinds", "loose", "others"] (defScope s_Book_init) := ⟨rfl, rfl, rfl, by decide +kernel, rfl, by decide +kernel, by decide +kernel⟩
theorem sc_Book_read : FnScope ["cls", "text", "lines", "found", "last", "at", "line", "words", "word"] ["cls", "text"] (defScope s_Book_read) := ⟨rfl, rfl, rfl, by decide +kernel, rfl, by decide +kernel, by decide +kernel⟩
theorem sc_Book_need_kind : FnScope ["self", "kind"] ["self", "kind"] (defScope s_Book_need_kind) := ⟨rfl, rfl, rfl, by decide +kernel, rfl, by decide +kernel, by decide +kernel⟩
theorem sc_Book_target : FnScope ["self", "kind", "value"] ["self", "kind", "value"] (defScope s_Book_target) := ⟨rfl, rfl, rfl, by decide +kernel, rfl, by decide +kernel, by decide +kernel⟩
theorem sc_Book_without : FnScope ["self", "kind", "kinds", "loose", "name"] ["self", "kind"] (defScope s_Book_without) := ⟨rfl, rfl, rfl, by decide +kernel, rfl, by decide +kernel, by decide +kernel⟩
theorem sc_Book_eq : FnScope ["self", "other"] ["self", "other"] (defScope s_Book_eq) := ⟨rfl, rfl, rfl, by decide +kernel, rfl, by decide +kernel, by decide +kernel⟩
theorem sc_Book_str : FnScope ["self", "lines", "name", "one"] ["self"] (defScope s_Book_str) := ⟨rfl, rfl, rfl, by decide +kernel, rfl, by decide +kernel, by decide +kernel⟩
abbrev s_InvalidBook_init : Stmt := inClass (top 2) 0
abbrev s_InvalidText_init : Stmt := inClass (top 3) 0
abbrev s_NoKind_init : Stmt := inClass (top 4) 0
theorem sup_InvalidBook {P : Program} {K : W.Frag} {mg : Str → Option Value} {c_InvalidBook f_InvalidBook_init cda_InvalidBook cc_InvalidBook N_InvalidBook : Addr} {nm_InvalidBook qn_InvalidBook : Str} {bs_InvalidBook bm_InvalidBook sub_InvalidBook : List Value} {sn_InvalidBook : List Str} {ab_InvalidBook : Bool} {col_InvalidBook : Option Bool} {dd_InvalidBook od_InvalidBook an_InvalidBook cdd_InvalidBook cld_InvalidBook : Option Addr} {k0_InvalidBook k1_InvalidBook k2_InvalidBook k3_InvalidBook k5_InvalidBook : Option Value} {oc_InvalidBook kV_InvalidBook dc_InvalidBook pm_InvalidBook ct_InvalidBook ccl_InvalidBook cl0_InvalidBook : Value} {sl_InvalidBook ccs_InvalidBook csl_InvalidBook : Array (Option Value)} {vs_InvalidBook : Array Value} {file_InvalidBook : Str} {tf_InvalidBook : Tok}
    (lc : K.lookup c_InvalidBook = some (excClassObj nm_InvalidBook qn_InvalidBook c_InvalidBook N_InvalidBook bs_InvalidBook bm_InvalidBook true sn_InvalidBook sub_InvalidBook ab_InvalidBook col_InvalidBook dd_InvalidBook k0_InvalidBook k1_InvalidBook k2_InvalidBook k3_InvalidBook k5_InvalidBook "ValueError.__new__")) (rv : W.excTail [.type "ValueError", .type "Exception", .type "BaseException", .type "object"] bm_InvalidBook = true) (sa : W.findIn K (.ref c_InvalidBook) "__setattr__" = some (some (.builtin "object.__setattr__"))) (no : W.findIn K (.ref c_InvalidBook) "word" = some none)
    (lf : K.lookup f_InvalidBook_init = some ⟨oc_InvalidBook, od_InvalidBook, .func (W.ksFn "__init__" "InvalidBook.__init__" (defArgs s_InvalidBook_init) (defBody s_InvalidBook_init) (defScope s_InvalidBook_init) .none kV_InvalidBook dc_InvalidBook pm_InvalidBook an_InvalidBook (.ref cda_InvalidBook) ct_InvalidBook cc_InvalidBook), sl_InvalidBook⟩) (lcd : K.lookup cda_InvalidBook = some ⟨ccl_InvalidBook, cdd_InvalidBook, .fields vs_InvalidBook, ccs_InvalidBook⟩) (hv : vs_InvalidBook[2]? = some (.str file_InvalidBook tf_InvalidBook)) (hf : ((P.main.file : Str) == file_InvalidBook) = true) (ci : W.codeIn K (.ref cda_InvalidBook) "InvalidBook.__init__" = true)
    (lcc : K.lookup cc_InvalidBook = some ⟨cl0_InvalidBook, cld_InvalidBook, .cell (some (.ref c_InvalidBook)), csl_InvalidBook⟩) (zs : mg "super" = none) (zt : (P.main.scope.names.lookup ("super" : Str)).isSome = false) (za : W.nsIn K cStatics "thirdparty.any" = some none) (si : W.ks_superIn K c_InvalidBook c_InvalidBook "__init__" = some (some (.builtin "ValueError.__init__"))) (sv : W.subIn K (.ref c_InvalidBook) (.type "ValueError") = some true) :
    SupRun P K mg c_InvalidBook f_InvalidBook_init "word" := fun w A R hp g d t os mb a t0 v X hg hb hbb hlim hroom ha hKa hq =>
  sup_init (selfN := "self") (argN := "word") xf_ValueError X hg hb hbb hlim lc rv sa no lf lcd hv hf ci lcc zs (by rfl) (by rfl) (by rfl) (by rfl) (by rfl) (by decide) (by rfl) (by rfl) (by rfl) (by rfl) (by decide +kernel) (by rfl) (by rfl) (fun s => BindsTo.of_eq (by rfl)) zt za si sv (by rfl) hroom (fun _ => by rfl) (fun _ => by rfl) (fun _ => by rfl) _ (fun _ => by rfl) ha hKa hq
theorem sup_InvalidText {P : Program} {K : W.Frag} {mg : Str → Option Value} {c_InvalidText f_InvalidText_init cda_InvalidText cc_InvalidText N_InvalidText : Addr} {nm_InvalidText qn_InvalidText : Str} {bs_InvalidText bm_InvalidText sub_InvalidText : List Value} {sn_InvalidText : List Str} {ab_InvalidText : Bool} {col_InvalidText : Option Bool} {dd_InvalidText od_InvalidText an_InvalidText cdd_InvalidText cld_InvalidText : Option Addr} {k0_InvalidText k1_InvalidText k2_InvalidText k3_InvalidText k5_InvalidText : Option Value} {oc_InvalidText kV_InvalidText dc_InvalidText pm_InvalidText ct_InvalidText ccl_InvalidText cl0_InvalidText : Value} {sl_InvalidText ccs_InvalidText csl_InvalidText : Array (Option Value)} {vs_InvalidText : Array Value} {file_InvalidText : Str} {tf_InvalidText : Tok}
    (lc : K.lookup c_InvalidText = some (excClassObj nm_InvalidText qn_InvalidText c_InvalidText N_InvalidText bs_InvalidText bm_InvalidText true sn_InvalidText sub_InvalidText ab_InvalidText col_InvalidText dd_InvalidText k0_InvalidText k1_InvalidText k2_InvalidText k3_InvalidText k5_InvalidText "ValueError.__new__")) (rv : W.excTail [.type "ValueError", .type "Exception", .type "BaseException", .type "object"] bm_InvalidText = true) (sa : W.findIn K (.ref c_InvalidText) "__setattr__" = some (some (.builtin "object.__setattr__"))) (no : W.findIn K (.ref c_InvalidText) "at" = some none)
    (lf : K.lookup f_InvalidText_init = some ⟨oc_InvalidText, od_InvalidText, .func (W.ksFn "__init__" "InvalidText.__init__" (defArgs s_InvalidText_init) (defBody s_InvalidText_init) (defScope s_InvalidText_init) .none kV_InvalidText dc_InvalidText pm_InvalidText an_InvalidText (.ref cda_InvalidText) ct_InvalidText cc_InvalidText), sl_InvalidText⟩) (lcd : K.lookup cda_InvalidText = some ⟨ccl_InvalidText, cdd_InvalidText, .fields vs_InvalidText, ccs_InvalidText⟩) (hv : vs_InvalidText[2]? = some (.str file_InvalidText tf_InvalidText)) (hf : ((P.main.file : Str) == file_InvalidText) = true) (ci : W.codeIn K (.ref cda_InvalidText) "InvalidText.__init__" = true)
    (lcc : K.lookup cc_InvalidText = some ⟨cl0_InvalidText, cld_InvalidText, .cell (some (.ref c_InvalidText)), csl_InvalidText⟩) (zs : mg "super" = none) (zt : (P.main.scope.names.lookup ("super" : Str)).isSome = false) (za : W.nsIn K cStatics "thirdparty.any" = some none) (si : W.ks_superIn K c_InvalidText c_InvalidText "__init__" = some (some (.builtin "ValueError.__init__"))) (sv : W.subIn K (.ref c_InvalidText) (.type "ValueError") = some true) :
    SupRun P K mg c_InvalidText f_InvalidText_init "at" := fun w A R hp g d t os mb a t0 v X hg hb hbb hlim hroom ha hKa hq =>
  sup_init (selfN := "self") (argN := "at") xf_ValueError X hg hb hbb hlim lc rv sa no lf lcd hv hf ci lcc zs (by rfl) (by rfl) (by rfl) (by rfl) (by rfl) (by decide) (by rfl) (by rfl) (by rfl) (by rfl) (by decide +kernel) (by rfl) (by rfl) (fun s => BindsTo.of_eq (by rfl)) zt za si sv (by rfl) hroom (fun _ => by rfl) (fun _ => by rfl) (fun _ => by rfl) _ (fun _ => by rfl) ha hKa hq
theorem sup_NoKind {P : Program} {K : W.Frag} {mg : Str → Option Value} {c_NoKind f_NoKind_init cda_NoKind cc_NoKind N_NoKind : Addr} {nm_NoKind qn_NoKind : Str} {bs_NoKind bm_NoKind sub_NoKind : List Value} {sn_NoKind : List Str} {ab_NoKind : Bool} {col_NoKind : Option Bool} {dd_NoKind od_NoKind an_NoKind cdd_NoKind cld_NoKind : Option Addr} {k0_NoKind k1_NoKind k2_NoKind k3_NoKind k5_NoKind : Option Value} {oc_NoKind kV_NoKind dc_NoKind pm_NoKind ct_NoKind ccl_NoKind cl0_NoKind : Value} {sl_NoKind ccs_NoKind csl_NoKind : Array (Option Value)} {vs_NoKind : Array Value} {file_NoKind : Str} {tf_NoKind : Tok}
    (lc : K.lookup c_NoKind = some (excClassObj nm_NoKind qn_NoKind c_NoKind N_NoKind bs_NoKind bm_NoKind true sn_NoKind sub_NoKind ab_NoKind col_NoKind dd_NoKind k0_NoKind k1_NoKind k2_NoKind k3_NoKind k5_NoKind "LookupError.__new__")) (rv : W.excTail [.type "KeyError", .type "LookupError", .type "Exception", .type "BaseException", .type "object"] bm_NoKind = true) (sa : W.findIn K (.ref c_NoKind) "__setattr__" = some (some (.builtin "object.__setattr__"))) (no : W.findIn K (.ref c_NoKind) "name" = some none)
    (lf : K.lookup f_NoKind_init = some ⟨oc_NoKind, od_NoKind, .func (W.ksFn "__init__" "NoKind.__init__" (defArgs s_NoKind_init) (defBody s_NoKind_init) (defScope s_NoKind_init) .none kV_NoKind dc_NoKind pm_NoKind an_NoKind (.ref cda_NoKind) ct_NoKind cc_NoKind), sl_NoKind⟩) (lcd : K.lookup cda_NoKind = some ⟨ccl_NoKind, cdd_NoKind, .fields vs_NoKind, ccs_NoKind⟩) (hv : vs_NoKind[2]? = some (.str file_NoKind tf_NoKind)) (hf : ((P.main.file : Str) == file_NoKind) = true) (ci : W.codeIn K (.ref cda_NoKind) "NoKind.__init__" = true)
    (lcc : K.lookup cc_NoKind = some ⟨cl0_NoKind, cld_NoKind, .cell (some (.ref c_NoKind)), csl_NoKind⟩) (zs : mg "super" = none) (zt : (P.main.scope.names.lookup ("super" : Str)).isSome = false) (za : W.nsIn K cStatics "thirdparty.any" = some none) (si : W.ks_superIn K c_NoKind c_NoKind "__init__" = some (some (.builtin "KeyError.__init__"))) (sv : W.subIn K (.ref c_NoKind) (.type "KeyError") = some true) :
    SupRun P K mg c_NoKind f_NoKind_init "name" := fun w A R hp g d t os mb a t0 v X hg hb hbb hlim hroom ha hKa hq =>
  sup_init (selfN := "self") (argN := "name") xf_KeyError X hg hb hbb hlim lc rv sa no lf lcd hv hf ci lcc zs (by rfl) (by rfl) (by rfl) (by rfl) (by rfl) (by decide) (by rfl) (by rfl) (by rfl) (by rfl) (by decide +kernel) (by rfl) (by rfl) (fun s => BindsTo.of_eq (by rfl)) zt za si sv (by rfl) hroom (fun _ => by rfl) (fun _ => by rfl) (fun _ => by rfl) _ (fun _ => by rfl) ha hKa hq
structure Tp0 (prog : Program) (K : W.Frag) (mg : Str → Option Value) where
  c_Book : Addr
  f_is_name : Addr
  d_is_name : FuncData
  f_is_sequence : Addr
  d_is_sequence : FuncData
  f_are_names : Addr
  d_are_names : FuncData
  f_is_targets : Addr
  d_is_targets : FuncData
  f_are_kinds : Addr
  d_are_kinds : FuncData
  f_are_some : Addr
  d_are_some : FuncData
  f_is_book_line : Addr
  d_is_book_line : FuncData
  f_may_follow : Addr
  d_may_follow : FuncData
  f__law_deal : Addr
  d__law_deal : FuncData
  f__law_draw : Addr
  d__law_draw : FuncData
  f__law_mixed : Addr
  d__law_mixed : FuncData
  f__law_words : Addr
  d__law_words : FuncData
  f__law_book : Addr
  d__law_book : FuncData
  f__law_book_text : Addr
  d__law_book_text : FuncData
  f__law_led : Addr
  d__law_led : FuncData
  f_law : Addr
  d_law : FuncData
  f_Book_init : Addr
  d_Book_init : FuncData
  f_Book_read : Addr
  d_Book_read : FuncData
  f_Book_need_kind : Addr
  d_Book_need_kind : FuncData
  f_Book_target : Addr
  d_Book_target : FuncData
  f_Book_without : Addr
  d_Book_without : FuncData
  f_Book_eq : Addr
  d_Book_eq : FuncData
  f_Book_str : Addr
  d_Book_str : FuncData
  a_BARRED : Addr
  e_Book_init_0 : Addr
  e_Book_init_1 : Addr
structure Tp1 (prog : Program) (K : W.Frag) (mg : Str → Option Value) extends Tp0 prog K mg where
  i_Book : ClsI K c_Book
  g_Book : mg "Book" = some (.ref c_Book)
  na_Book_choices : NoAttr K c_Book "choices"
  na_Book_kinds : NoAttr K c_Book "kinds"
  na_Book_targets : NoAttr K c_Book "targets"
  na_Book_loose : NoAttr K c_Book "loose"
  na_Book_others : NoAttr K c_Book "others"
  isi_Book_list : W.kitOne K (.type "list") (.ref c_Book) = some false
  isi_Book_tuple : W.kitOne K (.type "tuple") (.ref c_Book) = some false
  isi_Book_str : W.kitOne K (.type "str") (.ref c_Book) = some false
  isi_Book_int : W.kitOne K (.type "int") (.ref c_Book) = some false
  isi_Book_bool : W.kitOne K (.type "bool") (.ref c_Book) = some false
  isi_Book_NoneType : W.kitOne K (.type "NoneType") (.ref c_Book) = some false
  kin_Book_list : W.kitOne K (.ref c_Book) (.type "list") = some false
  kin_Book_tuple : W.kitOne K (.ref c_Book) (.type "tuple") = some false
  kin_Book_str : W.kitOne K (.ref c_Book) (.type "str") = some false
  kin_Book_int : W.kitOne K (.ref c_Book) (.type "int") = some false
  kin_Book_bool : W.kitOne K (.ref c_Book) (.type "bool") = some false
  nf_Book_Book : W.notFirst K c_Book (.ref c_Book) = true
  nf_Book_list : W.notFirst K c_Book (.type "list") = true
  nf_Book_tuple : W.notFirst K c_Book (.type "tuple") = true
  nf_Book_str : W.notFirst K c_Book (.type "str") = true
  nf_Book_int : W.notFirst K c_Book (.type "int") = true
  nf_Book_bool : W.notFirst K c_Book (.type "bool") = true
  nf_Book_NoneType : W.notFirst K c_Book (.type "NoneType") = true
  ne_Book : W.findIn K (.ref c_Book) "__ne__" = some (some (.builtin "object.__ne__"))
  g_is_name : mg "is_name" = some (.ref f_is_name)
  F_is_name : FunD K "is_name" "is_name" (defArgs s_is_name) (defBody s_is_name) (defScope s_is_name) [] [] f_is_name d_is_name
  b_is_name : Binds K d_is_name ["value"] []
  g_is_sequence : mg "is_sequence" = some (.ref f_is_sequence)
  F_is_sequence : FunD K "is_sequence" "is_sequence" (defArgs s_is_sequence) (defBody s_is_sequence) (defScope s_is_sequence) [] [] f_is_sequence d_is_sequence
  b_is_sequence : Binds K d_is_sequence ["value"] []
  g_are_names : mg "are_names" = some (.ref f_are_names)
  F_are_names : FunD K "are_names" "are_names" (defArgs s_are_names) (defBody s_are_names) (defScope s_are_names) [] [] f_are_names d_are_names
  b_are_names : Binds K d_are_names ["value"] []
  g_is_targets : mg "is_targets" = some (.ref f_is_targets)
  F_is_targets : FunD K "is_targets" "is_targets" (defArgs s_is_targets) (defBody s_is_targets) (defScope s_is_targets) [] [] f_is_targets d_is_targets
  b_is_targets : Binds K d_is_targets ["value", "values"] []
  g_are_kinds : mg "are_kinds" = some (.ref f_are_kinds)
  F_are_kinds : FunD K "are_kinds" "are_kinds" (defArgs s_are_kinds) (defBody s_are_kinds) (defScope s_are_kinds) [] [] f_are_kinds d_are_kinds
  b_are_kinds : Binds K d_are_kinds ["value", "values"] []
  g_are_some : mg "are_some" = some (.ref f_are_some)
  F_are_some : FunD K "are_some" "are_some" (defArgs s_are_some) (defBody s_are_some) (defScope s_are_some) [] [] f_are_some d_are_some
  b_are_some : Binds K d_are_some ["value", "names"] []
  g_is_book_line : mg "is_book_line" = some (.ref f_is_book_line)
  F_is_book_line : FunD K "is_book_line" "is_book_line" (defArgs s_is_book_line) (defBody s_is_book_line) (defScope s_is_book_line) [] [] f_is_book_line d_is_book_line
  b_is_book_line : Binds K d_is_book_line ["words"] []
  g_may_follow : mg "may_follow" = some (.ref f_may_follow)
  F_may_follow : FunD K "may_follow" "may_follow" (defArgs s_may_follow) (defBody s_may_follow) (defScope s_may_follow) [] [] f_may_follow d_may_follow
  b_may_follow : Binds K d_may_follow ["word", "last"] []
structure Tp2 (prog : Program) (K : W.Frag) (mg : Str → Option Value) extends Tp1 prog K mg where
  g__law_deal : mg "_law_deal" = some (.ref f__law_deal)
  F__law_deal : FunD K "_law_deal" "_law_deal" (defArgs s__law_deal) (defBody s__law_deal) (defScope s__law_deal) [] [] f__law_deal d__law_deal
  b__law_deal : Binds K d__law_deal ["_law_script", "_law_base"] []
  g__law_draw : mg "_law_draw" = some (.ref f__law_draw)
  F__law_draw : FunD K "_law_draw" "_law_draw" (defArgs s__law_draw) (defBody s__law_draw) (defScope s__law_draw) [] [] f__law_draw d__law_draw
  b__law_draw : Binds K d__law_draw ["_law_deal_here", "_law_amount"] []
  g__law_mixed : mg "_law_mixed" = some (.ref f__law_mixed)
  F__law_mixed : FunD K "_law_mixed" "_law_mixed" (defArgs s__law_mixed) (defBody s__law_mixed) (defScope s__law_mixed) [] [] f__law_mixed d__law_mixed
  b__law_mixed : Binds K d__law_mixed ["_law_deal_here", "_law_some"] []
  g__law_words : mg "_law_words" = some (.ref f__law_words)
  F__law_words : FunD K "_law_words" "_law_words" (defArgs s__law_words) (defBody s__law_words) (defScope s__law_words) [] [] f__law_words d__law_words
  b__law_words : Binds K d__law_words ["_law_deal_here", "_law_many"] []
  g__law_book : mg "_law_book" = some (.ref f__law_book)
  F__law_book : FunD K "_law_book" "_law_book" (defArgs s__law_book) (defBody s__law_book) (defScope s__law_book) [] [] f__law_book d__law_book
  b__law_book : Binds K d__law_book ["_law_deal_here", "_law_most"] []
  g__law_book_text : mg "_law_book_text" = some (.ref f__law_book_text)
  F__law_book_text : FunD K "_law_book_text" "_law_book_text" (defArgs s__law_book_text) (defBody s__law_book_text) (defScope s__law_book_text) [] [] f__law_book_text d__law_book_text
  b__law_book_text : Binds K d__law_book_text ["_law_form"] []
  g__law_led : mg "_law_led" = some (.ref f__law_led)
  F__law_led : FunD K "_law_led" "_law_led" (defArgs s__law_led) (defBody s__law_led) (defScope s__law_led) [] [] f__law_led d__law_led
  b__law_led : Binds K d__law_led ["_law_form", "_law_led_here"] []
  g_law : mg "law" = some (.ref f_law)
  F_law : FunD K "law" "law" (defArgs s_law) (defBody s_law) (defScope s_law) [] [] f_law d_law
  b_law : Binds K d_law ["_law_script"] []
  mk_Book : Mk K c_Book f_Book_init
  F_Book_init : FunD K "__init__" "Book.__init__" (defArgs s_Book_init) (defBody s_Book_init) (defScope s_Book_init) [.ref e_Book_init_0, .ref e_Book_init_1] [] f_Book_init d_Book_init
  b_Book_init : Binds K d_Book_init ["self", "choices", "kinds", "loose", "others"] []
  b0_Book_init : ∃ ds, Vals [.ref e_Book_init_0, .ref e_Book_init_1] ds ∧ Binds K d_Book_init ["self", "choices", "kinds", "loose", "others"] ds
  b1_Book_init : ∃ ds, Vals [.ref e_Book_init_1] ds ∧ Binds K d_Book_init ["self", "choices", "kinds", "loose", "others"] ds
  m_Book_read : CMetT K c_Book "read" f_Book_read
  F_Book_read : FunD K "read" "Book.read" (defArgs s_Book_read) (defBody s_Book_read) (defScope s_Book_read) [] [] f_Book_read d_Book_read
  b_Book_read : Binds K d_Book_read ["cls", "text"] []
  m_Book_need_kind : Meth K c_Book "need_kind" f_Book_need_kind
  F_Book_need_kind : FunD K "need_kind" "Book.need_kind" (defArgs s_Book_need_kind) (defBody s_Book_need_kind) (defScope s_Book_need_kind) [] [] f_Book_need_kind d_Book_need_kind
  b_Book_need_kind : Binds K d_Book_need_kind ["self", "kind"] []
  m_Book_target : Meth K c_Book "target" f_Book_target
  F_Book_target : FunD K "target" "Book.target" (defArgs s_Book_target) (defBody s_Book_target) (defScope s_Book_target) [] [] f_Book_target d_Book_target
  b_Book_target : Binds K d_Book_target ["self", "kind", "value"] []
  m_Book_without : Meth K c_Book "without" f_Book_without
  F_Book_without : FunD K "without" "Book.without" (defArgs s_Book_without) (defBody s_Book_without) (defScope s_Book_without) [] [] f_Book_without d_Book_without
  b_Book_without : Binds K d_Book_without ["self", "kind"] []
  m_Book_eq : W.findIn K (.ref c_Book) "__eq__" = some (some (.ref f_Book_eq))
  n_Book_eq : W.isFn K (.ref f_Book_eq) = true
  F_Book_eq : FunD K "__eq__" "Book.__eq__" (defArgs s_Book_eq) (defBody s_Book_eq) (defScope s_Book_eq) [] [] f_Book_eq d_Book_eq
  b_Book_eq : Binds K d_Book_eq ["self", "other"] []
  m_Book_str : W.findIn K (.ref c_Book) "__str__" = some (some (.ref f_Book_str))
  n_Book_str : W.isFn K (.ref f_Book_str) = true
  F_Book_str : FunD K "__str__" "Book.__str__" (defArgs s_Book_str) (defBody s_Book_str) (defScope s_Book_str) [] [] f_Book_str d_Book_str
  b_Book_str : Binds K d_Book_str ["self"] []
  c_HastyError : Addr
structure Tp (prog : Program) (K : W.Frag) (mg : Str → Option Value) extends Tp2 prog K mg where
  g_HastyError : mg "HastyError" = some (.ref c_HastyError)
  c_InvalidBook : Addr
  g_InvalidBook : mg "InvalidBook" = some (.ref c_InvalidBook)
  xf_InvalidBook : XfC K c_InvalidBook
  xc_InvalidBook : ExcC K c_InvalidBook
  na_InvalidBook_word : W.findIn K (.ref c_InvalidBook) "word" = some none
  x_InvalidBook : XCls prog K mg c_InvalidBook "word"
  c_InvalidText : Addr
  g_InvalidText : mg "InvalidText" = some (.ref c_InvalidText)
  xf_InvalidText : XfC K c_InvalidText
  xc_InvalidText : ExcC K c_InvalidText
  na_InvalidText_at : W.findIn K (.ref c_InvalidText) "at" = some none
  x_InvalidText : XCls prog K mg c_InvalidText "at"
  c_NoKind : Addr
  g_NoKind : mg "NoKind" = some (.ref c_NoKind)
  xf_NoKind : XfC K c_NoKind
  xc_NoKind : ExcC K c_NoKind
  na_NoKind_name : W.findIn K (.ref c_NoKind) "name" = some none
  x_NoKind : XCls prog K mg c_NoKind "name"
  exm_InvalidBook_InvalidBook : W.exmOne K (.ref c_InvalidBook) (.ref c_InvalidBook) = some true
  exm_InvalidText_InvalidText : W.exmOne K (.ref c_InvalidText) (.ref c_InvalidText) = some true
  exm_NoKind_NoKind : W.exmOne K (.ref c_NoKind) (.ref c_NoKind) = some true
  isx_InvalidBook_HastyError : W.kitOne K (.ref c_InvalidBook) (.ref c_HastyError) = some true
  isx_InvalidText_HastyError : W.kitOne K (.ref c_InvalidText) (.ref c_HastyError) = some true
  isx_NoKind_HastyError : W.kitOne K (.ref c_NoKind) (.ref c_HastyError) = some false
  z_abs : mg "abs" = none
  z_all : mg "all" = none
  z_dict : mg "dict" = none
  z_enumerate : mg "enumerate" = none
  z_int : mg "int" = none
  z_isinstance : mg "isinstance" = none
  z_len : mg "len" = none
  z_list : mg "list" = none
  z_range : mg "range" = none
  z_str : mg "str" = none
  z_tuple : mg "tuple" = none
  z_zip : mg "zip" = none
  g_SMALL : ∃ t, mg "SMALL" = some (.str "abcdefghijklmnopqrstuvwxyz" t)
  g_BARRED : mg "BARRED" = some (.ref a_BARRED)
  r_BARRED : ∀ H : Hp, Rep K H (.tup (barred.map D.str)) (.ref a_BARRED)
  re_Book_init_0 : ∀ H : Hp, Rep K H (.tup []) (.ref e_Book_init_0)
  re_Book_init_1 : ∀ H : Hp, Rep K H (.tup []) (.ref e_Book_init_1)
theorem tp_fa {P : Program} {K : W.Frag} {mg : Str → Option Value} {fa : Addr} (h : mg "law" = some (.ref fa)) (T : Nonempty (Tp P K mg)) : ∃ T : Tp P K mg, T.f_law = fa := by
  obtain ⟨T⟩ := T
  refine ⟨T, ?_⟩
  have e := h.symm.trans T.g_law
  cases e
  rfl
theorem law_binds {P : Program} {K : W.Frag} {mg : Str → Option Value} (T : Tp P K mg) (s : Shared) (u : Value) : BindsTo s T.d_law ⟨[u], []⟩ [("_law_script", u)] := T.F_law.bindsA (ps := ["_law_script"]) (fun _ _ _ _ _ _ us hl => match us, hl with | [_], _ => rfl) s [u] rfl
end Kk

set_option maxHeartbeats 0
namespace Kk
open PySem L2 PySem.Spec PyProof.Rows Tr
def Xc_Book (K : W.Frag) : Addr := He.ga K "Book"
def Xc_HastyError (K : W.Frag) : Addr := He.ga K "HastyError"
def Xc_InvalidBook (K : W.Frag) : Addr := He.ga K "InvalidBook"
def Xc_InvalidText (K : W.Frag) : Addr := He.ga K "InvalidText"
def Xc_NoKind (K : W.Frag) : Addr := He.ga K "NoKind"
def Xf_is_name (K : W.Frag) : Addr := He.ga K "is_name"
def Xf_is_sequence (K : W.Frag) : Addr := He.ga K "is_sequence"
def Xf_are_names (K : W.Frag) : Addr := He.ga K "are_names"
def Xf_is_targets (K : W.Frag) : Addr := He.ga K "is_targets"
def Xf_are_kinds (K : W.Frag) : Addr := He.ga K "are_kinds"
def Xf_are_some (K : W.Frag) : Addr := He.ga K "are_some"
def Xf_is_book_line (K : W.Frag) : Addr := He.ga K "is_book_line"
def Xf_may_follow (K : W.Frag) : Addr := He.ga K "may_follow"
def Xf__law_deal (K : W.Frag) : Addr := He.ga K "_law_deal"
def Xf__law_draw (K : W.Frag) : Addr := He.ga K "_law_draw"
def Xf__law_mixed (K : W.Frag) : Addr := He.ga K "_law_mixed"
def Xf__law_words (K : W.Frag) : Addr := He.ga K "_law_words"
def Xf__law_book (K : W.Frag) : Addr := He.ga K "_law_book"
def Xf__law_book_text (K : W.Frag) : Addr := He.ga K "_law_book_text"
def Xf__law_led (K : W.Frag) : Addr := He.ga K "_law_led"
def Xf_law (K : W.Frag) : Addr := He.ga K "law"
def Xf_Book_init (K : W.Frag) : Addr := He.ma K (Xc_Book K) "__init__"
def XtD_Book_init (K : W.Frag) : Addr := dfAd K (Xf_Book_init K)
def Xf_Book_read (K : W.Frag) : Addr := cmF K (Xc_Book K) "read"
def Xf_Book_need_kind (K : W.Frag) : Addr := He.ma K (Xc_Book K) "need_kind"
def Xf_Book_target (K : W.Frag) : Addr := He.ma K (Xc_Book K) "target"
def Xf_Book_without (K : W.Frag) : Addr := He.ma K (Xc_Book K) "without"
def Xf_Book_eq (K : W.Frag) : Addr := He.ma K (Xc_Book K) "__eq__"
def Xf_Book_str (K : W.Frag) : Addr := He.ma K (Xc_Book K) "__str__"
def Xa_BARRED (K : W.Frag) : Addr := He.ga K "BARRED"
def Xe_Book_init_0 (K : W.Frag) : Addr := itAd K (XtD_Book_init K) 0
def Xe_Book_init_1 (K : W.Frag) : Addr := itAd K (XtD_Book_init K) 1
def Xf_InvalidBook_init (K : W.Frag) : Addr := He.ma K (Xc_InvalidBook K) "__init__"
def Xcda_InvalidBook (K : W.Frag) : Addr := cdAd K (Xf_InvalidBook_init K)
def Xcc_InvalidBook (K : W.Frag) : Addr := clAd K (Xf_InvalidBook_init K)
def Xf_InvalidText_init (K : W.Frag) : Addr := He.ma K (Xc_InvalidText K) "__init__"
def Xcda_InvalidText (K : W.Frag) : Addr := cdAd K (Xf_InvalidText_init K)
def Xcc_InvalidText (K : W.Frag) : Addr := clAd K (Xf_InvalidText_init K)
def Xf_NoKind_init (K : W.Frag) : Addr := He.ma K (Xc_NoKind K) "__init__"
def Xcda_NoKind (K : W.Frag) : Addr := cdAd K (Xf_NoKind_init K)
def Xcc_NoKind (K : W.Frag) : Addr := clAd K (Xf_NoKind_init K)
def df_is_name : Df := ⟨Xf_is_name, "is_name", "is_name", defArgs s_is_name, defBody s_is_name, defScope s_is_name, fun K => [], []⟩
def df_is_sequence : Df := ⟨Xf_is_sequence, "is_sequence", "is_sequence", defArgs s_is_sequence, defBody s_is_sequence, defScope s_is_sequence, fun K => [], []⟩
def df_are_names : Df := ⟨Xf_are_names, "are_names", "are_names", defArgs s_are_names, defBody s_are_names, defScope s_are_names, fun K => [], []⟩
def df_is_targets : Df := ⟨Xf_is_targets, "is_targets", "is_targets", defArgs s_is_targets, defBody s_is_targets, defScope s_is_targets, fun K => [], []⟩
def df_are_kinds : Df := ⟨Xf_are_kinds, "are_kinds", "are_kinds", defArgs s_are_kinds, defBody s_are_kinds, defScope s_are_kinds, fun K => [], []⟩
def df_are_some : Df := ⟨Xf_are_some, "are_some", "are_some", defArgs s_are_some, defBody s_are_some, defScope s_are_some, fun K => [], []⟩
def df_is_book_line : Df := ⟨Xf_is_book_line, "is_book_line", "is_book_line", defArgs s_is_book_line, defBody s_is_book_line, defScope s_is_book_line, fun K => [], []⟩
def df_may_follow : Df := ⟨Xf_may_follow, "may_follow", "may_follow", defArgs s_may_follow, defBody s_may_follow, defScope s_may_follow, fun K => [], []⟩
def df__law_deal : Df := ⟨Xf__law_deal, "_law_deal", "_law_deal", defArgs s__law_deal, defBody s__law_deal, defScope s__law_deal, fun K => [], []⟩
def df__law_draw : Df := ⟨Xf__law_draw, "_law_draw", "_law_draw", defArgs s__law_draw, defBody s__law_draw, defScope s__law_draw, fun K => [], []⟩
def df__law_mixed : Df := ⟨Xf__law_mixed, "_law_mixed", "_law_mixed", defArgs s__law_mixed, defBody s__law_mixed, defScope s__law_mixed, fun K => [], []⟩
def df__law_words : Df := ⟨Xf__law_words, "_law_words", "_law_words", defArgs s__law_words, defBody s__law_words, defScope s__law_words, fun K => [], []⟩
def df__law_book : Df := ⟨Xf__law_book, "_law_book", "_law_book", defArgs s__law_book, defBody s__law_book, defScope s__law_book, fun K => [], []⟩
def df__law_book_text : Df := ⟨Xf__law_book_text, "_law_book_text", "_law_book_text", defArgs s__law_book_text, defBody s__law_book_text, defScope s__law_book_text, fun K => [], []⟩
def df__law_led : Df := ⟨Xf__law_led, "_law_led", "_law_led", defArgs s__law_led, defBody s__law_led, defScope s__law_led, fun K => [], []⟩
def df_law : Df := ⟨Xf_law, "law", "law", defArgs s_law, defBody s_law, defScope s_law, fun K => [], []⟩
def df_Book_init : Df := ⟨Xf_Book_init, "__init__", "Book.__init__", defArgs s_Book_init, defBody s_Book_init, defScope s_Book_init, fun K => [(Xe_Book_init_0 K), (Xe_Book_init_1 K)], []⟩
def df_Book_read : Df := ⟨Xf_Book_read, "read", "Book.read", defArgs s_Book_read, defBody s_Book_read, defScope s_Book_read, fun K => [], []⟩
def df_Book_need_kind : Df := ⟨Xf_Book_need_kind, "need_kind", "Book.need_kind", defArgs s_Book_need_kind, defBody s_Book_need_kind, defScope s_Book_need_kind, fun K => [], []⟩
def df_Book_target : Df := ⟨Xf_Book_target, "target", "Book.target", defArgs s_Book_target, defBody s_Book_target, defScope s_Book_target, fun K => [], []⟩
def df_Book_without : Df := ⟨Xf_Book_without, "without", "Book.without", defArgs s_Book_without, defBody s_Book_without, defScope s_Book_without, fun K => [], []⟩
def df_Book_eq : Df := ⟨Xf_Book_eq, "__eq__", "Book.__eq__", defArgs s_Book_eq, defBody s_Book_eq, defScope s_Book_eq, fun K => [], []⟩
def df_Book_str : Df := ⟨Xf_Book_str, "__str__", "Book.__str__", defArgs s_Book_str, defBody s_Book_str, defScope s_Book_str, fun K => [], []⟩
def df_InvalidBook_init : Df := ⟨Xf_InvalidBook_init, "__init__", "InvalidBook.__init__", defArgs s_InvalidBook_init, defBody s_InvalidBook_init, defScope s_InvalidBook_init, fun K => [], ["__class__"]⟩
def df_InvalidText_init : Df := ⟨Xf_InvalidText_init, "__init__", "InvalidText.__init__", defArgs s_InvalidText_init, defBody s_InvalidText_init, defScope s_InvalidText_init, fun K => [], ["__class__"]⟩
def df_NoKind_init : Df := ⟨Xf_NoKind_init, "__init__", "NoKind.__init__", defArgs s_NoKind_init, defBody s_NoKind_init, defScope s_NoKind_init, fun K => [], ["__class__"]⟩
def dfs0 : List Df := [df_is_name, df_is_sequence, df_are_names, df_is_targets, df_are_kinds, df_are_some, df_is_book_line, df_may_follow, df__law_deal, df__law_draw, df__law_mixed, df__law_words, df__law_book, df__law_book_text, df__law_led, df_law, df_Book_init, df_Book_read, df_Book_need_kind, df_Book_target, df_Book_without, df_Book_eq, df_Book_str, df_InvalidBook_init, df_InvalidText_init, df_NoKind_init]
def dfs : List Df := dfs0
def ts0 : List (W.Frag → Bool) := [
  fun K => decide (W.specialIn K (.builtin "object.__class__") "__get__" = some (some (.builtin "getset_descriptor.__get__"))),
  fun K => decide (W.takesIn K (.builtin "object.__class__") = some true),
  fun K => decide (W.nsIn K mainGlobals "Book" = some (some (.ref (Xc_Book K)))),
  fun K => decide (W.plainGet K (Xc_Book K) Str.empty = true),
  fun K => decide (W.hasDictIn K (Xc_Book K) = true),
  fun K => decide (W.plainOver K (Xc_Book K) = true),
  fun K => decide (W.findIn K (.ref (Xc_Book K)) "__setattr__" = some (some (.builtin "object.__setattr__"))),
  fun K => decide (W.findIn K (.ref (Xc_Book K)) "__class__" = some (some (.builtin "object.__class__"))),
  fun K => decide (W.mroIn K (Xc_Book K) (.type "object") = some true),
  fun K => decide (W.findIn K (.ref (Xc_Book K)) "choices" = some none),
  fun K => decide (W.findIn K (.ref (Xc_Book K)) "kinds" = some none),
  fun K => decide (W.findIn K (.ref (Xc_Book K)) "targets" = some none),
  fun K => decide (W.findIn K (.ref (Xc_Book K)) "loose" = some none),
  fun K => decide (W.findIn K (.ref (Xc_Book K)) "others" = some none),
  fun K => decide (W.subIn K (.type "list") (.ref (Xc_Book K)) = some false),
  fun K => decide (W.subIn K (.type "tuple") (.ref (Xc_Book K)) = some false),
  fun K => decide (W.subIn K (.type "str") (.ref (Xc_Book K)) = some false),
  fun K => decide (W.subIn K (.type "int") (.ref (Xc_Book K)) = some false),
  fun K => decide (W.subIn K (.type "bool") (.ref (Xc_Book K)) = some false),
  fun K => decide (W.subIn K (.type "NoneType") (.ref (Xc_Book K)) = some false),
  fun K => decide (W.subIn K (.ref (Xc_Book K)) (.type "list") = some false),
  fun K => decide (W.subIn K (.ref (Xc_Book K)) (.type "tuple") = some false),
  fun K => decide (W.subIn K (.ref (Xc_Book K)) (.type "str") = some false),
  fun K => decide (W.subIn K (.ref (Xc_Book K)) (.type "int") = some false),
  fun K => decide (W.subIn K (.ref (Xc_Book K)) (.type "bool") = some false),
  fun K => clsT K (Xc_Book K),
  fun K => decide (W.typeIn K (.ref (Xc_Book K)) = some (.type "type")),
  fun K => decide (W.notFirst K (Xc_Book K) (.ref (Xc_Book K)) = true),
  fun K => decide (W.notFirst K (Xc_Book K) (.type "list") = true),
  fun K => decide (W.notFirst K (Xc_Book K) (.type "tuple") = true)]
def ts1 : List (W.Frag → Bool) := [
  fun K => decide (W.notFirst K (Xc_Book K) (.type "str") = true),
  fun K => decide (W.notFirst K (Xc_Book K) (.type "int") = true),
  fun K => decide (W.notFirst K (Xc_Book K) (.type "bool") = true),
  fun K => decide (W.notFirst K (Xc_Book K) (.type "NoneType") = true),
  fun K => decide (W.findIn K (.ref (Xc_Book K)) "__ne__" = some (some (.builtin "object.__ne__"))),
  fun K => decide (W.nsIn K mainGlobals "is_name" = some (some (.ref (Xf_is_name K)))),
  fun K => decide (W.keepIn K (.ref (Xf_is_name K)) = true),
  fun K => decide (W.nsIn K mainGlobals "is_sequence" = some (some (.ref (Xf_is_sequence K)))),
  fun K => decide (W.keepIn K (.ref (Xf_is_sequence K)) = true),
  fun K => decide (W.nsIn K mainGlobals "are_names" = some (some (.ref (Xf_are_names K)))),
  fun K => decide (W.keepIn K (.ref (Xf_are_names K)) = true),
  fun K => decide (W.nsIn K mainGlobals "is_targets" = some (some (.ref (Xf_is_targets K)))),
  fun K => decide (W.keepIn K (.ref (Xf_is_targets K)) = true),
  fun K => decide (W.nsIn K mainGlobals "are_kinds" = some (some (.ref (Xf_are_kinds K)))),
  fun K => decide (W.keepIn K (.ref (Xf_are_kinds K)) = true),
  fun K => decide (W.nsIn K mainGlobals "are_some" = some (some (.ref (Xf_are_some K)))),
  fun K => decide (W.keepIn K (.ref (Xf_are_some K)) = true),
  fun K => decide (W.nsIn K mainGlobals "is_book_line" = some (some (.ref (Xf_is_book_line K)))),
  fun K => decide (W.keepIn K (.ref (Xf_is_book_line K)) = true),
  fun K => decide (W.nsIn K mainGlobals "may_follow" = some (some (.ref (Xf_may_follow K)))),
  fun K => decide (W.keepIn K (.ref (Xf_may_follow K)) = true),
  fun K => decide (W.nsIn K mainGlobals "_law_deal" = some (some (.ref (Xf__law_deal K)))),
  fun K => decide (W.keepIn K (.ref (Xf__law_deal K)) = true),
  fun K => decide (W.nsIn K mainGlobals "_law_draw" = some (some (.ref (Xf__law_draw K)))),
  fun K => decide (W.keepIn K (.ref (Xf__law_draw K)) = true),
  fun K => decide (W.nsIn K mainGlobals "_law_mixed" = some (some (.ref (Xf__law_mixed K)))),
  fun K => decide (W.keepIn K (.ref (Xf__law_mixed K)) = true),
  fun K => decide (W.nsIn K mainGlobals "_law_words" = some (some (.ref (Xf__law_words K)))),
  fun K => decide (W.keepIn K (.ref (Xf__law_words K)) = true),
  fun K => decide (W.nsIn K mainGlobals "_law_book" = some (some (.ref (Xf__law_book K))))]
def ts2 : List (W.Frag → Bool) := [
  fun K => decide (W.keepIn K (.ref (Xf__law_book K)) = true),
  fun K => decide (W.nsIn K mainGlobals "_law_book_text" = some (some (.ref (Xf__law_book_text K)))),
  fun K => decide (W.keepIn K (.ref (Xf__law_book_text K)) = true),
  fun K => decide (W.nsIn K mainGlobals "_law_led" = some (some (.ref (Xf__law_led K)))),
  fun K => decide (W.keepIn K (.ref (Xf__law_led K)) = true),
  fun K => decide (W.nsIn K mainGlobals "law" = some (some (.ref (Xf_law K)))),
  fun K => decide (W.keepIn K (.ref (Xf_law K)) = true),
  fun K => decide (W.findIn K (.ref (Xc_Book K)) "__init__" = some (some (.ref (Xf_Book_init K)))),
  fun K => decide (W.isFn K (.ref (Xf_Book_init K)) = true),
  fun K => decide (W.makesIn K (Xc_Book K) = true),
  fun K => decide (W.keepIn K (.ref (Xc_Book K)) = true),
  fun K => decide (W.keepIn K (.ref (Xf_Book_init K)) = true),
  fun K => decide (W.readsIn K (Xc_Book K) (.type "type") = true),
  fun K => decide (W.specialIn K (.ref (Xc_Book K)) "__getattribute__" = some (some (.builtin "type.__getattribute__"))),
  fun K => cmT K (Xc_Book K) "read",
  fun K => decide (W.fnIn K (Xf_Book_read K) = true),
  fun K => decide (W.keepIn K (.ref (Xf_Book_read K)) = true),
  fun K => decide (W.findIn K (.ref (Xc_Book K)) "need_kind" = some (some (.ref (Xf_Book_need_kind K)))),
  fun K => decide (W.isFn K (.ref (Xf_Book_need_kind K)) = true),
  fun K => decide (W.keepIn K (.ref (Xf_Book_need_kind K)) = true),
  fun K => decide (W.findIn K (.ref (Xc_Book K)) "target" = some (some (.ref (Xf_Book_target K)))),
  fun K => decide (W.isFn K (.ref (Xf_Book_target K)) = true),
  fun K => decide (W.keepIn K (.ref (Xf_Book_target K)) = true),
  fun K => decide (W.findIn K (.ref (Xc_Book K)) "without" = some (some (.ref (Xf_Book_without K)))),
  fun K => decide (W.isFn K (.ref (Xf_Book_without K)) = true),
  fun K => decide (W.keepIn K (.ref (Xf_Book_without K)) = true),
  fun K => decide (W.findIn K (.ref (Xc_Book K)) "__eq__" = some (some (.ref (Xf_Book_eq K)))),
  fun K => decide (W.isFn K (.ref (Xf_Book_eq K)) = true),
  fun K => decide (W.keepIn K (.ref (Xf_Book_eq K)) = true),
  fun K => decide (W.findIn K (.ref (Xc_Book K)) "__str__" = some (some (.ref (Xf_Book_str K))))]
def ts3 : List (W.Frag → Bool) := [
  fun K => decide (W.isFn K (.ref (Xf_Book_str K)) = true),
  fun K => decide (W.keepIn K (.ref (Xf_Book_str K)) = true),
  fun K => decide (W.nsIn K mainGlobals "HastyError" = some (some (.ref (Xc_HastyError K)))),
  fun K => clsT K (Xc_HastyError K),
  fun K => decide (W.typeIn K (.ref (Xc_HastyError K)) = some (.type "type")),
  fun K => decide (W.nsIn K mainGlobals "super" = some none),
  fun K => decide (W.nsIn K cStatics "thirdparty.any" = some none),
  fun K => decide (W.nsIn K mainGlobals "InvalidBook" = some (some (.ref (Xc_InvalidBook K)))),
  fun K => excT K (Xc_InvalidBook K) [.type "ValueError", .type "Exception", .type "BaseException", .type "object"] "ValueError.__new__",
  fun K => decide (W.findIn K (.ref (Xc_InvalidBook K)) "__setattr__" = some (some (.builtin "object.__setattr__"))),
  fun K => decide (W.subIn K (.ref (Xc_InvalidBook K)) (.type "BaseException") = some true),
  fun K => decide (W.typeIn K (.ref (Xc_InvalidBook K)) = some (.type "type")),
  fun K => decide (W.keepIn K (.ref (Xc_InvalidBook K)) = true),
  fun K => decide (W.findIn K (.ref (Xc_InvalidBook K)) "__getattribute__" = some (some (.builtin "BaseException.__getattribute__"))),
  fun K => decide (W.findIn K (.ref (Xc_InvalidBook K)) "__getattr__" = some none),
  fun K => decide (W.hasDictIn K (Xc_InvalidBook K) = true),
  fun K => decide (W.findIn K (.ref (Xc_InvalidBook K)) "__class__" = some (some (.builtin "object.__class__"))),
  fun K => decide (W.mroIn K (Xc_InvalidBook K) (.type "object") = some true),
  fun K => decide (W.findIn K (.ref (Xc_InvalidBook K)) "word" = some none),
  fun K => decide (W.findIn K (.ref (Xc_InvalidBook K)) "__init__" = some (some (.ref (Xf_InvalidBook_init K)))),
  fun K => decide (W.typeIn K (.ref (Xf_InvalidBook_init K)) = some (.type "function")),
  fun K => (fdAt K (Xf_InvalidBook_init K)).any fun g => isRefV g.code,
  fun K => filT K (Xcda_InvalidBook K) PySem.Challenge.pw_hastypage_k09_whole_other_names.main.file,
  fun K => celT K (Xcc_InvalidBook K) (Xc_InvalidBook K),
  fun K => decide (W.ks_superIn K (Xc_InvalidBook K) (Xc_InvalidBook K) "__init__" = some (some (.builtin "ValueError.__init__"))),
  fun K => decide (W.subIn K (.ref (Xc_InvalidBook K)) (.type "ValueError") = some true),
  fun K => decide (W.nsIn K mainGlobals "InvalidText" = some (some (.ref (Xc_InvalidText K)))),
  fun K => excT K (Xc_InvalidText K) [.type "ValueError", .type "Exception", .type "BaseException", .type "object"] "ValueError.__new__",
  fun K => decide (W.findIn K (.ref (Xc_InvalidText K)) "__setattr__" = some (some (.builtin "object.__setattr__"))),
  fun K => decide (W.subIn K (.ref (Xc_InvalidText K)) (.type "BaseException") = some true)]
def ts4 : List (W.Frag → Bool) := [
  fun K => decide (W.typeIn K (.ref (Xc_InvalidText K)) = some (.type "type")),
  fun K => decide (W.keepIn K (.ref (Xc_InvalidText K)) = true),
  fun K => decide (W.findIn K (.ref (Xc_InvalidText K)) "__getattribute__" = some (some (.builtin "BaseException.__getattribute__"))),
  fun K => decide (W.findIn K (.ref (Xc_InvalidText K)) "__getattr__" = some none),
  fun K => decide (W.hasDictIn K (Xc_InvalidText K) = true),
  fun K => decide (W.findIn K (.ref (Xc_InvalidText K)) "__class__" = some (some (.builtin "object.__class__"))),
  fun K => decide (W.mroIn K (Xc_InvalidText K) (.type "object") = some true),
  fun K => decide (W.findIn K (.ref (Xc_InvalidText K)) "at" = some none),
  fun K => decide (W.findIn K (.ref (Xc_InvalidText K)) "__init__" = some (some (.ref (Xf_InvalidText_init K)))),
  fun K => decide (W.typeIn K (.ref (Xf_InvalidText_init K)) = some (.type "function")),
  fun K => (fdAt K (Xf_InvalidText_init K)).any fun g => isRefV g.code,
  fun K => filT K (Xcda_InvalidText K) PySem.Challenge.pw_hastypage_k09_whole_other_names.main.file,
  fun K => celT K (Xcc_InvalidText K) (Xc_InvalidText K),
  fun K => decide (W.ks_superIn K (Xc_InvalidText K) (Xc_InvalidText K) "__init__" = some (some (.builtin "ValueError.__init__"))),
  fun K => decide (W.subIn K (.ref (Xc_InvalidText K)) (.type "ValueError") = some true),
  fun K => decide (W.nsIn K mainGlobals "NoKind" = some (some (.ref (Xc_NoKind K)))),
  fun K => excT K (Xc_NoKind K) [.type "KeyError", .type "LookupError", .type "Exception", .type "BaseException", .type "object"] "LookupError.__new__",
  fun K => decide (W.findIn K (.ref (Xc_NoKind K)) "__setattr__" = some (some (.builtin "object.__setattr__"))),
  fun K => decide (W.subIn K (.ref (Xc_NoKind K)) (.type "BaseException") = some true),
  fun K => decide (W.typeIn K (.ref (Xc_NoKind K)) = some (.type "type")),
  fun K => decide (W.keepIn K (.ref (Xc_NoKind K)) = true),
  fun K => decide (W.findIn K (.ref (Xc_NoKind K)) "__getattribute__" = some (some (.builtin "BaseException.__getattribute__"))),
  fun K => decide (W.findIn K (.ref (Xc_NoKind K)) "__getattr__" = some none),
  fun K => decide (W.hasDictIn K (Xc_NoKind K) = true),
  fun K => decide (W.findIn K (.ref (Xc_NoKind K)) "__class__" = some (some (.builtin "object.__class__"))),
  fun K => decide (W.mroIn K (Xc_NoKind K) (.type "object") = some true),
  fun K => decide (W.findIn K (.ref (Xc_NoKind K)) "name" = some none),
  fun K => decide (W.findIn K (.ref (Xc_NoKind K)) "__init__" = some (some (.ref (Xf_NoKind_init K)))),
  fun K => decide (W.typeIn K (.ref (Xf_NoKind_init K)) = some (.type "function")),
  fun K => (fdAt K (Xf_NoKind_init K)).any fun g => isRefV g.code]
def ts5 : List (W.Frag → Bool) := [
  fun K => filT K (Xcda_NoKind K) PySem.Challenge.pw_hastypage_k09_whole_other_names.main.file,
  fun K => celT K (Xcc_NoKind K) (Xc_NoKind K),
  fun K => decide (W.ks_superIn K (Xc_NoKind K) (Xc_NoKind K) "__init__" = some (some (.builtin "KeyError.__init__"))),
  fun K => decide (W.subIn K (.ref (Xc_NoKind K)) (.type "KeyError") = some true),
  fun K => decide (W.subIn K (.ref (Xc_InvalidBook K)) (.ref (Xc_InvalidBook K)) = some true),
  fun K => decide (W.subIn K (.ref (Xc_InvalidText K)) (.ref (Xc_InvalidText K)) = some true),
  fun K => decide (W.subIn K (.ref (Xc_NoKind K)) (.ref (Xc_NoKind K)) = some true),
  fun K => decide (W.subIn K (.ref (Xc_InvalidBook K)) (.ref (Xc_HastyError K)) = some true),
  fun K => decide (((.ref (Xc_InvalidBook K) : Value) == .ref (Xc_HastyError K)) = false),
  fun K => decide (W.subIn K (.ref (Xc_InvalidText K)) (.ref (Xc_HastyError K)) = some true),
  fun K => decide (((.ref (Xc_InvalidText K) : Value) == .ref (Xc_HastyError K)) = false),
  fun K => decide (W.subIn K (.ref (Xc_NoKind K)) (.ref (Xc_HastyError K)) = some false),
  fun K => decide (((.ref (Xc_NoKind K) : Value) == .ref (Xc_HastyError K)) = false),
  fun K => decide (W.nsIn K mainGlobals "abs" = some none),
  fun K => decide (W.nsIn K mainGlobals "all" = some none),
  fun K => decide (W.nsIn K mainGlobals "dict" = some none),
  fun K => decide (W.nsIn K mainGlobals "enumerate" = some none),
  fun K => decide (W.nsIn K mainGlobals "int" = some none),
  fun K => decide (W.nsIn K mainGlobals "isinstance" = some none),
  fun K => decide (W.nsIn K mainGlobals "len" = some none),
  fun K => decide (W.nsIn K mainGlobals "list" = some none),
  fun K => decide (W.nsIn K mainGlobals "range" = some none),
  fun K => decide (W.nsIn K mainGlobals "str" = some none),
  fun K => decide (W.nsIn K mainGlobals "tuple" = some none),
  fun K => decide (W.nsIn K mainGlobals "zip" = some none),
  fun K => strT K "SMALL" "abcdefghijklmnopqrstuvwxyz",
  fun K => decide (W.nsIn K mainGlobals "BARRED" = some (some (.ref (Xa_BARRED K)))),
  fun K => tupT K (Xa_BARRED K) barred,
  fun K => tupT K (Xe_Book_init_0 K) [],
  fun K => tupT K (Xe_Book_init_1 K) []]
def chs : List (List (W.Frag → Bool)) := [ts0, ts1, ts2, ts3, ts4, ts5]
theorem tp_of {K : W.Frag} {h : Heap} {mg : Str → Option Value} (X : K.In h) (G : h.Ns mainGlobals mg) (c : SaysX chs dfs K) : Nonempty (Tp PySem.Challenge.pw_hastypage_k09_whole_other_names K mg) := by
  have cnn : W.specialIn K (.builtin "object.__class__") "__get__" = some (some (.builtin "getset_descriptor.__get__")) := of_decide_eq_true (c.t 0 0 rfl rfl)
  have ctt : W.takesIn K (.builtin "object.__class__") = some true := of_decide_eq_true (c.t 0 1 rfl rfl)
  have a_Book : W.nsIn K mainGlobals "Book" = some (some (.ref (Xc_Book K))) := of_decide_eq_true (c.t 0 2 rfl rfl)
  have pg_Book : W.plainGet K (Xc_Book K) Str.empty = true := of_decide_eq_true (c.t 0 3 rfl rfl)
  have hd_Book : W.hasDictIn K (Xc_Book K) = true := of_decide_eq_true (c.t 0 4 rfl rfl)
  have po_Book : W.plainOver K (Xc_Book K) = true := of_decide_eq_true (c.t 0 5 rfl rfl)
  have sa_Book : W.findIn K (.ref (Xc_Book K)) "__setattr__" = some (some (.builtin "object.__setattr__")) := of_decide_eq_true (c.t 0 6 rfl rfl)
  have ca_Book : W.findIn K (.ref (Xc_Book K)) "__class__" = some (some (.builtin "object.__class__")) := of_decide_eq_true (c.t 0 7 rfl rfl)
  have cm_Book : W.mroIn K (Xc_Book K) (.type "object") = some true := of_decide_eq_true (c.t 0 8 rfl rfl)
  have na_Book_choices : W.findIn K (.ref (Xc_Book K)) "choices" = some none := of_decide_eq_true (c.t 0 9 rfl rfl)
  have na_Book_kinds : W.findIn K (.ref (Xc_Book K)) "kinds" = some none := of_decide_eq_true (c.t 0 10 rfl rfl)
  have na_Book_targets : W.findIn K (.ref (Xc_Book K)) "targets" = some none := of_decide_eq_true (c.t 0 11 rfl rfl)
  have na_Book_loose : W.findIn K (.ref (Xc_Book K)) "loose" = some none := of_decide_eq_true (c.t 0 12 rfl rfl)
  have na_Book_others : W.findIn K (.ref (Xc_Book K)) "others" = some none := of_decide_eq_true (c.t 0 13 rfl rfl)
  have ss_Book_list : W.subIn K (.type "list") (.ref (Xc_Book K)) = some false := of_decide_eq_true (c.t 0 14 rfl rfl)
  have ss_Book_tuple : W.subIn K (.type "tuple") (.ref (Xc_Book K)) = some false := of_decide_eq_true (c.t 0 15 rfl rfl)
  have ss_Book_str : W.subIn K (.type "str") (.ref (Xc_Book K)) = some false := of_decide_eq_true (c.t 0 16 rfl rfl)
  have ss_Book_int : W.subIn K (.type "int") (.ref (Xc_Book K)) = some false := of_decide_eq_true (c.t 0 17 rfl rfl)
  have ss_Book_bool : W.subIn K (.type "bool") (.ref (Xc_Book K)) = some false := of_decide_eq_true (c.t 0 18 rfl rfl)
  have ss_Book_NoneType : W.subIn K (.type "NoneType") (.ref (Xc_Book K)) = some false := of_decide_eq_true (c.t 0 19 rfl rfl)
  have sk_Book_list : W.subIn K (.ref (Xc_Book K)) (.type "list") = some false := of_decide_eq_true (c.t 0 20 rfl rfl)
  have sk_Book_tuple : W.subIn K (.ref (Xc_Book K)) (.type "tuple") = some false := of_decide_eq_true (c.t 0 21 rfl rfl)
  have sk_Book_str : W.subIn K (.ref (Xc_Book K)) (.type "str") = some false := of_decide_eq_true (c.t 0 22 rfl rfl)
  have sk_Book_int : W.subIn K (.ref (Xc_Book K)) (.type "int") = some false := of_decide_eq_true (c.t 0 23 rfl rfl)
  have sk_Book_bool : W.subIn K (.ref (Xc_Book K)) (.type "bool") = some false := of_decide_eq_true (c.t 0 24 rfl rfl)
  obtain ⟨cd_Book, cl_Book⟩ := clsT_ok (c.t 0 25 rfl rfl)
  have ty_Book : W.typeIn K (.ref (Xc_Book K)) = some (.type "type") := of_decide_eq_true (c.t 0 26 rfl rfl)
  have nf_Book_Book : W.notFirst K (Xc_Book K) (.ref (Xc_Book K)) = true := of_decide_eq_true (c.t 0 27 rfl rfl)
  have nf_Book_list : W.notFirst K (Xc_Book K) (.type "list") = true := of_decide_eq_true (c.t 0 28 rfl rfl)
  have nf_Book_tuple : W.notFirst K (Xc_Book K) (.type "tuple") = true := of_decide_eq_true (c.t 0 29 rfl rfl)
  have nf_Book_str : W.notFirst K (Xc_Book K) (.type "str") = true := of_decide_eq_true (c.t 1 0 rfl rfl)
  have nf_Book_int : W.notFirst K (Xc_Book K) (.type "int") = true := of_decide_eq_true (c.t 1 1 rfl rfl)
  have nf_Book_bool : W.notFirst K (Xc_Book K) (.type "bool") = true := of_decide_eq_true (c.t 1 2 rfl rfl)
  have nf_Book_NoneType : W.notFirst K (Xc_Book K) (.type "NoneType") = true := of_decide_eq_true (c.t 1 3 rfl rfl)
  have ne_Book : W.findIn K (.ref (Xc_Book K)) "__ne__" = some (some (.builtin "object.__ne__")) := of_decide_eq_true (c.t 1 4 rfl rfl)
  have a_is_name : W.nsIn K mainGlobals "is_name" = some (some (.ref (Xf_is_name K))) := of_decide_eq_true (c.t 1 5 rfl rfl)
  obtain ⟨d_is_name, lx_is_name⟩ := Df.funD (d := df_is_name) (c.d 0 rfl).1 (c.d 0 rfl).2 rfl
  have l_is_name : FunD K "is_name" "is_name" (defArgs s_is_name) (defBody s_is_name) (defScope s_is_name) [] [] (Xf_is_name K) d_is_name := lx_is_name
  have k_is_name : W.keepIn K (.ref (Xf_is_name K)) = true := of_decide_eq_true (c.t 1 6 rfl rfl)
  have a_is_sequence : W.nsIn K mainGlobals "is_sequence" = some (some (.ref (Xf_is_sequence K))) := of_decide_eq_true (c.t 1 7 rfl rfl)
  obtain ⟨d_is_sequence, lx_is_sequence⟩ := Df.funD (d := df_is_sequence) (c.d 1 rfl).1 (c.d 1 rfl).2 rfl
  have l_is_sequence : FunD K "is_sequence" "is_sequence" (defArgs s_is_sequence) (defBody s_is_sequence) (defScope s_is_sequence) [] [] (Xf_is_sequence K) d_is_sequence := lx_is_sequence
  have k_is_sequence : W.keepIn K (.ref (Xf_is_sequence K)) = true := of_decide_eq_true (c.t 1 8 rfl rfl)
  have a_are_names : W.nsIn K mainGlobals "are_names" = some (some (.ref (Xf_are_names K))) := of_decide_eq_true (c.t 1 9 rfl rfl)
  obtain ⟨d_are_names, lx_are_names⟩ := Df.funD (d := df_are_names) (c.d 2 rfl).1 (c.d 2 rfl).2 rfl
  have l_are_names : FunD K "are_names" "are_names" (defArgs s_are_names) (defBody s_are_names) (defScope s_are_names) [] [] (Xf_are_names K) d_are_names := lx_are_names
  have k_are_names : W.keepIn K (.ref (Xf_are_names K)) = true := of_decide_eq_true (c.t 1 10 rfl rfl)
  have a_is_targets : W.nsIn K mainGlobals "is_targets" = some (some (.ref (Xf_is_targets K))) := of_decide_eq_true (c.t 1 11 rfl rfl)
  obtain ⟨d_is_targets, lx_is_targets⟩ := Df.funD (d := df_is_targets) (c.d 3 rfl).1 (c.d 3 rfl).2 rfl
  have l_is_targets : FunD K "is_targets" "is_targets" (defArgs s_is_targets) (defBody s_is_targets) (defScope s_is_targets) [] [] (Xf_is_targets K) d_is_targets := lx_is_targets
  have k_is_targets : W.keepIn K (.ref (Xf_is_targets K)) = true := of_decide_eq_true (c.t 1 12 rfl rfl)
  have a_are_kinds : W.nsIn K mainGlobals "are_kinds" = some (some (.ref (Xf_are_kinds K))) := of_decide_eq_true (c.t 1 13 rfl rfl)
  obtain ⟨d_are_kinds, lx_are_kinds⟩ := Df.funD (d := df_are_kinds) (c.d 4 rfl).1 (c.d 4 rfl).2 rfl
  have l_are_kinds : FunD K "are_kinds" "are_kinds" (defArgs s_are_kinds) (defBody s_are_kinds) (defScope s_are_kinds) [] [] (Xf_are_kinds K) d_are_kinds := lx_are_kinds
  have k_are_kinds : W.keepIn K (.ref (Xf_are_kinds K)) = true := of_decide_eq_true (c.t 1 14 rfl rfl)
  have a_are_some : W.nsIn K mainGlobals "are_some" = some (some (.ref (Xf_are_some K))) := of_decide_eq_true (c.t 1 15 rfl rfl)
  obtain ⟨d_are_some, lx_are_some⟩ := Df.funD (d := df_are_some) (c.d 5 rfl).1 (c.d 5 rfl).2 rfl
  have l_are_some : FunD K "are_some" "are_some" (defArgs s_are_some) (defBody s_are_some) (defScope s_are_some) [] [] (Xf_are_some K) d_are_some := lx_are_some
  have k_are_some : W.keepIn K (.ref (Xf_are_some K)) = true := of_decide_eq_true (c.t 1 16 rfl rfl)
  have a_is_book_line : W.nsIn K mainGlobals "is_book_line" = some (some (.ref (Xf_is_book_line K))) := of_decide_eq_true (c.t 1 17 rfl rfl)
  obtain ⟨d_is_book_line, lx_is_book_line⟩ := Df.funD (d := df_is_book_line) (c.d 6 rfl).1 (c.d 6 rfl).2 rfl
  have l_is_book_line : FunD K "is_book_line" "is_book_line" (defArgs s_is_book_line) (defBody s_is_book_line) (defScope s_is_book_line) [] [] (Xf_is_book_line K) d_is_book_line := lx_is_book_line
  have k_is_book_line : W.keepIn K (.ref (Xf_is_book_line K)) = true := of_decide_eq_true (c.t 1 18 rfl rfl)
  have a_may_follow : W.nsIn K mainGlobals "may_follow" = some (some (.ref (Xf_may_follow K))) := of_decide_eq_true (c.t 1 19 rfl rfl)
  obtain ⟨d_may_follow, lx_may_follow⟩ := Df.funD (d := df_may_follow) (c.d 7 rfl).1 (c.d 7 rfl).2 rfl
  have l_may_follow : FunD K "may_follow" "may_follow" (defArgs s_may_follow) (defBody s_may_follow) (defScope s_may_follow) [] [] (Xf_may_follow K) d_may_follow := lx_may_follow
  have k_may_follow : W.keepIn K (.ref (Xf_may_follow K)) = true := of_decide_eq_true (c.t 1 20 rfl rfl)
  have a__law_deal : W.nsIn K mainGlobals "_law_deal" = some (some (.ref (Xf__law_deal K))) := of_decide_eq_true (c.t 1 21 rfl rfl)
  obtain ⟨d__law_deal, lx__law_deal⟩ := Df.funD (d := df__law_deal) (c.d 8 rfl).1 (c.d 8 rfl).2 rfl
  have l__law_deal : FunD K "_law_deal" "_law_deal" (defArgs s__law_deal) (defBody s__law_deal) (defScope s__law_deal) [] [] (Xf__law_deal K) d__law_deal := lx__law_deal
  have k__law_deal : W.keepIn K (.ref (Xf__law_deal K)) = true := of_decide_eq_true (c.t 1 22 rfl rfl)
  have a__law_draw : W.nsIn K mainGlobals "_law_draw" = some (some (.ref (Xf__law_draw K))) := of_decide_eq_true (c.t 1 23 rfl rfl)
  obtain ⟨d__law_draw, lx__law_draw⟩ := Df.funD (d := df__law_draw) (c.d 9 rfl).1 (c.d 9 rfl).2 rfl
  have l__law_draw : FunD K "_law_draw" "_law_draw" (defArgs s__law_draw) (defBody s__law_draw) (defScope s__law_draw) [] [] (Xf__law_draw K) d__law_draw := lx__law_draw
  have k__law_draw : W.keepIn K (.ref (Xf__law_draw K)) = true := of_decide_eq_true (c.t 1 24 rfl rfl)
  have a__law_mixed : W.nsIn K mainGlobals "_law_mixed" = some (some (.ref (Xf__law_mixed K))) := of_decide_eq_true (c.t 1 25 rfl rfl)
  obtain ⟨d__law_mixed, lx__law_mixed⟩ := Df.funD (d := df__law_mixed) (c.d 10 rfl).1 (c.d 10 rfl).2 rfl
  have l__law_mixed : FunD K "_law_mixed" "_law_mixed" (defArgs s__law_mixed) (defBody s__law_mixed) (defScope s__law_mixed) [] [] (Xf__law_mixed K) d__law_mixed := lx__law_mixed
  have k__law_mixed : W.keepIn K (.ref (Xf__law_mixed K)) = true := of_decide_eq_true (c.t 1 26 rfl rfl)
  have a__law_words : W.nsIn K mainGlobals "_law_words" = some (some (.ref (Xf__law_words K))) := of_decide_eq_true (c.t 1 27 rfl rfl)
  obtain ⟨d__law_words, lx__law_words⟩ := Df.funD (d := df__law_words) (c.d 11 rfl).1 (c.d 11 rfl).2 rfl
  have l__law_words : FunD K "_law_words" "_law_words" (defArgs s__law_words) (defBody s__law_words) (defScope s__law_words) [] [] (Xf__law_words K) d__law_words := lx__law_words
  have k__law_words : W.keepIn K (.ref (Xf__law_words K)) = true := of_decide_eq_true (c.t 1 28 rfl rfl)
  have a__law_book : W.nsIn K mainGlobals "_law_book" = some (some (.ref (Xf__law_book K))) := of_decide_eq_true (c.t 1 29 rfl rfl)
  obtain ⟨d__law_book, lx__law_book⟩ := Df.funD (d := df__law_book) (c.d 12 rfl).1 (c.d 12 rfl).2 rfl
  have l__law_book : FunD K "_law_book" "_law_book" (defArgs s__law_book) (defBody s__law_book) (defScope s__law_book) [] [] (Xf__law_book K) d__law_book := lx__law_book
  have k__law_book : W.keepIn K (.ref (Xf__law_book K)) = true := of_decide_eq_true (c.t 2 0 rfl rfl)
  have a__law_book_text : W.nsIn K mainGlobals "_law_book_text" = some (some (.ref (Xf__law_book_text K))) := of_decide_eq_true (c.t 2 1 rfl rfl)
  obtain ⟨d__law_book_text, lx__law_book_text⟩ := Df.funD (d := df__law_book_text) (c.d 13 rfl).1 (c.d 13 rfl).2 rfl
  have l__law_book_text : FunD K "_law_book_text" "_law_book_text" (defArgs s__law_book_text) (defBody s__law_book_text) (defScope s__law_book_text) [] [] (Xf__law_book_text K) d__law_book_text := lx__law_book_text
  have k__law_book_text : W.keepIn K (.ref (Xf__law_book_text K)) = true := of_decide_eq_true (c.t 2 2 rfl rfl)
  have a__law_led : W.nsIn K mainGlobals "_law_led" = some (some (.ref (Xf__law_led K))) := of_decide_eq_true (c.t 2 3 rfl rfl)
  obtain ⟨d__law_led, lx__law_led⟩ := Df.funD (d := df__law_led) (c.d 14 rfl).1 (c.d 14 rfl).2 rfl
  have l__law_led : FunD K "_law_led" "_law_led" (defArgs s__law_led) (defBody s__law_led) (defScope s__law_led) [] [] (Xf__law_led K) d__law_led := lx__law_led
  have k__law_led : W.keepIn K (.ref (Xf__law_led K)) = true := of_decide_eq_true (c.t 2 4 rfl rfl)
  have a_law : W.nsIn K mainGlobals "law" = some (some (.ref (Xf_law K))) := of_decide_eq_true (c.t 2 5 rfl rfl)
  obtain ⟨d_law, lx_law⟩ := Df.funD (d := df_law) (c.d 15 rfl).1 (c.d 15 rfl).2 rfl
  have l_law : FunD K "law" "law" (defArgs s_law) (defBody s_law) (defScope s_law) [] [] (Xf_law K) d_law := lx_law
  have k_law : W.keepIn K (.ref (Xf_law K)) = true := of_decide_eq_true (c.t 2 6 rfl rfl)
  have a_Book_init : W.findIn K (.ref (Xc_Book K)) "__init__" = some (some (.ref (Xf_Book_init K))) := of_decide_eq_true (c.t 2 7 rfl rfl)
  have n_Book_init : W.isFn K (.ref (Xf_Book_init K)) = true := of_decide_eq_true (c.t 2 8 rfl rfl)
  have mm_Book : W.makesIn K (Xc_Book K) = true := of_decide_eq_true (c.t 2 9 rfl rfl)
  have kc_Book : W.keepIn K (.ref (Xc_Book K)) = true := of_decide_eq_true (c.t 2 10 rfl rfl)
  obtain ⟨d_Book_init, lx_Book_init⟩ := Df.funD (d := df_Book_init) (c.d 16 rfl).1 (c.d 16 rfl).2 rfl
  have l_Book_init : FunD K "__init__" "Book.__init__" (defArgs s_Book_init) (defBody s_Book_init) (defScope s_Book_init) [.ref (Xe_Book_init_0 K), .ref (Xe_Book_init_1 K)] [] (Xf_Book_init K) d_Book_init := lx_Book_init
  have k_Book_init : W.keepIn K (.ref (Xf_Book_init K)) = true := of_decide_eq_true (c.t 2 11 rfl rfl)
  have cr_Book_read : W.readsIn K (Xc_Book K) (.type "type") = true := of_decide_eq_true (c.t 2 12 rfl rfl)
  have cg_Book_read : W.specialIn K (.ref (Xc_Book K)) "__getattribute__" = some (some (.builtin "type.__getattribute__")) := of_decide_eq_true (c.t 2 13 rfl rfl)
  obtain ⟨ca_Book_read, rs_Book_read, rc_Book_read⟩ := cmT_ok (c.t 2 14 rfl rfl)
  have fi_Book_read : W.fnIn K (Xf_Book_read K) = true := of_decide_eq_true (c.t 2 15 rfl rfl)
  obtain ⟨d_Book_read, lx_Book_read⟩ := Df.funD (d := df_Book_read) (c.d 17 rfl).1 (c.d 17 rfl).2 rfl
  have l_Book_read : FunD K "read" "Book.read" (defArgs s_Book_read) (defBody s_Book_read) (defScope s_Book_read) [] [] (Xf_Book_read K) d_Book_read := lx_Book_read
  have k_Book_read : W.keepIn K (.ref (Xf_Book_read K)) = true := of_decide_eq_true (c.t 2 16 rfl rfl)
  have a_Book_need_kind : W.findIn K (.ref (Xc_Book K)) "need_kind" = some (some (.ref (Xf_Book_need_kind K))) := of_decide_eq_true (c.t 2 17 rfl rfl)
  have n_Book_need_kind : W.isFn K (.ref (Xf_Book_need_kind K)) = true := of_decide_eq_true (c.t 2 18 rfl rfl)
  obtain ⟨d_Book_need_kind, lx_Book_need_kind⟩ := Df.funD (d := df_Book_need_kind) (c.d 18 rfl).1 (c.d 18 rfl).2 rfl
  have l_Book_need_kind : FunD K "need_kind" "Book.need_kind" (defArgs s_Book_need_kind) (defBody s_Book_need_kind) (defScope s_Book_need_kind) [] [] (Xf_Book_need_kind K) d_Book_need_kind := lx_Book_need_kind
  have k_Book_need_kind : W.keepIn K (.ref (Xf_Book_need_kind K)) = true := of_decide_eq_true (c.t 2 19 rfl rfl)
  have a_Book_target : W.findIn K (.ref (Xc_Book K)) "target" = some (some (.ref (Xf_Book_target K))) := of_decide_eq_true (c.t 2 20 rfl rfl)
  have n_Book_target : W.isFn K (.ref (Xf_Book_target K)) = true := of_decide_eq_true (c.t 2 21 rfl rfl)
  obtain ⟨d_Book_target, lx_Book_target⟩ := Df.funD (d := df_Book_target) (c.d 19 rfl).1 (c.d 19 rfl).2 rfl
  have l_Book_target : FunD K "target" "Book.target" (defArgs s_Book_target) (defBody s_Book_target) (defScope s_Book_target) [] [] (Xf_Book_target K) d_Book_target := lx_Book_target
  have k_Book_target : W.keepIn K (.ref (Xf_Book_target K)) = true := of_decide_eq_true (c.t 2 22 rfl rfl)
  have a_Book_without : W.findIn K (.ref (Xc_Book K)) "without" = some (some (.ref (Xf_Book_without K))) := of_decide_eq_true (c.t 2 23 rfl rfl)
  have n_Book_without : W.isFn K (.ref (Xf_Book_without K)) = true := of_decide_eq_true (c.t 2 24 rfl rfl)
  obtain ⟨d_Book_without, lx_Book_without⟩ := Df.funD (d := df_Book_without) (c.d 20 rfl).1 (c.d 20 rfl).2 rfl
  have l_Book_without : FunD K "without" "Book.without" (defArgs s_Book_without) (defBody s_Book_without) (defScope s_Book_without) [] [] (Xf_Book_without K) d_Book_without := lx_Book_without
  have k_Book_without : W.keepIn K (.ref (Xf_Book_without K)) = true := of_decide_eq_true (c.t 2 25 rfl rfl)
  have a_Book_eq : W.findIn K (.ref (Xc_Book K)) "__eq__" = some (some (.ref (Xf_Book_eq K))) := of_decide_eq_true (c.t 2 26 rfl rfl)
  have n_Book_eq : W.isFn K (.ref (Xf_Book_eq K)) = true := of_decide_eq_true (c.t 2 27 rfl rfl)
  obtain ⟨d_Book_eq, lx_Book_eq⟩ := Df.funD (d := df_Book_eq) (c.d 21 rfl).1 (c.d 21 rfl).2 rfl
  have l_Book_eq : FunD K "__eq__" "Book.__eq__" (defArgs s_Book_eq) (defBody s_Book_eq) (defScope s_Book_eq) [] [] (Xf_Book_eq K) d_Book_eq := lx_Book_eq
  have k_Book_eq : W.keepIn K (.ref (Xf_Book_eq K)) = true := of_decide_eq_true (c.t 2 28 rfl rfl)
  have a_Book_str : W.findIn K (.ref (Xc_Book K)) "__str__" = some (some (.ref (Xf_Book_str K))) := of_decide_eq_true (c.t 2 29 rfl rfl)
  have n_Book_str : W.isFn K (.ref (Xf_Book_str K)) = true := of_decide_eq_true (c.t 3 0 rfl rfl)
  obtain ⟨d_Book_str, lx_Book_str⟩ := Df.funD (d := df_Book_str) (c.d 22 rfl).1 (c.d 22 rfl).2 rfl
  have l_Book_str : FunD K "__str__" "Book.__str__" (defArgs s_Book_str) (defBody s_Book_str) (defScope s_Book_str) [] [] (Xf_Book_str K) d_Book_str := lx_Book_str
  have k_Book_str : W.keepIn K (.ref (Xf_Book_str K)) = true := of_decide_eq_true (c.t 3 1 rfl rfl)
  have a_HastyError : W.nsIn K mainGlobals "HastyError" = some (some (.ref (Xc_HastyError K))) := of_decide_eq_true (c.t 3 2 rfl rfl)
  obtain ⟨cd_HastyError, cl_HastyError⟩ := clsT_ok (c.t 3 3 rfl rfl)
  have ty_HastyError : W.typeIn K (.ref (Xc_HastyError K)) = some (.type "type") := of_decide_eq_true (c.t 3 4 rfl rfl)
  have zt_super : (PySem.Challenge.pw_hastypage_k09_whole_other_names.main.scope.names.lookup ("super" : Str)).isSome = false := by first | rfl | decide +kernel
  have zz_super : W.nsIn K mainGlobals "super" = some none := of_decide_eq_true (c.t 3 5 rfl rfl)
  have zz_any : W.nsIn K cStatics "thirdparty.any" = some none := of_decide_eq_true (c.t 3 6 rfl rfl)
  have a_InvalidBook : W.nsIn K mainGlobals "InvalidBook" = some (some (.ref (Xc_InvalidBook K))) := of_decide_eq_true (c.t 3 7 rfl rfl)
  obtain ⟨nm_InvalidBook, qn_InvalidBook, N_InvalidBook, bs_InvalidBook, bm_InvalidBook, sn_InvalidBook, sub_InvalidBook, ab_InvalidBook, col_InvalidBook, dd_InvalidBook, k0_InvalidBook, k1_InvalidBook, k2_InvalidBook, k3_InvalidBook, k5_InvalidBook, lc_InvalidBook, rv_InvalidBook⟩ := excT_ok (c.t 3 8 rfl rfl)
  have sa_InvalidBook : W.findIn K (.ref (Xc_InvalidBook K)) "__setattr__" = some (some (.builtin "object.__setattr__")) := of_decide_eq_true (c.t 3 9 rfl rfl)
  have ex_InvalidBook : W.subIn K (.ref (Xc_InvalidBook K)) (.type "BaseException") = some true := of_decide_eq_true (c.t 3 10 rfl rfl)
  have ty_InvalidBook : W.typeIn K (.ref (Xc_InvalidBook K)) = some (.type "type") := of_decide_eq_true (c.t 3 11 rfl rfl)
  have kc_InvalidBook : W.keepIn K (.ref (Xc_InvalidBook K)) = true := of_decide_eq_true (c.t 3 12 rfl rfl)
  have ga_InvalidBook : W.findIn K (.ref (Xc_InvalidBook K)) "__getattribute__" = some (some (.builtin "BaseException.__getattribute__")) := of_decide_eq_true (c.t 3 13 rfl rfl)
  have gg_InvalidBook : W.findIn K (.ref (Xc_InvalidBook K)) "__getattr__" = some none := of_decide_eq_true (c.t 3 14 rfl rfl)
  have hd_InvalidBook : W.hasDictIn K (Xc_InvalidBook K) = true := of_decide_eq_true (c.t 3 15 rfl rfl)
  have ca_InvalidBook : W.findIn K (.ref (Xc_InvalidBook K)) "__class__" = some (some (.builtin "object.__class__")) := of_decide_eq_true (c.t 3 16 rfl rfl)
  have cm_InvalidBook : W.mroIn K (Xc_InvalidBook K) (.type "object") = some true := of_decide_eq_true (c.t 3 17 rfl rfl)
  have na_InvalidBook_word : W.findIn K (.ref (Xc_InvalidBook K)) "word" = some none := of_decide_eq_true (c.t 3 18 rfl rfl)
  have ai_InvalidBook : W.findIn K (.ref (Xc_InvalidBook K)) "__init__" = some (some (.ref (Xf_InvalidBook_init K))) := of_decide_eq_true (c.t 3 19 rfl rfl)
  have ti_InvalidBook : W.typeIn K (.ref (Xf_InvalidBook_init K)) = some (.type "function") := of_decide_eq_true (c.t 3 20 rfl rfl)
  obtain ⟨oc_InvalidBook, od_InvalidBook, kV_InvalidBook, dc_InvalidBook, pm_InvalidBook, an_InvalidBook, ct_InvalidBook, sl_InvalidBook, lfx_InvalidBook, cix_InvalidBook⟩ := Df.sup (d := df_InvalidBook_init) (c.d 23 rfl).1 (c.d 23 rfl).2 rfl rfl (c.t 3 21 rfl rfl)
  have lf_InvalidBook : K.lookup (Xf_InvalidBook_init K) = some ⟨oc_InvalidBook, od_InvalidBook, .func (W.ksFn "__init__" "InvalidBook.__init__" (defArgs s_InvalidBook_init) (defBody s_InvalidBook_init) (defScope s_InvalidBook_init) .none kV_InvalidBook dc_InvalidBook pm_InvalidBook an_InvalidBook (.ref (Xcda_InvalidBook K)) ct_InvalidBook (Xcc_InvalidBook K)), sl_InvalidBook⟩ := lfx_InvalidBook
  have ci_InvalidBook : W.codeIn K (.ref (Xcda_InvalidBook K)) "InvalidBook.__init__" = true := cix_InvalidBook
  obtain ⟨ccl_InvalidBook, cdd_InvalidBook, vs_InvalidBook, ccs_InvalidBook, tf_InvalidBook, ld_InvalidBook, hv_InvalidBook⟩ := filT_ok (f := PySem.Challenge.pw_hastypage_k09_whole_other_names.main.file) (c.t 3 22 rfl rfl)
  have hf_InvalidBook : ((PySem.Challenge.pw_hastypage_k09_whole_other_names.main.file : Str) == PySem.Challenge.pw_hastypage_k09_whole_other_names.main.file) = true := beq_self_eq_true _
  obtain ⟨cl0_InvalidBook, cld_InvalidBook, csl_InvalidBook, lk_InvalidBook⟩ := celT_ok (c.t 3 23 rfl rfl)
  have si_InvalidBook : W.ks_superIn K (Xc_InvalidBook K) (Xc_InvalidBook K) "__init__" = some (some (.builtin "ValueError.__init__")) := of_decide_eq_true (c.t 3 24 rfl rfl)
  have sv_InvalidBook : W.subIn K (.ref (Xc_InvalidBook K)) (.type "ValueError") = some true := of_decide_eq_true (c.t 3 25 rfl rfl)
  have a_InvalidText : W.nsIn K mainGlobals "InvalidText" = some (some (.ref (Xc_InvalidText K))) := of_decide_eq_true (c.t 3 26 rfl rfl)
  obtain ⟨nm_InvalidText, qn_InvalidText, N_InvalidText, bs_InvalidText, bm_InvalidText, sn_InvalidText, sub_InvalidText, ab_InvalidText, col_InvalidText, dd_InvalidText, k0_InvalidText, k1_InvalidText, k2_InvalidText, k3_InvalidText, k5_InvalidText, lc_InvalidText, rv_InvalidText⟩ := excT_ok (c.t 3 27 rfl rfl)
  have sa_InvalidText : W.findIn K (.ref (Xc_InvalidText K)) "__setattr__" = some (some (.builtin "object.__setattr__")) := of_decide_eq_true (c.t 3 28 rfl rfl)
  have ex_InvalidText : W.subIn K (.ref (Xc_InvalidText K)) (.type "BaseException") = some true := of_decide_eq_true (c.t 3 29 rfl rfl)
  have ty_InvalidText : W.typeIn K (.ref (Xc_InvalidText K)) = some (.type "type") := of_decide_eq_true (c.t 4 0 rfl rfl)
  have kc_InvalidText : W.keepIn K (.ref (Xc_InvalidText K)) = true := of_decide_eq_true (c.t 4 1 rfl rfl)
  have ga_InvalidText : W.findIn K (.ref (Xc_InvalidText K)) "__getattribute__" = some (some (.builtin "BaseException.__getattribute__")) := of_decide_eq_true (c.t 4 2 rfl rfl)
  have gg_InvalidText : W.findIn K (.ref (Xc_InvalidText K)) "__getattr__" = some none := of_decide_eq_true (c.t 4 3 rfl rfl)
  have hd_InvalidText : W.hasDictIn K (Xc_InvalidText K) = true := of_decide_eq_true (c.t 4 4 rfl rfl)
  have ca_InvalidText : W.findIn K (.ref (Xc_InvalidText K)) "__class__" = some (some (.builtin "object.__class__")) := of_decide_eq_true (c.t 4 5 rfl rfl)
  have cm_InvalidText : W.mroIn K (Xc_InvalidText K) (.type "object") = some true := of_decide_eq_true (c.t 4 6 rfl rfl)
  have na_InvalidText_at : W.findIn K (.ref (Xc_InvalidText K)) "at" = some none := of_decide_eq_true (c.t 4 7 rfl rfl)
  have ai_InvalidText : W.findIn K (.ref (Xc_InvalidText K)) "__init__" = some (some (.ref (Xf_InvalidText_init K))) := of_decide_eq_true (c.t 4 8 rfl rfl)
  have ti_InvalidText : W.typeIn K (.ref (Xf_InvalidText_init K)) = some (.type "function") := of_decide_eq_true (c.t 4 9 rfl rfl)
  obtain ⟨oc_InvalidText, od_InvalidText, kV_InvalidText, dc_InvalidText, pm_InvalidText, an_InvalidText, ct_InvalidText, sl_InvalidText, lfx_InvalidText, cix_InvalidText⟩ := Df.sup (d := df_InvalidText_init) (c.d 24 rfl).1 (c.d 24 rfl).2 rfl rfl (c.t 4 10 rfl rfl)
  have lf_InvalidText : K.lookup (Xf_InvalidText_init K) = some ⟨oc_InvalidText, od_InvalidText, .func (W.ksFn "__init__" "InvalidText.__init__" (defArgs s_InvalidText_init) (defBody s_InvalidText_init) (defScope s_InvalidText_init) .none kV_InvalidText dc_InvalidText pm_InvalidText an_InvalidText (.ref (Xcda_InvalidText K)) ct_InvalidText (Xcc_InvalidText K)), sl_InvalidText⟩ := lfx_InvalidText
  have ci_InvalidText : W.codeIn K (.ref (Xcda_InvalidText K)) "InvalidText.__init__" = true := cix_InvalidText
  obtain ⟨ccl_InvalidText, cdd_InvalidText, vs_InvalidText, ccs_InvalidText, tf_InvalidText, ld_InvalidText, hv_InvalidText⟩ := filT_ok (f := PySem.Challenge.pw_hastypage_k09_whole_other_names.main.file) (c.t 4 11 rfl rfl)
  have hf_InvalidText : ((PySem.Challenge.pw_hastypage_k09_whole_other_names.main.file : Str) == PySem.Challenge.pw_hastypage_k09_whole_other_names.main.file) = true := beq_self_eq_true _
  obtain ⟨cl0_InvalidText, cld_InvalidText, csl_InvalidText, lk_InvalidText⟩ := celT_ok (c.t 4 12 rfl rfl)
  have si_InvalidText : W.ks_superIn K (Xc_InvalidText K) (Xc_InvalidText K) "__init__" = some (some (.builtin "ValueError.__init__")) := of_decide_eq_true (c.t 4 13 rfl rfl)
  have sv_InvalidText : W.subIn K (.ref (Xc_InvalidText K)) (.type "ValueError") = some true := of_decide_eq_true (c.t 4 14 rfl rfl)
  have a_NoKind : W.nsIn K mainGlobals "NoKind" = some (some (.ref (Xc_NoKind K))) := of_decide_eq_true (c.t 4 15 rfl rfl)
  obtain ⟨nm_NoKind, qn_NoKind, N_NoKind, bs_NoKind, bm_NoKind, sn_NoKind, sub_NoKind, ab_NoKind, col_NoKind, dd_NoKind, k0_NoKind, k1_NoKind, k2_NoKind, k3_NoKind, k5_NoKind, lc_NoKind, rv_NoKind⟩ := excT_ok (c.t 4 16 rfl rfl)
  have sa_NoKind : W.findIn K (.ref (Xc_NoKind K)) "__setattr__" = some (some (.builtin "object.__setattr__")) := of_decide_eq_true (c.t 4 17 rfl rfl)
  have ex_NoKind : W.subIn K (.ref (Xc_NoKind K)) (.type "BaseException") = some true := of_decide_eq_true (c.t 4 18 rfl rfl)
  have ty_NoKind : W.typeIn K (.ref (Xc_NoKind K)) = some (.type "type") := of_decide_eq_true (c.t 4 19 rfl rfl)
  have kc_NoKind : W.keepIn K (.ref (Xc_NoKind K)) = true := of_decide_eq_true (c.t 4 20 rfl rfl)
  have ga_NoKind : W.findIn K (.ref (Xc_NoKind K)) "__getattribute__" = some (some (.builtin "BaseException.__getattribute__")) := of_decide_eq_true (c.t 4 21 rfl rfl)
  have gg_NoKind : W.findIn K (.ref (Xc_NoKind K)) "__getattr__" = some none := of_decide_eq_true (c.t 4 22 rfl rfl)
  have hd_NoKind : W.hasDictIn K (Xc_NoKind K) = true := of_decide_eq_true (c.t 4 23 rfl rfl)
  have ca_NoKind : W.findIn K (.ref (Xc_NoKind K)) "__class__" = some (some (.builtin "object.__class__")) := of_decide_eq_true (c.t 4 24 rfl rfl)
  have cm_NoKind : W.mroIn K (Xc_NoKind K) (.type "object") = some true := of_decide_eq_true (c.t 4 25 rfl rfl)
  have na_NoKind_name : W.findIn K (.ref (Xc_NoKind K)) "name" = some none := of_decide_eq_true (c.t 4 26 rfl rfl)
  have ai_NoKind : W.findIn K (.ref (Xc_NoKind K)) "__init__" = some (some (.ref (Xf_NoKind_init K))) := of_decide_eq_true (c.t 4 27 rfl rfl)
  have ti_NoKind : W.typeIn K (.ref (Xf_NoKind_init K)) = some (.type "function") := of_decide_eq_true (c.t 4 28 rfl rfl)
  obtain ⟨oc_NoKind, od_NoKind, kV_NoKind, dc_NoKind, pm_NoKind, an_NoKind, ct_NoKind, sl_NoKind, lfx_NoKind, cix_NoKind⟩ := Df.sup (d := df_NoKind_init) (c.d 25 rfl).1 (c.d 25 rfl).2 rfl rfl (c.t 4 29 rfl rfl)
  have lf_NoKind : K.lookup (Xf_NoKind_init K) = some ⟨oc_NoKind, od_NoKind, .func (W.ksFn "__init__" "NoKind.__init__" (defArgs s_NoKind_init) (defBody s_NoKind_init) (defScope s_NoKind_init) .none kV_NoKind dc_NoKind pm_NoKind an_NoKind (.ref (Xcda_NoKind K)) ct_NoKind (Xcc_NoKind K)), sl_NoKind⟩ := lfx_NoKind
  have ci_NoKind : W.codeIn K (.ref (Xcda_NoKind K)) "NoKind.__init__" = true := cix_NoKind
  obtain ⟨ccl_NoKind, cdd_NoKind, vs_NoKind, ccs_NoKind, tf_NoKind, ld_NoKind, hv_NoKind⟩ := filT_ok (f := PySem.Challenge.pw_hastypage_k09_whole_other_names.main.file) (c.t 5 0 rfl rfl)
  have hf_NoKind : ((PySem.Challenge.pw_hastypage_k09_whole_other_names.main.file : Str) == PySem.Challenge.pw_hastypage_k09_whole_other_names.main.file) = true := beq_self_eq_true _
  obtain ⟨cl0_NoKind, cld_NoKind, csl_NoKind, lk_NoKind⟩ := celT_ok (c.t 5 1 rfl rfl)
  have si_NoKind : W.ks_superIn K (Xc_NoKind K) (Xc_NoKind K) "__init__" = some (some (.builtin "KeyError.__init__")) := of_decide_eq_true (c.t 5 2 rfl rfl)
  have sv_NoKind : W.subIn K (.ref (Xc_NoKind K)) (.type "KeyError") = some true := of_decide_eq_true (c.t 5 3 rfl rfl)
  have su_InvalidBook_InvalidBook : W.subIn K (.ref (Xc_InvalidBook K)) (.ref (Xc_InvalidBook K)) = some true := of_decide_eq_true (c.t 5 4 rfl rfl)
  have su_InvalidText_InvalidText : W.subIn K (.ref (Xc_InvalidText K)) (.ref (Xc_InvalidText K)) = some true := of_decide_eq_true (c.t 5 5 rfl rfl)
  have su_NoKind_NoKind : W.subIn K (.ref (Xc_NoKind K)) (.ref (Xc_NoKind K)) = some true := of_decide_eq_true (c.t 5 6 rfl rfl)
  have su_InvalidBook_HastyError : W.subIn K (.ref (Xc_InvalidBook K)) (.ref (Xc_HastyError K)) = some true := of_decide_eq_true (c.t 5 7 rfl rfl)
  have nq_InvalidBook_HastyError : ((.ref (Xc_InvalidBook K) : Value) == .ref (Xc_HastyError K)) = false := of_decide_eq_true (c.t 5 8 rfl rfl)
  have su_InvalidText_HastyError : W.subIn K (.ref (Xc_InvalidText K)) (.ref (Xc_HastyError K)) = some true := of_decide_eq_true (c.t 5 9 rfl rfl)
  have nq_InvalidText_HastyError : ((.ref (Xc_InvalidText K) : Value) == .ref (Xc_HastyError K)) = false := of_decide_eq_true (c.t 5 10 rfl rfl)
  have su_NoKind_HastyError : W.subIn K (.ref (Xc_NoKind K)) (.ref (Xc_HastyError K)) = some false := of_decide_eq_true (c.t 5 11 rfl rfl)
  have nq_NoKind_HastyError : ((.ref (Xc_NoKind K) : Value) == .ref (Xc_HastyError K)) = false := of_decide_eq_true (c.t 5 12 rfl rfl)
  have z_abs : W.nsIn K mainGlobals "abs" = some none := of_decide_eq_true (c.t 5 13 rfl rfl)
  have z_all : W.nsIn K mainGlobals "all" = some none := of_decide_eq_true (c.t 5 14 rfl rfl)
  have z_dict : W.nsIn K mainGlobals "dict" = some none := of_decide_eq_true (c.t 5 15 rfl rfl)
  have z_enumerate : W.nsIn K mainGlobals "enumerate" = some none := of_decide_eq_true (c.t 5 16 rfl rfl)
  have z_int : W.nsIn K mainGlobals "int" = some none := of_decide_eq_true (c.t 5 17 rfl rfl)
  have z_isinstance : W.nsIn K mainGlobals "isinstance" = some none := of_decide_eq_true (c.t 5 18 rfl rfl)
  have z_len : W.nsIn K mainGlobals "len" = some none := of_decide_eq_true (c.t 5 19 rfl rfl)
  have z_list : W.nsIn K mainGlobals "list" = some none := of_decide_eq_true (c.t 5 20 rfl rfl)
  have z_range : W.nsIn K mainGlobals "range" = some none := of_decide_eq_true (c.t 5 21 rfl rfl)
  have z_str : W.nsIn K mainGlobals "str" = some none := of_decide_eq_true (c.t 5 22 rfl rfl)
  have z_tuple : W.nsIn K mainGlobals "tuple" = some none := of_decide_eq_true (c.t 5 23 rfl rfl)
  have z_zip : W.nsIn K mainGlobals "zip" = some none := of_decide_eq_true (c.t 5 24 rfl rfl)
  obtain ⟨tk_SMALL, a_nSMALL⟩ := strT_ok (c.t 5 25 rfl rfl)
  have a_nBARRED : W.nsIn K mainGlobals "BARRED" = some (some (.ref (Xa_BARRED K))) := of_decide_eq_true (c.t 5 26 rfl rfl)
  have l_BARRED : ∀ H : Hp, Rep K H (.tup (barred.map D.str)) (.ref (Xa_BARRED K)) := tupT_ok (c.t 5 27 rfl rfl)
  have le_Book_init_0 : ∀ H : Hp, Rep K H (.tup []) (.ref (Xe_Book_init_0 K)) := tupT_ok (ss := []) (c.t 5 28 rfl rfl)
  have le_Book_init_1 : ∀ H : Hp, Rep K H (.tup []) (.ref (Xe_Book_init_1 K)) := tupT_ok (ss := []) (c.t 5 29 rfl rfl)
  exact ⟨{
       c_Book := Xc_Book K, c_HastyError := Xc_HastyError K, c_InvalidBook := Xc_InvalidBook K, c_InvalidText := Xc_InvalidText K, c_NoKind := Xc_NoKind K, f_is_name := Xf_is_name K, f_is_sequence := Xf_is_sequence K, f_are_names := Xf_are_names K, f_is_targets := Xf_is_targets K, f_are_kinds := Xf_are_kinds K, f_are_some := Xf_are_some K, f_is_book_line := Xf_is_book_line K, f_may_follow := Xf_may_follow K, f__law_deal := Xf__law_deal K, f__law_draw := Xf__law_draw K, f__law_mixed := Xf__law_mixed K, f__law_words := Xf__law_words K, f__law_book := Xf__law_book K, f__law_book_text := Xf__law_book_text K, f__law_led := Xf__law_led K, f_law := Xf_law K, f_Book_init := Xf_Book_init K, f_Book_read := Xf_Book_read K, f_Book_need_kind := Xf_Book_need_kind K, f_Book_target := Xf_Book_target K, f_Book_without := Xf_Book_without K, f_Book_eq := Xf_Book_eq K, f_Book_str := Xf_Book_str K, d_is_name := d_is_name, d_is_sequence := d_is_sequence, d_are_names := d_are_names, d_is_targets := d_is_targets, d_are_kinds := d_are_kinds, d_are_some := d_are_some, d_is_book_line := d_is_book_line, d_may_follow := d_may_follow, d__law_deal := d__law_deal, d__law_draw := d__law_draw, d__law_mixed := d__law_mixed, d__law_words := d__law_words, d__law_book := d__law_book, d__law_book_text := d__law_book_text, d__law_led := d__law_led, d_law := d_law, d_Book_init := d_Book_init, d_Book_read := d_Book_read, d_Book_need_kind := d_Book_need_kind, d_Book_target := d_Book_target, d_Book_without := d_Book_without, d_Book_eq := d_Book_eq, d_Book_str := d_Book_str, a_BARRED := Xa_BARRED K, e_Book_init_0 := Xe_Book_init_0 K, e_Book_init_1 := Xe_Book_init_1 K,
       i_Book := ⟨⟨pg_Book, hd_Book, po_Book, sa_Book⟩, ca_Book, cnn, ctt, cm_Book⟩,
       g_Book := W.mg_of X G a_Book,
       na_Book_choices := na_Book_choices,
       na_Book_kinds := na_Book_kinds,
       na_Book_targets := na_Book_targets,
       na_Book_loose := na_Book_loose,
       na_Book_others := na_Book_others,
       isi_Book_list := kit_ref cl_Book ty_Book ss_Book_list (by first | rfl | decide | (exact bne_of (by decide))),
       isi_Book_tuple := kit_ref cl_Book ty_Book ss_Book_tuple (by first | rfl | decide | (exact bne_of (by decide))),
       isi_Book_str := kit_ref cl_Book ty_Book ss_Book_str (by first | rfl | decide | (exact bne_of (by decide))),
       isi_Book_int := kit_ref cl_Book ty_Book ss_Book_int (by first | rfl | decide | (exact bne_of (by decide))),
       isi_Book_bool := kit_ref cl_Book ty_Book ss_Book_bool (by first | rfl | decide | (exact bne_of (by decide))),
       isi_Book_NoneType := kit_ref cl_Book ty_Book ss_Book_NoneType (by first | rfl | decide | (exact bne_of (by decide))),
       kin_Book_list := kit_tyF sk_Book_list (by decide +kernel),
       kin_Book_tuple := kit_tyF sk_Book_tuple (by decide +kernel),
       kin_Book_str := kit_tyF sk_Book_str (by decide +kernel),
       kin_Book_int := kit_tyF sk_Book_int (by decide +kernel),
       kin_Book_bool := kit_tyF sk_Book_bool (by decide +kernel),
       nf_Book_Book := nf_Book_Book,
       nf_Book_list := nf_Book_list,
       nf_Book_tuple := nf_Book_tuple,
       nf_Book_str := nf_Book_str,
       nf_Book_int := nf_Book_int,
       nf_Book_bool := nf_Book_bool,
       nf_Book_NoneType := nf_Book_NoneType,
       ne_Book := ne_Book,
       g_is_name := W.mg_of X G a_is_name,
       F_is_name := l_is_name,
       b_is_name := l_is_name.bindsN fun _ _ _ _ _ _ us hl => match us, hl with | [_], _ => rfl,
       g_is_sequence := W.mg_of X G a_is_sequence,
       F_is_sequence := l_is_sequence,
       b_is_sequence := l_is_sequence.bindsN fun _ _ _ _ _ _ us hl => match us, hl with | [_], _ => rfl,
       g_are_names := W.mg_of X G a_are_names,
       F_are_names := l_are_names,
       b_are_names := l_are_names.bindsN fun _ _ _ _ _ _ us hl => match us, hl with | [_], _ => rfl,
       g_is_targets := W.mg_of X G a_is_targets,
       F_is_targets := l_is_targets,
       b_is_targets := l_is_targets.bindsN fun _ _ _ _ _ _ us hl => match us, hl with | [_, _], _ => rfl,
       g_are_kinds := W.mg_of X G a_are_kinds,
       F_are_kinds := l_are_kinds,
       b_are_kinds := l_are_kinds.bindsN fun _ _ _ _ _ _ us hl => match us, hl with | [_, _], _ => rfl,
       g_are_some := W.mg_of X G a_are_some,
       F_are_some := l_are_some,
       b_are_some := l_are_some.bindsN fun _ _ _ _ _ _ us hl => match us, hl with | [_, _], _ => rfl,
       g_is_book_line := W.mg_of X G a_is_book_line,
       F_is_book_line := l_is_book_line,
       b_is_book_line := l_is_book_line.bindsN fun _ _ _ _ _ _ us hl => match us, hl with | [_], _ => rfl,
       g_may_follow := W.mg_of X G a_may_follow,
       F_may_follow := l_may_follow,
       b_may_follow := l_may_follow.bindsN fun _ _ _ _ _ _ us hl => match us, hl with | [_, _], _ => rfl,
       g__law_deal := W.mg_of X G a__law_deal,
       F__law_deal := l__law_deal,
       b__law_deal := l__law_deal.bindsN fun _ _ _ _ _ _ us hl => match us, hl with | [_, _], _ => rfl,
       g__law_draw := W.mg_of X G a__law_draw,
       F__law_draw := l__law_draw,
       b__law_draw := l__law_draw.bindsN fun _ _ _ _ _ _ us hl => match us, hl with | [_, _], _ => rfl,
       g__law_mixed := W.mg_of X G a__law_mixed,
       F__law_mixed := l__law_mixed,
       b__law_mixed := l__law_mixed.bindsN fun _ _ _ _ _ _ us hl => match us, hl with | [_, _], _ => rfl,
       g__law_words := W.mg_of X G a__law_words,
       F__law_words := l__law_words,
       b__law_words := l__law_words.bindsN fun _ _ _ _ _ _ us hl => match us, hl with | [_, _], _ => rfl,
       g__law_book := W.mg_of X G a__law_book,
       F__law_book := l__law_book,
       b__law_book := l__law_book.bindsN fun _ _ _ _ _ _ us hl => match us, hl with | [_, _], _ => rfl,
       g__law_book_text := W.mg_of X G a__law_book_text,
       F__law_book_text := l__law_book_text,
       b__law_book_text := l__law_book_text.bindsN fun _ _ _ _ _ _ us hl => match us, hl with | [_], _ => rfl,
       g__law_led := W.mg_of X G a__law_led,
       F__law_led := l__law_led,
       b__law_led := l__law_led.bindsN fun _ _ _ _ _ _ us hl => match us, hl with | [_, _], _ => rfl,
       g_law := W.mg_of X G a_law,
       F_law := l_law,
       b_law := l_law.bindsN fun _ _ _ _ _ _ us hl => match us, hl with | [_], _ => rfl,
       mk_Book := ⟨mm_Book, a_Book_init, n_Book_init, kc_Book⟩,
       F_Book_init := l_Book_init,
       b_Book_init := binds_all (ps := ["self", "choices", "kinds", "loose", "others"]) l_Book_init 5 rfl (by simp) fun _ _ _ _ _ _ _ us its hu hi => match us, its, hu, hi with | [_, _, _, _, _], [_, _], _, _ => ⟨_, rfl, rfl⟩,
       b0_Book_init := l_Book_init.binds1 (ps := ["self", "choices", "kinds", "loose", "others"]) 3 0 (by simp) rfl fun _ _ _ _ _ _ _ us its hu hi => match us, its, hu, hi with | [_, _, _], [_, _], _, _ => ⟨_, rfl, rfl⟩,
       b1_Book_init := l_Book_init.binds1 (ps := ["self", "choices", "kinds", "loose", "others"]) 4 1 (by simp) rfl fun _ _ _ _ _ _ _ us its hu hi => match us, its, hu, hi with | [_, _, _, _], [_, _], _, _ => ⟨_, rfl, rfl⟩,
       m_Book_read := ⟨_, _, ⟨cr_Book_read, cg_Book_read⟩, ca_Book_read, ⟨_, rc_Book_read⟩, fi_Book_read⟩,
       F_Book_read := l_Book_read,
       b_Book_read := l_Book_read.bindsN fun _ _ _ _ _ _ us hl => match us, hl with | [_, _], _ => rfl,
       m_Book_need_kind := ⟨a_Book_need_kind, n_Book_need_kind, k_Book_need_kind⟩,
       F_Book_need_kind := l_Book_need_kind,
       b_Book_need_kind := l_Book_need_kind.bindsN fun _ _ _ _ _ _ us hl => match us, hl with | [_, _], _ => rfl,
       m_Book_target := ⟨a_Book_target, n_Book_target, k_Book_target⟩,
       F_Book_target := l_Book_target,
       b_Book_target := l_Book_target.bindsN fun _ _ _ _ _ _ us hl => match us, hl with | [_, _, _], _ => rfl,
       m_Book_without := ⟨a_Book_without, n_Book_without, k_Book_without⟩,
       F_Book_without := l_Book_without,
       b_Book_without := l_Book_without.bindsN fun _ _ _ _ _ _ us hl => match us, hl with | [_, _], _ => rfl,
       m_Book_eq := a_Book_eq,
       n_Book_eq := n_Book_eq,
       F_Book_eq := l_Book_eq,
       b_Book_eq := l_Book_eq.bindsN fun _ _ _ _ _ _ us hl => match us, hl with | [_, _], _ => rfl,
       m_Book_str := a_Book_str,
       n_Book_str := n_Book_str,
       F_Book_str := l_Book_str,
       b_Book_str := l_Book_str.bindsN fun _ _ _ _ _ _ us hl => match us, hl with | [_], _ => rfl,
       g_HastyError := W.mg_of X G a_HastyError,
       g_InvalidBook := W.mg_of X G a_InvalidBook,
       xf_InvalidBook := ⟨ga_InvalidBook, gg_InvalidBook, ex_InvalidBook, hd_InvalidBook⟩,
       xc_InvalidBook := ⟨ga_InvalidBook, gg_InvalidBook, ex_InvalidBook, hd_InvalidBook, ca_InvalidBook, cnn, ctt, cm_InvalidBook⟩,
       na_InvalidBook_word := na_InvalidBook_word,
       x_InvalidBook := ⟨⟨_, _, _, _, xf_ValueError, ⟨⟨_, _, _, _, _, _, _, _, _, _, _, _, _, _, _, lc_InvalidBook, rv_InvalidBook⟩, sa_InvalidBook, ex_InvalidBook, ty_InvalidBook, kc_InvalidBook⟩⟩, _, ai_InvalidBook, ti_InvalidBook, sup_InvalidBook lc_InvalidBook rv_InvalidBook sa_InvalidBook na_InvalidBook_word lf_InvalidBook ld_InvalidBook hv_InvalidBook hf_InvalidBook ci_InvalidBook lk_InvalidBook (W.mg_none_of X G zz_super) zt_super zz_any si_InvalidBook sv_InvalidBook⟩,
       g_InvalidText := W.mg_of X G a_InvalidText,
       xf_InvalidText := ⟨ga_InvalidText, gg_InvalidText, ex_InvalidText, hd_InvalidText⟩,
       xc_InvalidText := ⟨ga_InvalidText, gg_InvalidText, ex_InvalidText, hd_InvalidText, ca_InvalidText, cnn, ctt, cm_InvalidText⟩,
       na_InvalidText_at := na_InvalidText_at,
       x_InvalidText := ⟨⟨_, _, _, _, xf_ValueError, ⟨⟨_, _, _, _, _, _, _, _, _, _, _, _, _, _, _, lc_InvalidText, rv_InvalidText⟩, sa_InvalidText, ex_InvalidText, ty_InvalidText, kc_InvalidText⟩⟩, _, ai_InvalidText, ti_InvalidText, sup_InvalidText lc_InvalidText rv_InvalidText sa_InvalidText na_InvalidText_at lf_InvalidText ld_InvalidText hv_InvalidText hf_InvalidText ci_InvalidText lk_InvalidText (W.mg_none_of X G zz_super) zt_super zz_any si_InvalidText sv_InvalidText⟩,
       g_NoKind := W.mg_of X G a_NoKind,
       xf_NoKind := ⟨ga_NoKind, gg_NoKind, ex_NoKind, hd_NoKind⟩,
       xc_NoKind := ⟨ga_NoKind, gg_NoKind, ex_NoKind, hd_NoKind, ca_NoKind, cnn, ctt, cm_NoKind⟩,
       na_NoKind_name := na_NoKind_name,
       x_NoKind := ⟨⟨_, _, _, _, xf_KeyError, ⟨⟨_, _, _, _, _, _, _, _, _, _, _, _, _, _, _, lc_NoKind, rv_NoKind⟩, sa_NoKind, ex_NoKind, ty_NoKind, kc_NoKind⟩⟩, _, ai_NoKind, ti_NoKind, sup_NoKind lc_NoKind rv_NoKind sa_NoKind na_NoKind_name lf_NoKind ld_NoKind hv_NoKind hf_NoKind ci_NoKind lk_NoKind (W.mg_none_of X G zz_super) zt_super zz_any si_NoKind sv_NoKind⟩,
       exm_InvalidBook_InvalidBook := W.exm_ref ex_InvalidBook hd_InvalidBook ty_InvalidBook su_InvalidBook_InvalidBook,
       exm_InvalidText_InvalidText := W.exm_ref ex_InvalidText hd_InvalidText ty_InvalidText su_InvalidText_InvalidText,
       exm_NoKind_NoKind := W.exm_ref ex_NoKind hd_NoKind ty_NoKind su_NoKind_NoKind,
       isx_InvalidBook_HastyError := kit_ref cl_HastyError ty_HastyError su_InvalidBook_HastyError nq_InvalidBook_HastyError,
       isx_InvalidText_HastyError := kit_ref cl_HastyError ty_HastyError su_InvalidText_HastyError nq_InvalidText_HastyError,
       isx_NoKind_HastyError := kit_ref cl_HastyError ty_HastyError su_NoKind_HastyError nq_NoKind_HastyError,
       z_abs := W.mg_none_of X G z_abs,
       z_all := W.mg_none_of X G z_all,
       z_dict := W.mg_none_of X G z_dict,
       z_enumerate := W.mg_none_of X G z_enumerate,
       z_int := W.mg_none_of X G z_int,
       z_isinstance := W.mg_none_of X G z_isinstance,
       z_len := W.mg_none_of X G z_len,
       z_list := W.mg_none_of X G z_list,
       z_range := W.mg_none_of X G z_range,
       z_str := W.mg_none_of X G z_str,
       z_tuple := W.mg_none_of X G z_tuple,
       z_zip := W.mg_none_of X G z_zip,
       g_SMALL := ⟨tk_SMALL, W.mg_of X G a_nSMALL⟩,
       g_BARRED := W.mg_of X G a_nBARRED,
       r_BARRED := l_BARRED,
       re_Book_init_0 := le_Book_init_0,
       re_Book_init_1 := le_Book_init_1
     }⟩
def nms0 : List Str := ["HastyError", "InvalidBook", "InvalidText", "NoKind", "SMALL", "BARRED", "is_name", "is_sequence", "are_names", "is_targets", "are_kinds", "are_some", "Book", "is_book_line", "may_follow", "_law_deal", "_law_draw", "_law_mixed", "_law_words", "_law_book", "_law_book_text", "_law_led"]
def nms : List Str := nms0
def asL : List Addr := upTo 1500 []
abbrev hk : W.Hook := hookX asL chs dfs
theorem runc0 (w : World) : HandSHeadRun.RunEq (W.OpenLaw.row PySem.Challenge.rw_hastypage_k09_whole_other_names) (W.view PySem.Challenge.pw_hastypage_k09_whole_other_names [26]) (hookX asL ([ts0, ts1, ts2, ts3, ts4, ts5]) ([])) (obX asL ([ts0, ts1, ts2, ts3, ts4, ts5]) ([])) 30000 nms w := by
  intro os
  kernel_rfl
theorem rund0 (w : World) : HandSHeadRun.RunEq (W.OpenLaw.row PySem.Challenge.rw_hastypage_k09_whole_other_names) (W.view PySem.Challenge.pw_hastypage_k09_whole_other_names [26]) (hookX asL ([]) (dfs0)) (obX asL ([]) (dfs0)) 30000 nms w := by
  intro os
  kernel_rfl
theorem run (w : World) : HandSHeadRun.RunEq (W.OpenLaw.row PySem.Challenge.rw_hastypage_k09_whole_other_names) (W.view PySem.Challenge.pw_hastypage_k09_whole_other_names [26]) hk (obX asL chs dfs) 30000 nms w := run_cat (chs := chs) (dfs := dfs) (c1 := [ts0, ts1, ts2, ts3, ts4, ts5]) (c2 := []) (d1 := []) (d2 := dfs0) rfl rfl (runc0 w) (rund0 w)
theorem law_of (hL : ∀ {P : Program} {w : World} {K : W.Frag} {mg : Str → Option Value} {base : Heap} (T : Tp P K mg), FnG P w K mg base 14 T.f_law T.d_law ["_law_script"] lawFS) : PySem.Challenge.rw_hastypage_k09_whole_other_names.Holds := by
  w_on; o_law
  refine HandSHeadRun.head_any (r := W.OpenLaw.row PySem.Challenge.rw_hastypage_k09_whole_other_names) (q := W.view PySem.Challenge.pw_hastypage_k09_whole_other_names [26]) (H := Kk.hk) (ob := Tr.obX Kk.asL Kk.chs Kk.dfs) (M := 30000) (loose := Kk.nms) (d := HandSHeadRun.topDef PySem.Challenge.pw_hastypage_k09_whole_other_names 26) (kwd := []) (Tr.obX_eq Kk.asL Kk.chs Kk.dfs)
    (by kernel_rfl) (fun s => by kernel_rfl) Kk.run (by kernel_rfl) (by kernel_rfl) (by kernel_rfl) (by rfl) (by first | assumption | decide +kernel) (by decide +kernel) ⟨rfl, rfl, rfl, rfl, rfl, by decide +kernel⟩ ?hw ?hc
  case hw => w_witness2
  case hc =>
    refine Tr.law_walkX (l := PySem.Challenge.rw_hastypage_k09_whole_other_names) (k := 14) (x := "_law_script") rfl (by kernel_rfl) ⟨⟨rfl, by decide, by decide⟩, rfl⟩ ?F
    intro w mg fa h K KX c G hmg0
    have hmg : mg ("law" : PySem.Str) = some (.ref fa) := by
      have e : (HandSHeadRun.topDef PySem.Challenge.pw_hastypage_k09_whole_other_names 26).name = ("law" : PySem.Str) := by kernel_rfl
      rw [← e]
      exact hmg0
    obtain ⟨T, eT⟩ := Kk.tp_fa hmg (Kk.tp_of KX G c)
    subst eT
    exact ⟨T.d_law, Kk.law_binds T, fun base _ _ => hL T⟩
end Kk

set_option maxHeartbeats 4000000
namespace Kk
open PySem L2 PySem.Spec PyProof.Rows Tr
set_option hygiene false
local macro_rules | `(tactic| walk_at "le") => `(tactic| repeat (first | exact LeR.nil | refine LeR.keep ?_ | refine LeR.drop ?_))
section
variable {P : Program} {w : World} {K : W.Frag} {mg : Str → Option Value} {base : Heap}
def w__law_deal_a2 (T : Tp P K mg) (x_cells : D) (Qx : QX) (Q : QE) (s1 : D) : MB := mRet (eDrop (eArgs (aCons (eApp (eLc1 (iApp (eVal x_cells) pIter) (fun x_cell1 => (tBin (eVal x_cell1) (eBin (eVal (.int 10)) (eVal (.int 18)) oPow) oGe)) (fun x_cell1 => (eVal x_cell1))) pRevC) (aCons (eVal s1) aNil)) pLstC)) Q
def w__law_deal_l1 (T : Tp P K mg)  (Qx : QX) (Q : QE) (d1 : D) (s1 : D) (nx1 : (D) → MB) (bk1 : (D) → MB) : MB := mSet (eBin (eArgs (aCons (eBin (eBin (eVal s1) (eVal (.int 16807)) oMul) (eBin (eArgs (aCons (eVal d1) aNil) (on1 pInt1)) (eVal (.int 2147483629)) oMod) oAdd) aNil) (on1 pInt1)) (eVal (.int 2147483647)) oMod) fun x_blend1 => mPart (nx1 x_blend1)
def w__law_deal (T : Tp P K mg) (x_script x_base : D) (Qx : QX) (Q : QE) : MB := mSet (eLc (iApp (eSl (eVal x_script) (oSome (eVal x_base)) (oSome (eVal (.int 63)))) pIter) (fun x_cell => (eArgs (aCons (eVal x_cell) aNil) (on1 pAbs1)))) fun x_cells => mSet (eBin (eVal (.int 15485863)) (eBin (eVal (.int 11)) (eVal x_base) oMul) oAdd) fun x_blend => mFor (α := D) (iApp (eVal x_cells) pIter) (w__law_deal_l1 T Qx Q) x_blend (w__law_deal_a2 T x_cells Qx Q)
def fw__law_deal (T : Tp P K mg) : FS := fun ds C Q Qx => match ds with
  | [x_script, x_base] => w__law_deal T x_script x_base Qx Q C
  | _ => False
theorem ok__law_deal (T : Tp P K mg) : FnG P w K mg base 1 T.f__law_deal T.d__law_deal ["_law_script", "_law_base"] (fw__law_deal T) := by
  refine fnT T.F__law_deal sc__law_deal (fun ds C Q Qx h => ?_) (fun cdv A outer s H E X ds C Q hr h => ?_)
  · unfold fw__law_deal at h; split at h
    · rfl
    · exact h.elim
  · unfold fw__law_deal at h; split at h
    rotate_left
    · exact h.elim
    have hN := sc__law_deal.nd
    have hu := hu_G hr
    have hg := hr.gd
    rename_i x_script x_base
    generalize hQx : (fun cls fs C' => ∀ ρ, X.XQ cls fs ρ C' : QX) = Qx at h
    have hX : ∀ ρ cls fs C, Qx cls fs C → X.XQ cls fs ρ C := by subst hQx; exact fun ρ cls fs C h => h ρ
    clear hQx
    revert h; revert C
    show SB X _ [some x_script, some x_base, none, none, none] (w__law_deal T x_script x_base Qx Q) _
    unfold w__law_deal
    first | refine sb_setLc (r := fun x_cells => [some x_script, some x_base, some x_cells, none, none]) [("_law_cell", 4)] (.one 4) 2 rfl hN rfl rfl (sw_true rfl rfl rfl rfl) (blkOk_by rfl) (fun _ _ _ _ _ => pg_name (i := 4) hN rfl (by first | exact .inl rfl | exact .inr rfl)) (by decide) (si_iter (se_slice (se_var 0 rfl (pv 0)) (so_some (se_var 1 rfl (pv 1))) (so_some se_int))) (bd_one (r := fun x_cell => [some x_script, some x_base, none, none, some x_cell]) (fun _ => rfl) (fun x_cell _ _ _ _ _ => (se_callB (id := "abs") rfl T.z_abs (by decide +kernel) (sa_cons (se_var 4 rfl (pv 4)) sa_nil) pAbs_ok))) (fun _ => rfl) (fun x_cells => ?_) | refine sb_set (r := fun x_cells => [some x_script, some x_base, some x_cells, none, none]) 2 hN rfl (by first | exact .inl rfl | exact .inr rfl) (fun _ => rfl) (se_lc [("_law_cell", 4)] (.one 4) rfl hN (blkOk_by rfl) (fun _ _ _ _ _ => pg_name (i := 4) hN rfl (by first | exact .inl rfl | exact .inr rfl)) (by decide) (si_iter (se_slice (se_var 0 rfl (pv 0)) (so_some (se_var 1 rfl (pv 1))) (so_some se_int))) (bd_one (r := fun x_cell => [some x_script, some x_base, none, none, some x_cell]) (fun _ => rfl) (fun x_cell _ _ _ _ _ => (se_callB (id := "abs") rfl T.z_abs (by decide +kernel) (sa_cons (se_var 4 rfl (pv 4)) sa_nil) pAbs_ok)))) (fun x_cells => ?_)
    refine sb_set (r := fun x_blend => [some x_script, some x_base, some x_cells, some x_blend, none]) 3 hN rfl (by first | exact .inl rfl | exact .inr rfl) (fun _ => rfl) (se_bin se_int (se_bin se_int (se_var 1 rfl (pv 1)) oMul_ok) oAdd_ok) (fun x_blend => ?_)
    refine sb_for (α := D) (fun s1 => [some x_script, some x_base, some x_cells, some s1, none]) rfl (si_iter (se_var 2 rfl (pv 2))) (by walk_at "le") (fun d1 s1 nx1 bk1 W V hW1 hV1 => ?_) (fun s1 => ?_)
    · unfold w__law_deal_l1
      refine sg_name (r := [some x_script, some x_base, some x_cells, some s1, some d1]) 4 rfl ?_ (pg_name (i := 4) hN rfl (by first | exact .inl rfl | exact .inr rfl))
      refine sb_set (r := fun x_blend1 => [some x_script, some x_base, some x_cells, some x_blend1, some d1]) 3 hN rfl (by first | exact .inl rfl | exact .inr rfl) (fun _ => rfl) (se_bin (se_callTy (id := "int") rfl T.z_int (by decide +kernel) (sa_cons (se_bin (se_bin (se_var 3 rfl (pv 3)) se_int oMul_ok) (se_bin (se_callTy (id := "int") rfl T.z_int (by decide +kernel) (sa_cons (se_var 4 rfl (pv 4)) sa_nil) pInt_ok) se_int oMod_ok) oAdd_ok) sa_nil) pInt_ok) se_int oMod_ok) (fun x_blend1 => ?_)
      refine sb_part ?_
      exact sb_le hW1 (by walk_at "le")
    · unfold w__law_deal_a2
      exact sb_ret (se_drop (se_lstC (sa_cons (se_revC (se_lc1 [("_law_cell", 4)] (.one 4) rfl hN (blkOk_by rfl) (fun _ _ _ _ _ => pg_name (i := 4) hN rfl (by first | exact .inl rfl | exact .inr rfl)) (by decide) (si_iter (se_var 2 rfl (pv 2))) (bdT_one (r := fun x_cell1 => [some x_script, some x_base, some x_cells, some s1, some x_cell1]) (fun _ => rfl) (fun x_cell1 _ _ _ _ _ => (st_cmp (se_var 4 rfl (pv 4)) (se_bin se_int se_int oPow_ok) oGe_ok))) (bd_one (r := fun x_cell1 => [some x_script, some x_base, some x_cells, some s1, some x_cell1]) (fun _ => rfl) (fun x_cell1 _ _ _ _ _ => (se_var 4 rfl (pv 4)))))) (sa_cons (se_var 3 rfl (pv 3)) sa_nil)))) (fun _ _ h => h)
def w__law_draw_t1 (T : Tp P K mg) (x_deal_here : D) (Qx : QX) (Q : QE) (s1 : Unit) : MT := (tAnd (tBin (eBin (eVal x_deal_here) (eVal (.int 0)) pIx) (eArgs aNil pLst) (oNe noOwn)) (tBin (eBin (eBin (eVal x_deal_here) (eVal (.int 0)) pIx) (eApp (eVal (.int 1)) pNeg) pIx) (eVal (.int 0)) (oEq noOwn)))
def w__law_draw_a3 (T : Tp P K mg) (x_deal_here : D) (x_amount : D) (Qx : QX) (Q : QE) (s1 : Unit) : MB := mIf (tBin (eBin (eVal x_deal_here) (eVal (.int 0)) pIx) (eArgs aNil pLst) (oNe noOwn)) (mSet (eApp (eBin (eVal x_deal_here) (eVal (.int 0)) pIx) pPop) fun x_left => mExp (eL1 (eBin (eVal x_deal_here) (eVal (.int 0)) pIx) (eBin (eVal x_left) (eVal x_amount) oFdiv) pApp) (mRet (eBin (eArgs (aCons (eVal x_left) aNil) (on1 pInt1)) (eVal x_amount) oMod) Q)) (mSet (eBin (eArgs (aCons (eBin (eBin (eBin (eVal x_deal_here) (eVal (.int 1)) pIx) (eVal (.int 48271)) oMul) (eVal (.int 11)) oAdd) aNil) (on1 pInt1)) (eVal (.int 2147483647)) oMod) fun x_d => mSub (eVal x_deal_here) (eVal (.int 1)) x_d (mRet (eBin (eArgs (aCons (eBin (eBin (eVal x_deal_here) (eVal (.int 1)) pIx) (eVal (.int 8)) oFdiv) aNil) (on1 pInt1)) (eVal x_amount) oMod) Q))
def w__law_draw_l2 (T : Tp P K mg) (x_deal_here : D) (Qx : QX) (Q : QE) (s1 : Unit) (nx1 : (Unit) → MB) (bk1 : (Unit) → MB) : MB := mExp (eApp (eBin (eVal x_deal_here) (eVal (.int 0)) pIx) pPop) (mPart (nx1 ()))
def w__law_draw (T : Tp P K mg) (x_deal_here x_amount : D) (Qx : QX) (Q : QE) : MB := mWhile (α := Unit) (w__law_draw_t1 T x_deal_here Qx Q) (w__law_draw_l2 T x_deal_here Qx Q) () (w__law_draw_a3 T x_deal_here x_amount Qx Q)
def fw__law_draw (T : Tp P K mg) : FS := fun ds C Q Qx => match ds with
  | [x_deal_here, x_amount] => w__law_draw T x_deal_here x_amount Qx Q C
  | _ => False
theorem ok__law_draw (T : Tp P K mg) : FnG P w K mg base 1 T.f__law_draw T.d__law_draw ["_law_deal_here", "_law_amount"] (fw__law_draw T) := by
  refine fnT T.F__law_draw sc__law_draw (fun ds C Q Qx h => ?_) (fun cdv A outer s H E X ds C Q hr h => ?_)
  · unfold fw__law_draw at h; split at h
    · rfl
    · exact h.elim
  · unfold fw__law_draw at h; split at h
    rotate_left
    · exact h.elim
    have hN := sc__law_draw.nd
    have hu := hu_G hr
    have hg := hr.gd
    rename_i x_deal_here x_amount
    generalize hQx : (fun cls fs C' => ∀ ρ, X.XQ cls fs ρ C' : QX) = Qx at h
    have hX : ∀ ρ cls fs C, Qx cls fs C → X.XQ cls fs ρ C := by subst hQx; exact fun ρ cls fs C h => h ρ
    clear hQx
    revert h; revert C
    show SB X _ [some x_deal_here, some x_amount, none] (w__law_draw T x_deal_here x_amount Qx Q) _
    unfold w__law_draw
    refine sb_while (α := Unit) (fun s1 => [some x_deal_here, some x_amount, none]) (by walk_at "le") (fun s1 => ?_) (fun s1 nx1 bk1 W V hW1 hV1 => ?_) (fun s1 => ?_)
    · unfold w__law_draw_t1
      exact (st_p (sp_and (st_cmp (se_ix (se_var 0 rfl (pv 0)) se_int) (se_lst sa_nil) (oNe_ok hu noOwn_ok)) (sp_and1 (st_cmp (se_ix (se_ix (se_var 0 rfl (pv 0)) se_int) (se_neg se_int)) se_int (oEq_ok hu noOwn_ok)))))
    · unfold w__law_draw_l2
      refine sb_exp (se_pop (se_ix (se_var 0 rfl (pv 0)) se_int)) ?_
      refine sb_part ?_
      exact sb_le hW1 (by walk_at "le")
    · unfold w__law_draw_a3
      refine sb_if (st_cmp (se_ix (se_var 0 rfl (pv 0)) se_int) (se_lst sa_nil) (oNe_ok hu noOwn_ok)) ?_ ?_
      · refine sb_set (r := fun x_left => [some x_deal_here, some x_amount, some x_left]) 2 hN rfl (by first | exact .inl rfl | exact .inr rfl) (fun _ => rfl) (se_pop (se_ix (se_var 0 rfl (pv 0)) se_int)) (fun x_left => ?_)
        refine sb_exp (se_append (se_ix (se_var 0 rfl (pv 0)) se_int) (se_bin (se_var 2 rfl (pv 2)) (se_var 1 rfl (pv 1)) oFdiv_ok)) ?_
        exact sb_ret (se_bin (se_callTy (id := "int") rfl T.z_int (by decide +kernel) (sa_cons (se_var 2 rfl (pv 2)) sa_nil) pInt_ok) (se_var 1 rfl (pv 1)) oMod_ok) (fun _ _ h => h)
      · refine sb_more ?_
        refine sb_asg (se_bin (se_callTy (id := "int") rfl T.z_int (by decide +kernel) (sa_cons (se_bin (se_bin (se_ix (se_var 0 rfl (pv 0)) se_int) se_int oMul_ok) se_int oAdd_ok) sa_nil) pInt_ok) se_int oMod_ok) (fun x_d => ?_)
        refine sg_sub (se_var 0 rfl (pv 0)) se_int ?_
        exact sb_ret (se_bin (se_callTy (id := "int") rfl T.z_int (by decide +kernel) (sa_cons (se_bin (se_ix (se_var 0 rfl (pv 0)) se_int) se_int oFdiv_ok) sa_nil) pInt_ok) (se_var 1 rfl (pv 1)) oMod_ok) (fun _ _ h => h)
def w__law_mixed_t1 (T : Tp P K mg) (x_left : D) (Qx : QX) (Q : QE) (s1 : Unit) : MT := (tBin (eVal x_left) (eArgs aNil pLst) (oNe noOwn))
def w__law_mixed_a3 (T : Tp P K mg) (x_found : D) (Qx : QX) (Q : QE) (s1 : Unit) : MB := mFrz x_found fun x_found1 => mRet (eDrop (eVal x_found1)) Q
def w__law_mixed_l2 (T : Tp P K mg) (x_deal_here : D) (x_left : D) (x_found : D) (Qx : QX) (Q : QE) (s1 : Unit) (nx1 : (Unit) → MB) (bk1 : (Unit) → MB) : MB := mExp (eL1 (eVal x_found) (eL1 (eVal x_left) (eArgs (aCons (eVal x_deal_here) (aCons (eArgs (aCons (eVal x_left) aNil) (on1 (pLen1 no1))) aNil)) fun ds => callW (fw__law_draw T) Qx (ds ++ [])) pPopAt) pApp) (mPart (nx1 ()))
def w__law_mixed (T : Tp P K mg) (x_deal_here x_some : D) (Qx : QX) (Q : QE) : MB := mSet (eArgs (aCons (eVal x_some) aNil) (on1 pListC1)) fun x_left => mSet (eArgs aNil pLstC) fun x_found => mWhile (α := Unit) (w__law_mixed_t1 T x_left Qx Q) (w__law_mixed_l2 T x_deal_here x_left x_found Qx Q) () (w__law_mixed_a3 T x_found Qx Q)
def fw__law_mixed (T : Tp P K mg) : FS := fun ds C Q Qx => match ds with
  | [x_deal_here, x_some] => w__law_mixed T x_deal_here x_some Qx Q C
  | _ => False
theorem ok__law_mixed (T : Tp P K mg) : FnG P w K mg base 2 T.f__law_mixed T.d__law_mixed ["_law_deal_here", "_law_some"] (fw__law_mixed T) := by
  refine fnT T.F__law_mixed sc__law_mixed (fun ds C Q Qx h => ?_) (fun cdv A outer s H E X ds C Q hr h => ?_)
  · unfold fw__law_mixed at h; split at h
    · rfl
    · exact h.elim
  · unfold fw__law_mixed at h; split at h
    rotate_left
    · exact h.elim
    have hN := sc__law_mixed.nd
    have hu := hu_G hr
    have hg := hr.gd
    rename_i x_deal_here x_some
    generalize hQx : (fun cls fs C' => ∀ ρ, X.XQ cls fs ρ C' : QX) = Qx at h
    have hX : ∀ ρ cls fs C, Qx cls fs C → X.XQ cls fs ρ C := by subst hQx; exact fun ρ cls fs C h => h ρ
    clear hQx
    revert h; revert C
    show SB X _ [some x_deal_here, some x_some, none, none] (w__law_mixed T x_deal_here x_some Qx Q) _
    unfold w__law_mixed
    refine sb_par (r := fun x_left x_found => [some x_deal_here, some x_some, some x_left, some x_found]) 2 3 hN rfl rfl (by decide) rfl rfl rfl (se_callTy (id := "list") rfl T.z_list (by decide +kernel) (sa_cons (se_var 1 rfl (pv 1)) sa_nil) pListC_ok) (se_lstC sa_nil) (fun _ _ => rfl) (fun x_left x_found => ?_)
    refine sb_while (α := Unit) (fun s1 => [some x_deal_here, some x_some, some x_left, some x_found]) (by walk_at "le") (fun s1 => ?_) (fun s1 nx1 bk1 W V hW1 hV1 => ?_) (fun s1 => ?_)
    · unfold w__law_mixed_t1
      exact (st_cmp (se_var 2 rfl (pv 2)) (se_lst sa_nil) (oNe_ok hu noOwn_ok))
    · unfold w__law_mixed_l2
      refine sb_exp (se_append (se_var 3 rfl (pv 3)) (se_popAt (se_var 2 rfl (pv 2)) (se_call (dds := []) (ok__law_draw T) (hr.mono (by omega)) rfl T.g__law_draw T.F__law_draw.kp T.b__law_draw .nil (fun _ => Reps.nil) (hX _) (sa_cons (se_var 0 rfl (pv 0)) (sa_cons (se_callB (id := "len") rfl T.z_len (by decide +kernel) (sa_cons (se_var 2 rfl (pv 2)) sa_nil) (pLen_ok no1_ok)) sa_nil))))) ?_
      refine sb_part ?_
      exact sb_le hW1 (by walk_at "le")
    · unfold w__law_mixed_a3
      refine sb_frz (r := fun x_found1 => [some x_deal_here, some x_some, some x_left, some x_found1]) 3 rfl (fun _ => rfl) (fun x_found1 => ?_)
      exact sb_ret (se_drop (se_var 3 rfl (pv 3))) (fun _ _ h => h)
def w__law_words (T : Tp P K mg) (x_deal_here x_many : D) (Qx : QX) (Q : QE) : MB := mSet (eArgs (aCons (eVal (.str "on")) (aCons (eVal (.str "off")) (aCons (eVal (.str "a")) (aCons (eVal (.str "b")) (aCons (eVal (.str "like")) (aCons (eVal (.str "zzzz")) (aCons (eVal (.str "list")) (aCons (eVal (.str "old")) (aCons (eVal (.str "all")) (aCons (eVal (.str "open")) (aCons (eVal (.str "take")) (aCons (eVal (.str "drop")) (aCons (eVal (.str "kind")) (aCons (eVal (.str "abc")) aNil)))))))))))))) pLst) fun x_some => mSet (eBin (eVal x_some) (eArgs (aCons (eVal (.str "xyz")) (aCons (eVal (.str "mv")) (aCons (eVal (.str "gh")) (aCons (eVal (.str "w")) (aCons (eVal (.str "tri")) (aCons (eVal (.str "nu")) (aCons (eVal (.str "pqrs")) (aCons (eVal (.str "ej")) aNil)))))))) pLst) oAdd) fun x_some1 => mRet (eSl (eArgs (aCons (eVal x_deal_here) (aCons (eVal x_some1) aNil)) fun ds => callW (fw__law_mixed T) Qx (ds ++ [])) oNone (oSome (eVal x_many))) Q
def fw__law_words (T : Tp P K mg) : FS := fun ds C Q Qx => match ds with
  | [x_deal_here, x_many] => w__law_words T x_deal_here x_many Qx Q C
  | _ => False
theorem ok__law_words (T : Tp P K mg) : FnG P w K mg base 3 T.f__law_words T.d__law_words ["_law_deal_here", "_law_many"] (fw__law_words T) := by
  refine fnT T.F__law_words sc__law_words (fun ds C Q Qx h => ?_) (fun cdv A outer s H E X ds C Q hr h => ?_)
  · unfold fw__law_words at h; split at h
    · rfl
    · exact h.elim
  · unfold fw__law_words at h; split at h
    rotate_left
    · exact h.elim
    have hN := sc__law_words.nd
    have hu := hu_G hr
    have hg := hr.gd
    rename_i x_deal_here x_many
    generalize hQx : (fun cls fs C' => ∀ ρ, X.XQ cls fs ρ C' : QX) = Qx at h
    have hX : ∀ ρ cls fs C, Qx cls fs C → X.XQ cls fs ρ C := by subst hQx; exact fun ρ cls fs C h => h ρ
    clear hQx
    revert h; revert C
    show SB X _ [some x_deal_here, some x_many, none] (w__law_words T x_deal_here x_many Qx Q) _
    unfold w__law_words
    refine sb_set (r := fun x_some => [some x_deal_here, some x_many, some x_some]) 2 hN rfl (by first | exact .inl rfl | exact .inr rfl) (fun _ => rfl) (se_lst (sa_cons se_str (sa_cons se_str (sa_cons se_str (sa_cons se_str (sa_cons se_str (sa_cons se_str (sa_cons se_str (sa_cons se_str (sa_cons se_str (sa_cons se_str (sa_cons se_str (sa_cons se_str (sa_cons se_str (sa_cons se_str sa_nil))))))))))))))) (fun x_some => ?_)
    refine sb_set (r := fun x_some1 => [some x_deal_here, some x_many, some x_some1]) 2 hN rfl (by first | exact .inl rfl | exact .inr rfl) (fun _ => rfl) (se_bin (se_var 2 rfl (pv 2)) (se_lst (sa_cons se_str (sa_cons se_str (sa_cons se_str (sa_cons se_str (sa_cons se_str (sa_cons se_str (sa_cons se_str (sa_cons se_str sa_nil))))))))) oAdd_ok) (fun x_some1 => ?_)
    exact sb_ret (se_slice (se_call (dds := []) (ok__law_mixed T) (hr.mono (by omega)) rfl T.g__law_mixed T.F__law_mixed.kp T.b__law_mixed .nil (fun _ => Reps.nil) (hX _) (sa_cons (se_var 0 rfl (pv 0)) (sa_cons (se_var 2 rfl (pv 2)) sa_nil))) so_none (so_some (se_var 1 rfl (pv 1)))) (fun _ _ h => h)
def w__law_book_a2 (T : Tp P K mg) (x_deal_here : D) (x_some : D) (x_names : D) (x_kinds : D) (Qx : QX) (Q : QE) (s1 : Unit) : MB := mSet (eSl (eArgs (aCons (eVal x_deal_here) (aCons (eVal x_names) aNil)) fun ds => callW (fw__law_mixed T) Qx (ds ++ [])) oNone (oSome (eArgs (aCons (eVal x_deal_here) (aCons (eBin (eArgs (aCons (eVal x_names) aNil) (on1 (pLen1 no1))) (eVal (.int 1)) oAdd) aNil)) fun ds => callW (fw__law_draw T) Qx (ds ++ [])))) fun x_loose => mFrz x_kinds fun x_kinds1 => mRet (eDrop (eArgs (aCons (eVal x_some) (aCons (eVal x_kinds1) (aCons (eVal x_loose) (aCons (eSl (eArgs (aCons (eVal x_deal_here) (aCons (eVal x_names) aNil)) fun ds => callW (fw__law_mixed T) Qx (ds ++ [])) oNone (oSome (eArgs (aCons (eVal x_deal_here) (aCons (eBin (eArgs (aCons (eVal x_names) aNil) (on1 (pLen1 no1))) (eVal (.int 1)) oAdd) aNil)) fun ds => callW (fw__law_draw T) Qx (ds ++ [])))) aNil)))) pTup)) Q
def w__law_book_l1 (T : Tp P K mg) (x_deal_here : D) (x_some : D) (x_kinds : D) (Qx : QX) (Q : QE) (d1 : D) (s1 : Unit) (nx1 : (Unit) → MB) (bk1 : (Unit) → MB) : MB := mExp (eL1 (eVal x_kinds) (eArgs (aCons (eVal d1) (aCons (eLc (iApp (eVal x_some) pIter) (fun x_one => (eBin (eBin (eVal x_some) (eArgs (aCons (eVal .non) aNil) pLst) oAdd) (eArgs (aCons (eVal x_deal_here) (aCons (eBin (eArgs (aCons (eVal x_some) aNil) (on1 (pLen1 no1))) (eVal (.int 1)) oAdd) aNil)) fun ds => callW (fw__law_draw T) (fun _ _ _ => False) (ds ++ [])) pIx))) aNil)) pTup) pApp) (mPart (nx1 ()))
def w__law_book (T : Tp P K mg) (x_deal_here x_most : D) (Qx : QX) (Q : QE) : MB := mSet (eArgs (aCons (eVal x_deal_here) (aCons (eBin (eVal (.int 1)) (eArgs (aCons (eVal x_deal_here) (aCons (eVal x_most) aNil)) fun ds => callW (fw__law_draw T) Qx (ds ++ [])) oAdd) aNil)) fun ds => callW (fw__law_words T) Qx (ds ++ [])) fun x_some => mSet (eArgs (aCons (eVal x_deal_here) (aCons (eArgs (aCons (eVal x_deal_here) (aCons (eBin (eVal x_most) (eVal (.int 1)) oAdd) aNil)) fun ds => callW (fw__law_draw T) Qx (ds ++ [])) aNil)) fun ds => callW (fw__law_words T) Qx (ds ++ [])) fun x_names => mSet (eArgs aNil pLstC) fun x_kinds => mFor (α := Unit) (iApp (eVal x_names) pIter) (w__law_book_l1 T x_deal_here x_some x_kinds Qx Q) () (w__law_book_a2 T x_deal_here x_some x_names x_kinds Qx Q)
def fw__law_book (T : Tp P K mg) : FS := fun ds C Q Qx => match ds with
  | [x_deal_here, x_most] => w__law_book T x_deal_here x_most Qx Q C
  | _ => False
theorem ok__law_book (T : Tp P K mg) : FnG P w K mg base 4 T.f__law_book T.d__law_book ["_law_deal_here", "_law_most"] (fw__law_book T) := by
  refine fnT T.F__law_book sc__law_book (fun ds C Q Qx h => ?_) (fun cdv A outer s H E X ds C Q hr h => ?_)
  · unfold fw__law_book at h; split at h
    · rfl
    · exact h.elim
  · unfold fw__law_book at h; split at h
    rotate_left
    · exact h.elim
    have hN := sc__law_book.nd
    have hu := hu_G hr
    have hg := hr.gd
    rename_i x_deal_here x_most
    generalize hQx : (fun cls fs C' => ∀ ρ, X.XQ cls fs ρ C' : QX) = Qx at h
    have hX : ∀ ρ cls fs C, Qx cls fs C → X.XQ cls fs ρ C := by subst hQx; exact fun ρ cls fs C h => h ρ
    clear hQx
    revert h; revert C
    show SB X _ [some x_deal_here, some x_most, none, none, none, none, none, none] (w__law_book T x_deal_here x_most Qx Q) _
    unfold w__law_book
    refine sb_set (r := fun x_some => [some x_deal_here, some x_most, some x_some, none, none, none, none, none]) 2 hN rfl (by first | exact .inl rfl | exact .inr rfl) (fun _ => rfl) (se_call (dds := []) (ok__law_words T) (hr.mono (by omega)) rfl T.g__law_words T.F__law_words.kp T.b__law_words .nil (fun _ => Reps.nil) (hX _) (sa_cons (se_var 0 rfl (pv 0)) (sa_cons (se_bin se_int (se_call (dds := []) (ok__law_draw T) (hr.mono (by omega)) rfl T.g__law_draw T.F__law_draw.kp T.b__law_draw .nil (fun _ => Reps.nil) (hX _) (sa_cons (se_var 0 rfl (pv 0)) (sa_cons (se_var 1 rfl (pv 1)) sa_nil))) oAdd_ok) sa_nil))) (fun x_some => ?_)
    refine sb_set (r := fun x_names => [some x_deal_here, some x_most, some x_some, some x_names, none, none, none, none]) 3 hN rfl (by first | exact .inl rfl | exact .inr rfl) (fun _ => rfl) (se_call (dds := []) (ok__law_words T) (hr.mono (by omega)) rfl T.g__law_words T.F__law_words.kp T.b__law_words .nil (fun _ => Reps.nil) (hX _) (sa_cons (se_var 0 rfl (pv 0)) (sa_cons (se_call (dds := []) (ok__law_draw T) (hr.mono (by omega)) rfl T.g__law_draw T.F__law_draw.kp T.b__law_draw .nil (fun _ => Reps.nil) (hX _) (sa_cons (se_var 0 rfl (pv 0)) (sa_cons (se_bin (se_var 1 rfl (pv 1)) se_int oAdd_ok) sa_nil))) sa_nil))) (fun x_names => ?_)
    refine sb_set (r := fun x_kinds => [some x_deal_here, some x_most, some x_some, some x_names, some x_kinds, none, none, none]) 4 hN rfl (by first | exact .inl rfl | exact .inr rfl) (fun _ => rfl) (se_lstC sa_nil) (fun x_kinds => ?_)
    refine sb_for (α := Unit) (fun s1 => [some x_deal_here, some x_most, some x_some, some x_names, some x_kinds, none, none, none]) rfl (si_iter (se_var 3 rfl (pv 3))) (by walk_at "le") (fun d1 s1 nx1 bk1 W V hW1 hV1 => ?_) (fun s1 => ?_)
    · unfold w__law_book_l1
      refine sg_name (r := [some x_deal_here, some x_most, some x_some, some x_names, some x_kinds, some d1, none, none]) 5 rfl ?_ (pg_name (i := 5) hN rfl (by first | exact .inl rfl | exact .inr rfl))
      refine sb_exp (se_append (se_var 4 rfl (pv 4)) (se_tup (sa_cons (se_var 5 rfl (pv 5)) (sa_cons (se_lc [("_law_one", 7)] (.one 7) rfl hN (blkOk_by rfl) (fun _ _ _ _ _ => pg_name (i := 7) hN rfl (by first | exact .inl rfl | exact .inr rfl)) (by decide) (si_iter (se_var 2 rfl (pv 2))) (bd_one (r := fun x_one => [some x_deal_here, some x_most, some x_some, some x_names, some x_kinds, some d1, none, some x_one]) (fun _ => rfl) (fun x_one _ _ _ _ _ => (se_ix (se_bin (se_var 2 rfl (pv 2)) (se_lst (sa_cons se_non sa_nil)) oAdd_ok) (se_call (dds := []) (ok__law_draw T) (hr.mono (by omega)) rfl T.g__law_draw T.F__law_draw.kp T.b__law_draw .nil (fun _ => Reps.nil) (fun _ _ _ h => h.elim) (sa_cons (se_var 0 rfl (pv 0)) (sa_cons (se_bin (se_callB (id := "len") rfl T.z_len (by decide +kernel) (sa_cons (se_var 2 rfl (pv 2)) sa_nil) (pLen_ok no1_ok)) se_int oAdd_ok) sa_nil))))))) sa_nil)))) ?_
      refine sb_part ?_
      exact sb_le hW1 (by walk_at "le")
    · unfold w__law_book_a2
      refine sb_set (r := fun x_loose => [some x_deal_here, some x_most, some x_some, some x_names, some x_kinds, none, some x_loose, none]) 6 hN rfl (by first | exact .inl rfl | exact .inr rfl) (fun _ => rfl) (se_slice (se_call (dds := []) (ok__law_mixed T) (hr.mono (by omega)) rfl T.g__law_mixed T.F__law_mixed.kp T.b__law_mixed .nil (fun _ => Reps.nil) (hX _) (sa_cons (se_var 0 rfl (pv 0)) (sa_cons (se_var 3 rfl (pv 3)) sa_nil))) so_none (so_some (se_call (dds := []) (ok__law_draw T) (hr.mono (by omega)) rfl T.g__law_draw T.F__law_draw.kp T.b__law_draw .nil (fun _ => Reps.nil) (hX _) (sa_cons (se_var 0 rfl (pv 0)) (sa_cons (se_bin (se_callB (id := "len") rfl T.z_len (by decide +kernel) (sa_cons (se_var 3 rfl (pv 3)) sa_nil) (pLen_ok no1_ok)) se_int oAdd_ok) sa_nil))))) (fun x_loose => ?_)
      refine sb_frz (r := fun x_kinds1 => [some x_deal_here, some x_most, some x_some, some x_names, some x_kinds1, none, some x_loose, none]) 4 rfl (fun _ => rfl) (fun x_kinds1 => ?_)
      exact sb_ret (se_drop (se_tup (sa_cons (se_var 2 rfl (pv 2)) (sa_cons (se_var 4 rfl (pv 4)) (sa_cons (se_var 6 rfl (pv 6)) (sa_cons (se_slice (se_call (dds := []) (ok__law_mixed T) (hr.mono (by omega)) rfl T.g__law_mixed T.F__law_mixed.kp T.b__law_mixed .nil (fun _ => Reps.nil) (hX _) (sa_cons (se_var 0 rfl (pv 0)) (sa_cons (se_var 3 rfl (pv 3)) sa_nil))) so_none (so_some (se_call (dds := []) (ok__law_draw T) (hr.mono (by omega)) rfl T.g__law_draw T.F__law_draw.kp T.b__law_draw .nil (fun _ => Reps.nil) (hX _) (sa_cons (se_var 0 rfl (pv 0)) (sa_cons (se_bin (se_callB (id := "len") rfl T.z_len (by decide +kernel) (sa_cons (se_var 3 rfl (pv 3)) sa_nil) (pLen_ok no1_ok)) se_int oAdd_ok) sa_nil))))) sa_nil)))))) (fun _ _ h => h)
def w_is_sequence (T : Tp P K mg) (x_value : D) (Qx : QX) (Q : QE) : MB := mRet (eArgs (aCons (eVal x_value) (aCons (eArgs (aCons (eVal (.raw (.ty "list"))) (aCons (eVal (.raw (.ty "tuple"))) aNil)) pTup) aNil)) (on2 (pIsI K))) Q
def fw_is_sequence (T : Tp P K mg) : FS := fun ds C Q Qx => match ds with
  | [x_value] => w_is_sequence T x_value Qx Q C
  | _ => False
theorem ok_is_sequence (T : Tp P K mg) : FnG P w K mg base 1 T.f_is_sequence T.d_is_sequence ["value"] (fw_is_sequence T) := by
  refine fnT T.F_is_sequence sc_is_sequence (fun ds C Q Qx h => ?_) (fun cdv A outer s H E X ds C Q hr h => ?_)
  · unfold fw_is_sequence at h; split at h
    · rfl
    · exact h.elim
  · unfold fw_is_sequence at h; split at h
    rotate_left
    · exact h.elim
    have hN := sc_is_sequence.nd
    have hu := hu_G hr
    have hg := hr.gd
    rename_i x_value
    generalize hQx : (fun cls fs C' => ∀ ρ, X.XQ cls fs ρ C' : QX) = Qx at h
    have hX : ∀ ρ cls fs C, Qx cls fs C → X.XQ cls fs ρ C := by subst hQx; exact fun ρ cls fs C h => h ρ
    clear hQx
    revert h; revert C
    show SB X _ [some x_value] (w_is_sequence T x_value Qx Q) _
    unfold w_is_sequence
    exact sb_ret (se_callB (id := "isinstance") rfl T.z_isinstance (by decide +kernel) (sa_cons (se_var 0 rfl (pv 0)) (sa_cons (se_tup (sa_cons (se_ty rfl T.z_list (by decide +kernel)) (sa_cons (se_ty rfl T.z_tuple (by decide +kernel)) sa_nil))) sa_nil)) pIsI_ok) (fun _ _ h => h)
def w_is_name (T : Tp P K mg) (x_value : D) (Qx : QX) (Q : QE) : MB := mIf (tOr (tNot (tVal (eArgs (aCons (eVal x_value) (aCons (eVal (.raw (.ty "str"))) aNil)) (on2 (pIsI K))))) (tOr (tNot (tChain (eVal (.int 1)) (eArgs (aCons (eVal x_value) aNil) (on1 (pLen1 no1))) (eVal (.int 4)) oLe oLe)) (tBin (eVal x_value) (eVal (.tup (barred.map D.str))) oIn))) (mRet (eVal (.bl false)) Q) (mRet (eArgs (aCons (eLc (iApp (eVal x_value) pIterS) (fun x_letter => (eBin (eVal x_letter) (eVal (.str small)) oIn))) aNil) (on1 pAll1)) Q)
def fw_is_name (T : Tp P K mg) : FS := fun ds C Q Qx => match ds with
  | [x_value] => w_is_name T x_value Qx Q C
  | _ => False
theorem ok_is_name (T : Tp P K mg) : FnG P w K mg base 1 T.f_is_name T.d_is_name ["value"] (fw_is_name T) := by
  refine fnT T.F_is_name sc_is_name (fun ds C Q Qx h => ?_) (fun cdv A outer s H E X ds C Q hr h => ?_)
  · unfold fw_is_name at h; split at h
    · rfl
    · exact h.elim
  · unfold fw_is_name at h; split at h
    rotate_left
    · exact h.elim
    have hN := sc_is_name.nd
    have hu := hu_G hr
    have hg := hr.gd
    rename_i x_value
    generalize hQx : (fun cls fs C' => ∀ ρ, X.XQ cls fs ρ C' : QX) = Qx at h
    have hX : ∀ ρ cls fs C, Qx cls fs C → X.XQ cls fs ρ C := by subst hQx; exact fun ρ cls fs C h => h ρ
    clear hQx
    revert h; revert C
    show SB X _ [some x_value, none] (w_is_name T x_value Qx Q) _
    unfold w_is_name
    refine sb_if (st_p (sp_or (st_not (st_val (se_callB (id := "isinstance") rfl T.z_isinstance (by decide +kernel) (sa_cons (se_var 0 rfl (pv 0)) (sa_cons (se_ty rfl T.z_str (by decide +kernel)) sa_nil)) pIsI_ok))) (sp_or (st_not (st_chain se_int (se_callB (id := "len") rfl T.z_len (by decide +kernel) (sa_cons (se_var 0 rfl (pv 0)) sa_nil) (pLen_ok no1_ok)) se_int oLe_ok oLe_ok)) (sp_or1 (st_cmp (se_var 0 rfl (pv 0)) (se_glob (d := .tup (barred.map D.str)) (pe_glob (v := .ref T.a_BARRED) rfl T.g_BARRED rfl) T.r_BARRED) oIn_ok))))) ?_ ?_
    · exact sb_ret se_bl (fun _ _ h => h)
    · refine sb_more ?_
      exact sb_ret (se_callB (id := "all") rfl T.z_all (by decide +kernel) (sa_cons (se_lc [("letter", 1)] (.one 1) rfl hN (blkOk_by rfl) (fun _ _ _ _ _ => pg_name (i := 1) hN rfl (by first | exact .inl rfl | exact .inr rfl)) (by decide) (si_iterS (se_var 0 rfl (pv 0))) (bd_one (r := fun x_letter => [some x_value, some x_letter]) (fun _ => rfl) (fun x_letter _ _ _ _ _ => (se_cmp (se_var 1 rfl (pv 1)) (se_globS rfl T.g_SMALL) oIn_ok)))) sa_nil) (pAll_ok rfl)) (fun _ _ h => h)
def w_are_names (T : Tp P K mg) (x_value : D) (Qx : QX) (Q : QE) : MB := mIf (tNot (tVal (eArgs (aCons (eVal x_value) aNil) fun ds => callW (fw_is_sequence T) Qx (ds ++ [])))) (mRet (eVal (.bl false)) Q) (mRet (eArgs (aCons (eLc (iApp (eVal x_value) pEnum) (fun d => un2 d fun x_at x_name => (eAnd (eArgs (aCons (eVal x_name) aNil) fun ds => callW (fw_is_name T) (fun _ _ _ => False) (ds ++ [])) (eBin (eVal x_name) (eSl (eVal x_value) oNone (oSome (eVal x_at))) oNotIn)))) aNil) (on1 pAll1)) Q)
def fw_are_names (T : Tp P K mg) : FS := fun ds C Q Qx => match ds with
  | [x_value] => w_are_names T x_value Qx Q C
  | _ => False
theorem ok_are_names (T : Tp P K mg) : FnG P w K mg base 2 T.f_are_names T.d_are_names ["value"] (fw_are_names T) := by
  refine fnT T.F_are_names sc_are_names (fun ds C Q Qx h => ?_) (fun cdv A outer s H E X ds C Q hr h => ?_)
  · unfold fw_are_names at h; split at h
    · rfl
    · exact h.elim
  · unfold fw_are_names at h; split at h
    rotate_left
    · exact h.elim
    have hN := sc_are_names.nd
    have hu := hu_G hr
    have hg := hr.gd
    rename_i x_value
    generalize hQx : (fun cls fs C' => ∀ ρ, X.XQ cls fs ρ C' : QX) = Qx at h
    have hX : ∀ ρ cls fs C, Qx cls fs C → X.XQ cls fs ρ C := by subst hQx; exact fun ρ cls fs C h => h ρ
    clear hQx
    revert h; revert C
    show SB X _ [some x_value, none, none] (w_are_names T x_value Qx Q) _
    unfold w_are_names
    refine sb_if (st_not (st_val (se_call (dds := []) (ok_is_sequence T) (hr.mono (by omega)) rfl T.g_is_sequence T.F_is_sequence.kp T.b_is_sequence .nil (fun _ => Reps.nil) (hX _) (sa_cons (se_var 0 rfl (pv 0)) sa_nil)))) ?_ ?_
    · exact sb_ret se_bl (fun _ _ h => h)
    · refine sb_more ?_
      exact sb_ret (se_callB (id := "all") rfl T.z_all (by decide +kernel) (sa_cons (se_lc [("at", 1), ("name", 2)] (.tup [1, 2]) rfl hN (blkOk_by rfl) (fun _ _ _ _ _ => pg_tup rfl (pgs_cons (pg_name (i := 1) hN rfl (by first | exact .inl rfl | exact .inr rfl)) (pgs_cons (pg_name (i := 2) hN rfl (by first | exact .inl rfl | exact .inr rfl)) pgs_nil))) (by decide) (si_enum rfl T.z_enumerate (se_var 0 rfl (pv 0))) (bd_two (r := fun x_at x_name => [some x_value, some x_at, some x_name]) (fun _ _ => rfl) (fun x_at x_name _ _ _ _ _ => (se_and (se_call (dds := []) (ok_is_name T) (hr.mono (by omega)) rfl T.g_is_name T.F_is_name.kp T.b_is_name .nil (fun _ => Reps.nil) (fun _ _ _ h => h.elim) (sa_cons (se_var 2 rfl (pv 2)) sa_nil)) (se_one (se_cmp (se_var 2 rfl (pv 2)) (se_slice (se_var 0 rfl (pv 0)) so_none (so_some (se_var 1 rfl (pv 1)))) oNotIn_ok)))))) sa_nil) (pAll_ok rfl)) (fun _ _ h => h)
def w_is_targets (T : Tp P K mg) (x_value x_values : D) (Qx : QX) (Q : QE) : MB := mIf (tOr (tNot (tVal (eArgs (aCons (eVal x_value) aNil) fun ds => callW (fw_is_sequence T) Qx (ds ++ [])))) (tBin (eArgs (aCons (eVal x_value) aNil) (on1 (pLen1 no1))) (eArgs (aCons (eVal x_values) aNil) (on1 (pLen1 no1))) (oNe noOwn))) (mRet (eVal (.bl false)) Q) (mRet (eArgs (aCons (eLc (iApp (eVal x_value) pIter) (fun x_one => (eOr (eBin (eVal x_one) (eVal .non) oIs) (eAnd (eArgs (aCons (eVal x_one) aNil) fun ds => callW (fw_is_name T) (fun _ _ _ => False) (ds ++ [])) (eBin (eVal x_one) (eVal x_values) oIn))))) aNil) (on1 pAll1)) Q)
def fw_is_targets (T : Tp P K mg) : FS := fun ds C Q Qx => match ds with
  | [x_value, x_values] => w_is_targets T x_value x_values Qx Q C
  | _ => False
theorem ok_is_targets (T : Tp P K mg) : FnG P w K mg base 2 T.f_is_targets T.d_is_targets ["value", "values"] (fw_is_targets T) := by
  refine fnT T.F_is_targets sc_is_targets (fun ds C Q Qx h => ?_) (fun cdv A outer s H E X ds C Q hr h => ?_)
  · unfold fw_is_targets at h; split at h
    · rfl
    · exact h.elim
  · unfold fw_is_targets at h; split at h
    rotate_left
    · exact h.elim
    have hN := sc_is_targets.nd
    have hu := hu_G hr
    have hg := hr.gd
    rename_i x_value x_values
    generalize hQx : (fun cls fs C' => ∀ ρ, X.XQ cls fs ρ C' : QX) = Qx at h
    have hX : ∀ ρ cls fs C, Qx cls fs C → X.XQ cls fs ρ C := by subst hQx; exact fun ρ cls fs C h => h ρ
    clear hQx
    revert h; revert C
    show SB X _ [some x_value, some x_values, none] (w_is_targets T x_value x_values Qx Q) _
    unfold w_is_targets
    refine sb_if (st_p (sp_or (st_not (st_val (se_call (dds := []) (ok_is_sequence T) (hr.mono (by omega)) rfl T.g_is_sequence T.F_is_sequence.kp T.b_is_sequence .nil (fun _ => Reps.nil) (hX _) (sa_cons (se_var 0 rfl (pv 0)) sa_nil)))) (sp_or1 (st_cmp (se_callB (id := "len") rfl T.z_len (by decide +kernel) (sa_cons (se_var 0 rfl (pv 0)) sa_nil) (pLen_ok no1_ok)) (se_callB (id := "len") rfl T.z_len (by decide +kernel) (sa_cons (se_var 1 rfl (pv 1)) sa_nil) (pLen_ok no1_ok)) (oNe_ok hu noOwn_ok))))) ?_ ?_
    · exact sb_ret se_bl (fun _ _ h => h)
    · refine sb_more ?_
      exact sb_ret (se_callB (id := "all") rfl T.z_all (by decide +kernel) (sa_cons (se_lc [("one", 2)] (.one 2) rfl hN (blkOk_by rfl) (fun _ _ _ _ _ => pg_name (i := 2) hN rfl (by first | exact .inl rfl | exact .inr rfl)) (by decide) (si_iter (se_var 0 rfl (pv 0))) (bd_one (r := fun x_one => [some x_value, some x_values, some x_one]) (fun _ => rfl) (fun x_one _ _ _ _ _ => (se_or (se_cmp (se_var 2 rfl (pv 2)) se_non oIs_ok) (se_one (se_and (se_call (dds := []) (ok_is_name T) (hr.mono (by omega)) rfl T.g_is_name T.F_is_name.kp T.b_is_name .nil (fun _ => Reps.nil) (fun _ _ _ h => h.elim) (sa_cons (se_var 2 rfl (pv 2)) sa_nil)) (se_one (se_cmp (se_var 2 rfl (pv 2)) (se_var 1 rfl (pv 1)) oIn_ok)))))))) sa_nil) (pAll_ok rfl)) (fun _ _ h => h)
def w_are_kinds (T : Tp P K mg) (x_value x_values : D) (Qx : QX) (Q : QE) : MB := mIf (tOr (tNot (tVal (eArgs (aCons (eVal x_value) aNil) fun ds => callW (fw_is_sequence T) Qx (ds ++ [])))) (tNot (tVal (eArgs (aCons (eLc (iApp (eVal x_value) pIter) (fun x_one => (eAnd (eArgs (aCons (eVal x_one) (aCons (eVal (.raw (.ty "tuple"))) aNil)) (on2 (pIsI K))) (eBin (eArgs (aCons (eVal x_one) aNil) (on1 (pLen1 no1))) (eVal (.int 2)) (oEq noOwn))))) aNil) (on1 pAll1))))) (mRet (eVal (.bl false)) Q) (mRet (eAnd (eArgs (aCons (eLc (iApp (eVal x_value) pIter) (fun x_one1 => (eBin (eVal x_one1) (eVal (.int 0)) pIx))) aNil) fun ds => callW (fw_are_names T) Qx (ds ++ [])) (eArgs (aCons (eLc (iApp (eVal x_value) pIter) (fun x_one2 => (eArgs (aCons (eBin (eVal x_one2) (eVal (.int 1)) pIx) (aCons (eVal x_values) aNil)) fun ds => callW (fw_is_targets T) (fun _ _ _ => False) (ds ++ [])))) aNil) (on1 pAll1))) Q)
def fw_are_kinds (T : Tp P K mg) : FS := fun ds C Q Qx => match ds with
  | [x_value, x_values] => w_are_kinds T x_value x_values Qx Q C
  | _ => False
theorem ok_are_kinds (T : Tp P K mg) : FnG P w K mg base 3 T.f_are_kinds T.d_are_kinds ["value", "values"] (fw_are_kinds T) := by
  refine fnT T.F_are_kinds sc_are_kinds (fun ds C Q Qx h => ?_) (fun cdv A outer s H E X ds C Q hr h => ?_)
  · unfold fw_are_kinds at h; split at h
    · rfl
    · exact h.elim
  · unfold fw_are_kinds at h; split at h
    rotate_left
    · exact h.elim
    have hN := sc_are_kinds.nd
    have hu := hu_G hr
    have hg := hr.gd
    rename_i x_value x_values
    generalize hQx : (fun cls fs C' => ∀ ρ, X.XQ cls fs ρ C' : QX) = Qx at h
    have hX : ∀ ρ cls fs C, Qx cls fs C → X.XQ cls fs ρ C := by subst hQx; exact fun ρ cls fs C h => h ρ
    clear hQx
    revert h; revert C
    show SB X _ [some x_value, some x_values, none] (w_are_kinds T x_value x_values Qx Q) _
    unfold w_are_kinds
    refine sb_if (st_p (sp_or (st_not (st_val (se_call (dds := []) (ok_is_sequence T) (hr.mono (by omega)) rfl T.g_is_sequence T.F_is_sequence.kp T.b_is_sequence .nil (fun _ => Reps.nil) (hX _) (sa_cons (se_var 0 rfl (pv 0)) sa_nil)))) (sp_or1 (st_not (st_val (se_callB (id := "all") rfl T.z_all (by decide +kernel) (sa_cons (se_lc [("one", 2)] (.one 2) rfl hN (blkOk_by rfl) (fun _ _ _ _ _ => pg_name (i := 2) hN rfl (by first | exact .inl rfl | exact .inr rfl)) (by decide) (si_iter (se_var 0 rfl (pv 0))) (bd_one (r := fun x_one => [some x_value, some x_values, some x_one]) (fun _ => rfl) (fun x_one _ _ _ _ _ => (se_and (se_callB (id := "isinstance") rfl T.z_isinstance (by decide +kernel) (sa_cons (se_var 2 rfl (pv 2)) (sa_cons (se_ty rfl T.z_tuple (by decide +kernel)) sa_nil)) pIsI_ok) (se_one (se_cmp (se_callB (id := "len") rfl T.z_len (by decide +kernel) (sa_cons (se_var 2 rfl (pv 2)) sa_nil) (pLen_ok no1_ok)) se_int (oEq_ok hu noOwn_ok))))))) sa_nil) (pAll_ok rfl))))))) ?_ ?_
    · exact sb_ret se_bl (fun _ _ h => h)
    · refine sb_more ?_
      exact sb_ret (se_and (se_call (dds := []) (ok_are_names T) (hr.mono (by omega)) rfl T.g_are_names T.F_are_names.kp T.b_are_names .nil (fun _ => Reps.nil) (hX _) (sa_cons (se_lc [("one", 2)] (.one 2) rfl hN (blkOk_by rfl) (fun _ _ _ _ _ => pg_name (i := 2) hN rfl (by first | exact .inl rfl | exact .inr rfl)) (by decide) (si_iter (se_var 0 rfl (pv 0))) (bd_one (r := fun x_one1 => [some x_value, some x_values, some x_one1]) (fun _ => rfl) (fun x_one1 _ _ _ _ _ => (se_ix (se_var 2 rfl (pv 2)) se_int)))) sa_nil)) (se_one (se_callB (id := "all") rfl T.z_all (by decide +kernel) (sa_cons (se_lc [("one", 2)] (.one 2) rfl hN (blkOk_by rfl) (fun _ _ _ _ _ => pg_name (i := 2) hN rfl (by first | exact .inl rfl | exact .inr rfl)) (by decide) (si_iter (se_var 0 rfl (pv 0))) (bd_one (r := fun x_one2 => [some x_value, some x_values, some x_one2]) (fun _ => rfl) (fun x_one2 _ _ _ _ _ => (se_call (dds := []) (ok_is_targets T) (hr.mono (by omega)) rfl T.g_is_targets T.F_is_targets.kp T.b_is_targets .nil (fun _ => Reps.nil) (fun _ _ _ h => h.elim) (sa_cons (se_ix (se_var 2 rfl (pv 2)) se_int) (sa_cons (se_var 1 rfl (pv 1)) sa_nil)))))) sa_nil) (pAll_ok rfl)))) (fun _ _ h => h)
def w_are_some (T : Tp P K mg) (x_value x_names : D) (Qx : QX) (Q : QE) : MB := mRet (eAnd (eArgs (aCons (eVal x_value) aNil) fun ds => callW (fw_are_names T) Qx (ds ++ [])) (eArgs (aCons (eLc (iApp (eVal x_value) pIter) (fun x_name => (eBin (eVal x_name) (eVal x_names) oIn))) aNil) (on1 pAll1))) Q
def fw_are_some (T : Tp P K mg) : FS := fun ds C Q Qx => match ds with
  | [x_value, x_names] => w_are_some T x_value x_names Qx Q C
  | _ => False
theorem ok_are_some (T : Tp P K mg) : FnG P w K mg base 3 T.f_are_some T.d_are_some ["value", "names"] (fw_are_some T) := by
  refine fnT T.F_are_some sc_are_some (fun ds C Q Qx h => ?_) (fun cdv A outer s H E X ds C Q hr h => ?_)
  · unfold fw_are_some at h; split at h
    · rfl
    · exact h.elim
  · unfold fw_are_some at h; split at h
    rotate_left
    · exact h.elim
    have hN := sc_are_some.nd
    have hu := hu_G hr
    have hg := hr.gd
    rename_i x_value x_names
    generalize hQx : (fun cls fs C' => ∀ ρ, X.XQ cls fs ρ C' : QX) = Qx at h
    have hX : ∀ ρ cls fs C, Qx cls fs C → X.XQ cls fs ρ C := by subst hQx; exact fun ρ cls fs C h => h ρ
    clear hQx
    revert h; revert C
    show SB X _ [some x_value, some x_names, none] (w_are_some T x_value x_names Qx Q) _
    unfold w_are_some
    exact sb_ret (se_and (se_call (dds := []) (ok_are_names T) (hr.mono (by omega)) rfl T.g_are_names T.F_are_names.kp T.b_are_names .nil (fun _ => Reps.nil) (hX _) (sa_cons (se_var 0 rfl (pv 0)) sa_nil)) (se_one (se_callB (id := "all") rfl T.z_all (by decide +kernel) (sa_cons (se_lc [("name", 2)] (.one 2) rfl hN (blkOk_by rfl) (fun _ _ _ _ _ => pg_name (i := 2) hN rfl (by first | exact .inl rfl | exact .inr rfl)) (by decide) (si_iter (se_var 0 rfl (pv 0))) (bd_one (r := fun x_name => [some x_value, some x_names, some x_name]) (fun _ => rfl) (fun x_name _ _ _ _ _ => (se_cmp (se_var 2 rfl (pv 2)) (se_var 1 rfl (pv 1)) oIn_ok)))) sa_nil) (pAll_ok rfl)))) (fun _ _ h => h)
def w_Book_init (T : Tp P K mg) (x_self x_choices x_kinds x_loose x_others : D) (Qx : QX) (Q : QE) : MB := mIf (tOr (tNot (tVal (eArgs (aCons (eWk (eVal x_choices)) aNil) fun ds => callW (fw_are_names T) Qx (ds ++ [])))) (tBin (eArgs (aCons (eWk (eVal x_choices)) aNil) (on1 (pLen1 no1))) (eVal (.int 0)) (oEq noOwn))) (mRaise (eVal (.str "choices")) T.c_InvalidBook "word" Qx) (mIf (tNot (tVal (eArgs (aCons (eVal x_kinds) (aCons (eWk (eVal x_choices)) aNil)) fun ds => callW (fw_are_kinds T) Qx (ds ++ [])))) (mRaise (eVal (.str "kinds")) T.c_InvalidBook "word" Qx) (mFld K (eArgs (aCons (eVal x_choices) aNil) (on1 pTupleN)) (eVal x_self) "choices" (mFld K (eArgs (aCons (eLc (iApp (eVal x_kinds) pIter) (fun d => un2 d fun x_name x_targets => (eVal x_name))) aNil) (on1 pTuple1)) (eVal x_self) "kinds" (mIf (tNot (tVal (eArgs (aCons (eVal x_loose) (aCons (eApp (eVal x_self) (pFld K "kinds")) aNil)) fun ds => callW (fw_are_some T) Qx (ds ++ [])))) (mRaise (eVal (.str "loose")) T.c_InvalidBook "word" Qx) (mIf (tNot (tVal (eArgs (aCons (eVal x_others) (aCons (eApp (eVal x_self) (pFld K "kinds")) aNil)) fun ds => callW (fw_are_some T) Qx (ds ++ [])))) (mRaise (eVal (.str "others")) T.c_InvalidBook "word" Qx) (mFld K (eDc (iApp (eVal x_kinds) pIter) (fun d => un2 d fun x_name1 x_targets1 => (eVal x_name1)) (fun d => un2 d fun x_name1 x_targets1 => (eArgs (aCons (eVal x_targets1) aNil) (on1 pTuple1)))) (eVal x_self) "targets" (mFld K (eArgs (aCons (eLc1 (iApp (eApp (eVal x_self) (pFld K "kinds")) pIter) (fun x_name2 => (tBin (eVal x_name2) (eVal x_loose) oIn)) (fun x_name2 => (eVal x_name2))) aNil) (on1 pTuple1)) (eVal x_self) "loose" (mFld K (eArgs (aCons (eLc1 (iApp (eApp (eVal x_self) (pFld K "kinds")) pIter) (fun x_name3 => (tBin (eVal x_name3) (eVal x_others) oIn)) (fun x_name3 => (eVal x_name3))) aNil) (on1 pTuple1)) (eVal x_self) "others" (mRet (eVal .non) Q)))))))))
def fw_Book_init (T : Tp P K mg) : FS := fun ds C Q Qx => match ds with
  | [x_self, x_choices, x_kinds, x_loose, x_others] => w_Book_init T x_self x_choices x_kinds x_loose x_others Qx Q C
  | _ => False
theorem ok_Book_init (T : Tp P K mg) : FnG P w K mg base 4 T.f_Book_init T.d_Book_init ["self", "choices", "kinds", "loose", "others"] (fw_Book_init T) := by
  refine fnT T.F_Book_init sc_Book_init (fun ds C Q Qx h => ?_) (fun cdv A outer s H E X ds C Q hr h => ?_)
  · unfold fw_Book_init at h; split at h
    · rfl
    · exact h.elim
  · unfold fw_Book_init at h; split at h
    rotate_left
    · exact h.elim
    have hN := sc_Book_init.nd
    have hu := hu_G hr
    have hg := hr.gd
    rename_i x_self x_choices x_kinds x_loose x_others
    generalize hQx : (fun cls fs C' => ∀ ρ, X.XQ cls fs ρ C' : QX) = Qx at h
    have hX : ∀ ρ cls fs C, Qx cls fs C → X.XQ cls fs ρ C := by subst hQx; exact fun ρ cls fs C h => h ρ
    clear hQx
    revert h; revert C
    show SB X _ [some x_self, some x_choices, some x_kinds, some x_loose, some x_others, none, none] (w_Book_init T x_self x_choices x_kinds x_loose x_others Qx Q) _
    unfold w_Book_init
    refine sb_if (st_p (sp_or (st_not (st_val (se_call (dds := []) (ok_are_names T) (hr.mono (by omega)) rfl T.g_are_names T.F_are_names.kp T.b_are_names .nil (fun _ => Reps.nil) (hX _) (sa_cons (se_wk (se_var 1 rfl (pv 1))) sa_nil)))) (sp_or1 (st_cmp (se_callB (id := "len") rfl T.z_len (by decide +kernel) (sa_cons (se_wk (se_var 1 rfl (pv 1))) sa_nil) (pLen_ok no1_ok)) se_int (oEq_ok hu noOwn_ok))))) ?_ ?_
    · exact sb_raise (k := 0) T.x_InvalidBook (hr.mono (by omega)) rfl T.g_InvalidBook se_str (hX _)
    · refine sb_more ?_
      refine sb_if (st_not (st_val (se_call (dds := []) (ok_are_kinds T) (hr.mono (by omega)) rfl T.g_are_kinds T.F_are_kinds.kp T.b_are_kinds .nil (fun _ => Reps.nil) (hX _) (sa_cons (se_var 2 rfl (pv 2)) (sa_cons (se_wk (se_var 1 rfl (pv 1))) sa_nil))))) ?_ ?_
      · exact sb_raise (k := 0) T.x_InvalidBook (hr.mono (by omega)) rfl T.g_InvalidBook se_str (hX _)
      · refine sb_more ?_
        refine sb_fld (se_callTy (id := "tuple") rfl T.z_tuple (by decide +kernel) (sa_cons (se_var 1 rfl (pv 1)) sa_nil) on_tupleN) (se_var 0 rfl (pv 0)) ?_
        refine sb_fld (se_callTy (id := "tuple") rfl T.z_tuple (by decide +kernel) (sa_cons (se_lc [("name", 5), ("targets", 6)] (.tup [5, 6]) rfl hN (blkOk_by rfl) (fun _ _ _ _ _ => pg_tup rfl (pgs_cons (pg_name (i := 5) hN rfl (by first | exact .inl rfl | exact .inr rfl)) (pgs_cons (pg_name (i := 6) hN rfl (by first | exact .inl rfl | exact .inr rfl)) pgs_nil))) (by decide) (si_iter (se_var 2 rfl (pv 2))) (bd_two (r := fun x_name x_targets => [some x_self, some x_choices, some x_kinds, some x_loose, some x_others, some x_name, some x_targets]) (fun _ _ => rfl) (fun x_name x_targets _ _ _ _ _ => (se_var 5 rfl (pv 5))))) sa_nil) pTuple_ok) (se_var 0 rfl (pv 0)) ?_
        refine sb_if (st_not (st_val (se_call (dds := []) (ok_are_some T) (hr.mono (by omega)) rfl T.g_are_some T.F_are_some.kp T.b_are_some .nil (fun _ => Reps.nil) (hX _) (sa_cons (se_var 3 rfl (pv 3)) (sa_cons (se_fld (se_var 0 rfl (pv 0))) sa_nil))))) ?_ ?_
        · exact sb_raise (k := 0) T.x_InvalidBook (hr.mono (by omega)) rfl T.g_InvalidBook se_str (hX _)
        · refine sb_more ?_
          refine sb_if (st_not (st_val (se_call (dds := []) (ok_are_some T) (hr.mono (by omega)) rfl T.g_are_some T.F_are_some.kp T.b_are_some .nil (fun _ => Reps.nil) (hX _) (sa_cons (se_var 4 rfl (pv 4)) (sa_cons (se_fld (se_var 0 rfl (pv 0))) sa_nil))))) ?_ ?_
          · exact sb_raise (k := 0) T.x_InvalidBook (hr.mono (by omega)) rfl T.g_InvalidBook se_str (hX _)
          · refine sb_more ?_
            refine sb_fld (se_dc [("name", 5), ("targets", 6)] (.tup [5, 6]) rfl hN (blkOk_by rfl) (fun _ _ _ _ _ => pg_tup rfl (pgs_cons (pg_name (i := 5) hN rfl (by first | exact .inl rfl | exact .inr rfl)) (pgs_cons (pg_name (i := 6) hN rfl (by first | exact .inl rfl | exact .inr rfl)) pgs_nil))) (by decide) (si_iter (se_var 2 rfl (pv 2))) (bd_two (r := fun x_name1 x_targets1 => [some x_self, some x_choices, some x_kinds, some x_loose, some x_others, some x_name1, some x_targets1]) (fun _ _ => rfl) (fun x_name1 x_targets1 _ _ _ _ _ => (se_var 5 rfl (pv 5)))) (bd_two (r := fun x_name1 x_targets1 => [some x_self, some x_choices, some x_kinds, some x_loose, some x_others, some x_name1, some x_targets1]) (fun _ _ => rfl) (fun x_name1 x_targets1 _ _ _ _ _ => (se_callTy (id := "tuple") rfl T.z_tuple (by decide +kernel) (sa_cons (se_var 6 rfl (pv 6)) sa_nil) pTuple_ok)))) (se_var 0 rfl (pv 0)) ?_
            refine sb_fld (se_callTy (id := "tuple") rfl T.z_tuple (by decide +kernel) (sa_cons (se_lc1 [("name", 5)] (.one 5) rfl hN (blkOk_by rfl) (fun _ _ _ _ _ => pg_name (i := 5) hN rfl (by first | exact .inl rfl | exact .inr rfl)) (by decide) (si_iter (se_fld (se_var 0 rfl (pv 0)))) (bdT_one (r := fun x_name2 => [some x_self, some x_choices, some x_kinds, some x_loose, some x_others, some x_name2, none]) (fun _ => rfl) (fun x_name2 _ _ _ _ _ => (st_cmp (se_var 5 rfl (pv 5)) (se_var 3 rfl (pv 3)) oIn_ok))) (bd_one (r := fun x_name2 => [some x_self, some x_choices, some x_kinds, some x_loose, some x_others, some x_name2, none]) (fun _ => rfl) (fun x_name2 _ _ _ _ _ => (se_var 5 rfl (pv 5))))) sa_nil) pTuple_ok) (se_var 0 rfl (pv 0)) ?_
            refine sb_fld (se_callTy (id := "tuple") rfl T.z_tuple (by decide +kernel) (sa_cons (se_lc1 [("name", 5)] (.one 5) rfl hN (blkOk_by rfl) (fun _ _ _ _ _ => pg_name (i := 5) hN rfl (by first | exact .inl rfl | exact .inr rfl)) (by decide) (si_iter (se_fld (se_var 0 rfl (pv 0)))) (bdT_one (r := fun x_name3 => [some x_self, some x_choices, some x_kinds, some x_loose, some x_others, some x_name3, none]) (fun _ => rfl) (fun x_name3 _ _ _ _ _ => (st_cmp (se_var 5 rfl (pv 5)) (se_var 4 rfl (pv 4)) oIn_ok))) (bd_one (r := fun x_name3 => [some x_self, some x_choices, some x_kinds, some x_loose, some x_others, some x_name3, none]) (fun _ => rfl) (fun x_name3 _ _ _ _ _ => (se_var 5 rfl (pv 5))))) sa_nil) pTuple_ok) (se_var 0 rfl (pv 0)) ?_
            exact sb_nil (fun _ h => h)
def w__law_led (T : Tp P K mg) (x_form x_led_here : D) (Qx : QX) (Q : QE) : MB := mSet (eVal x_form) fun x_d => mUn4 x_d fun x_some x_kinds x_loose x_others => mSet (eLc (iApp (eVal x_kinds) pIter) (fun d => un2 d fun x_name x_targets => (eArgs (aCons (eBin (eVal x_led_here) (eVal x_name) pIxD) (aCons (eLc (iApp (eVal x_targets) pIter) (fun x_one => (eIf (tBin (eVal x_one) (eVal .non) oIs) (eVal .non) (eBin (eVal x_led_here) (eVal x_one) pIxD)))) aNil)) pTup))) fun x_told => mRet (eArgs (aCons (eLc (iApp (eVal x_some) pIter) (fun x_one1 => (eBin (eVal x_led_here) (eVal x_one1) pIxD))) (aCons (eVal x_told) (aCons (eLc (iApp (eVal x_loose) pIter) (fun x_one2 => (eBin (eVal x_led_here) (eVal x_one2) pIxD))) (aCons (eLc (iApp (eVal x_others) pIter) (fun x_one3 => (eBin (eVal x_led_here) (eVal x_one3) pIxD))) aNil)))) pTup) Q
def fw__law_led (T : Tp P K mg) : FS := fun ds C Q Qx => match ds with
  | [x_form, x_led_here] => w__law_led T x_form x_led_here Qx Q C
  | _ => False
theorem cl__law_led (T : Tp P K mg) {x_form x_led_here : D} {Qx : QX} {C : Cells} {Q : QE} (h : w__law_led T x_form x_led_here Qx Q C) : callW (fw__law_led T) Qx [x_form, x_led_here] C Q := call_all h
theorem ok__law_led (T : Tp P K mg) : FnG P w K mg base 1 T.f__law_led T.d__law_led ["_law_form", "_law_led_here"] (fw__law_led T) := by
  refine fnT T.F__law_led sc__law_led (fun ds C Q Qx h => ?_) (fun cdv A outer s H E X ds C Q hr h => ?_)
  · unfold fw__law_led at h; split at h
    · rfl
    · exact h.elim
  · unfold fw__law_led at h; split at h
    rotate_left
    · exact h.elim
    have hN := sc__law_led.nd
    have hu := hu_G hr
    have hg := hr.gd
    rename_i x_form x_led_here
    generalize hQx : (fun cls fs C' => ∀ ρ, X.XQ cls fs ρ C' : QX) = Qx at h
    have hX : ∀ ρ cls fs C, Qx cls fs C → X.XQ cls fs ρ C := by subst hQx; exact fun ρ cls fs C h => h ρ
    clear hQx
    revert h; revert C
    show SB X _ [some x_form, some x_led_here, none, none, none, none, none, none, none, none] (w__law_led T x_form x_led_here Qx Q) _
    unfold w__law_led
    refine sb_asg (se_var 0 rfl (pv 0)) (fun x_d => ?_)
    refine sg_four (r := fun x_some x_kinds x_loose x_others => [some x_form, some x_led_here, some x_some, some x_kinds, some x_loose, some x_others, none, none, none, none]) rfl (fun _ _ _ _ => (gs_cons 2 (pg_name (i := 2) hN rfl (by first | exact .inl rfl | exact .inr rfl)) (gs_cons 3 (pg_name (i := 3) hN rfl (by first | exact .inl rfl | exact .inr rfl)) (gs_cons 4 (pg_name (i := 4) hN rfl (by first | exact .inl rfl | exact .inr rfl)) (gs_cons 5 (pg_name (i := 5) hN rfl (by first | exact .inl rfl | exact .inr rfl)) gs_nil))))) (fun x_some x_kinds x_loose x_others => ?_)
    first | refine sb_setLc (r := fun x_told => [some x_form, some x_led_here, some x_some, some x_kinds, some x_loose, some x_others, some x_told, none, none, none]) [("_law_name", 7), ("_law_targets", 8)] (.tup [7, 8]) 6 rfl hN rfl rfl (sw_true rfl rfl rfl rfl) (blkOk_by rfl) (fun _ _ _ _ _ => pg_tup rfl (pgs_cons (pg_name (i := 7) hN rfl (by first | exact .inl rfl | exact .inr rfl)) (pgs_cons (pg_name (i := 8) hN rfl (by first | exact .inl rfl | exact .inr rfl)) pgs_nil))) (by decide) (si_iter (se_var 3 rfl (pv 3))) (bd_two (r := fun x_name x_targets => [some x_form, some x_led_here, some x_some, some x_kinds, some x_loose, some x_others, none, some x_name, some x_targets, none]) (fun _ _ => rfl) (fun x_name x_targets _ _ _ _ _ => (se_tup (sa_cons (se_ixD hu (se_var 1 rfl (pv 1)) (se_var 7 rfl (pv 7))) (sa_cons (se_lc [("_law_one", 9)] (.one 9) rfl hN (blkOk_by rfl) (fun _ _ _ _ _ => pg_name (i := 9) hN rfl (by first | exact .inl rfl | exact .inr rfl)) (by decide) (si_iter (se_var 8 rfl (pv 8))) (bd_one (r := fun x_one => [some x_form, some x_led_here, some x_some, some x_kinds, some x_loose, some x_others, none, some x_name, some x_targets, some x_one]) (fun _ => rfl) (fun x_one _ _ _ _ _ => (se_if (st_cmp (se_var 9 rfl (pv 9)) se_non oIs_ok) se_non (se_ixD hu (se_var 1 rfl (pv 1)) (se_var 9 rfl (pv 9))))))) sa_nil))))) (fun _ => rfl) (fun x_told => ?_) | refine sb_set (r := fun x_told => [some x_form, some x_led_here, some x_some, some x_kinds, some x_loose, some x_others, some x_told, none, none, none]) 6 hN rfl (by first | exact .inl rfl | exact .inr rfl) (fun _ => rfl) (se_lc [("_law_name", 7), ("_law_targets", 8)] (.tup [7, 8]) rfl hN (blkOk_by rfl) (fun _ _ _ _ _ => pg_tup rfl (pgs_cons (pg_name (i := 7) hN rfl (by first | exact .inl rfl | exact .inr rfl)) (pgs_cons (pg_name (i := 8) hN rfl (by first | exact .inl rfl | exact .inr rfl)) pgs_nil))) (by decide) (si_iter (se_var 3 rfl (pv 3))) (bd_two (r := fun x_name x_targets => [some x_form, some x_led_here, some x_some, some x_kinds, some x_loose, some x_others, none, some x_name, some x_targets, none]) (fun _ _ => rfl) (fun x_name x_targets _ _ _ _ _ => (se_tup (sa_cons (se_ixD hu (se_var 1 rfl (pv 1)) (se_var 7 rfl (pv 7))) (sa_cons (se_lc [("_law_one", 9)] (.one 9) rfl hN (blkOk_by rfl) (fun _ _ _ _ _ => pg_name (i := 9) hN rfl (by first | exact .inl rfl | exact .inr rfl)) (by decide) (si_iter (se_var 8 rfl (pv 8))) (bd_one (r := fun x_one => [some x_form, some x_led_here, some x_some, some x_kinds, some x_loose, some x_others, none, some x_name, some x_targets, some x_one]) (fun _ => rfl) (fun x_one _ _ _ _ _ => (se_if (st_cmp (se_var 9 rfl (pv 9)) se_non oIs_ok) se_non (se_ixD hu (se_var 1 rfl (pv 1)) (se_var 9 rfl (pv 9))))))) sa_nil)))))) (fun x_told => ?_)
    exact sb_ret (se_tup (sa_cons (se_lc [("_law_one", 9)] (.one 9) rfl hN (blkOk_by rfl) (fun _ _ _ _ _ => pg_name (i := 9) hN rfl (by first | exact .inl rfl | exact .inr rfl)) (by decide) (si_iter (se_var 2 rfl (pv 2))) (bd_one (r := fun x_one1 => [some x_form, some x_led_here, some x_some, some x_kinds, some x_loose, some x_others, some x_told, none, none, some x_one1]) (fun _ => rfl) (fun x_one1 _ _ _ _ _ => (se_ixD hu (se_var 1 rfl (pv 1)) (se_var 9 rfl (pv 9)))))) (sa_cons (se_var 6 rfl (pv 6)) (sa_cons (se_lc [("_law_one", 9)] (.one 9) rfl hN (blkOk_by rfl) (fun _ _ _ _ _ => pg_name (i := 9) hN rfl (by first | exact .inl rfl | exact .inr rfl)) (by decide) (si_iter (se_var 4 rfl (pv 4))) (bd_one (r := fun x_one2 => [some x_form, some x_led_here, some x_some, some x_kinds, some x_loose, some x_others, some x_told, none, none, some x_one2]) (fun _ => rfl) (fun x_one2 _ _ _ _ _ => (se_ixD hu (se_var 1 rfl (pv 1)) (se_var 9 rfl (pv 9)))))) (sa_cons (se_lc [("_law_one", 9)] (.one 9) rfl hN (blkOk_by rfl) (fun _ _ _ _ _ => pg_name (i := 9) hN rfl (by first | exact .inl rfl | exact .inr rfl)) (by decide) (si_iter (se_var 5 rfl (pv 5))) (bd_one (r := fun x_one3 => [some x_form, some x_led_here, some x_some, some x_kinds, some x_loose, some x_others, some x_told, none, none, some x_one3]) (fun _ => rfl) (fun x_one3 _ _ _ _ _ => (se_ixD hu (se_var 1 rfl (pv 1)) (se_var 9 rfl (pv 9)))))) sa_nil))))) (fun _ _ h => h)
def w_is_book_line (T : Tp P K mg) (x_words : D) (Qx : QX) (Q : QE) : MB := mIf (tBin (eBin (eVal x_words) (eVal (.int 0)) pIx) (eVal (.str "kind")) (oEq noOwn)) (mRet (eAnd (eBin (eArgs (aCons (eVal x_words) aNil) (on1 (pLen1 no1))) (eVal (.int 2)) oGt) (eAnd (eArgs (aCons (eBin (eVal x_words) (eVal (.int 1)) pIx) aNil) fun ds => callW (fw_is_name T) Qx (ds ++ [])) (eArgs (aCons (eLc (iApp (eSl (eVal x_words) (oSome (eVal (.int 2))) oNone) pIter) (fun x_word => (eOr (eBin (eVal x_word) (eVal (.str "no")) (oEq noOwn)) (eArgs (aCons (eVal x_word) aNil) fun ds => callW (fw_is_name T) (fun _ _ _ => False) (ds ++ []))))) aNil) (on1 pAll1)))) Q) (mRet (eAnd (eBin (eBin (eVal x_words) (eVal (.int 0)) pIx) (eArgs (aCons (eVal (.str "values")) (aCons (eVal (.str "loose")) (aCons (eVal (.str "others")) aNil))) pTup) oIn) (eAnd (eBin (eArgs (aCons (eVal x_words) aNil) (on1 (pLen1 no1))) (eVal (.int 1)) oGt) (eArgs (aCons (eLc (iApp (eSl (eVal x_words) (oSome (eVal (.int 1))) oNone) pIter) (fun x_word1 => (eArgs (aCons (eVal x_word1) aNil) fun ds => callW (fw_is_name T) (fun _ _ _ => False) (ds ++ [])))) aNil) (on1 pAll1)))) Q)
def fw_is_book_line (T : Tp P K mg) : FS := fun ds C Q Qx => match ds with
  | [x_words] => w_is_book_line T x_words Qx Q C
  | _ => False
theorem ok_is_book_line (T : Tp P K mg) : FnG P w K mg base 2 T.f_is_book_line T.d_is_book_line ["words"] (fw_is_book_line T) := by
  refine fnT T.F_is_book_line sc_is_book_line (fun ds C Q Qx h => ?_) (fun cdv A outer s H E X ds C Q hr h => ?_)
  · unfold fw_is_book_line at h; split at h
    · rfl
    · exact h.elim
  · unfold fw_is_book_line at h; split at h
    rotate_left
    · exact h.elim
    have hN := sc_is_book_line.nd
    have hu := hu_G hr
    have hg := hr.gd
    rename_i x_words
    generalize hQx : (fun cls fs C' => ∀ ρ, X.XQ cls fs ρ C' : QX) = Qx at h
    have hX : ∀ ρ cls fs C, Qx cls fs C → X.XQ cls fs ρ C := by subst hQx; exact fun ρ cls fs C h => h ρ
    clear hQx
    revert h; revert C
    show SB X _ [some x_words, none] (w_is_book_line T x_words Qx Q) _
    unfold w_is_book_line
    refine sb_if (st_cmp (se_ix (se_var 0 rfl (pv 0)) se_int) se_str (oEq_ok hu noOwn_ok)) ?_ ?_
    · exact sb_ret (se_and (se_cmp (se_callB (id := "len") rfl T.z_len (by decide +kernel) (sa_cons (se_var 0 rfl (pv 0)) sa_nil) (pLen_ok no1_ok)) se_int oGt_ok) (se_and (se_call (dds := []) (ok_is_name T) (hr.mono (by omega)) rfl T.g_is_name T.F_is_name.kp T.b_is_name .nil (fun _ => Reps.nil) (hX _) (sa_cons (se_ix (se_var 0 rfl (pv 0)) se_int) sa_nil)) (se_one (se_callB (id := "all") rfl T.z_all (by decide +kernel) (sa_cons (se_lc [("word", 1)] (.one 1) rfl hN (blkOk_by rfl) (fun _ _ _ _ _ => pg_name (i := 1) hN rfl (by first | exact .inl rfl | exact .inr rfl)) (by decide) (si_iter (se_slice (se_var 0 rfl (pv 0)) (so_some se_int) so_none)) (bd_one (r := fun x_word => [some x_words, some x_word]) (fun _ => rfl) (fun x_word _ _ _ _ _ => (se_or (se_cmp (se_var 1 rfl (pv 1)) se_str (oEq_ok hu noOwn_ok)) (se_one (se_call (dds := []) (ok_is_name T) (hr.mono (by omega)) rfl T.g_is_name T.F_is_name.kp T.b_is_name .nil (fun _ => Reps.nil) (fun _ _ _ h => h.elim) (sa_cons (se_var 1 rfl (pv 1)) sa_nil))))))) sa_nil) (pAll_ok rfl))))) (fun _ _ h => h)
    · refine sb_more ?_
      exact sb_ret (se_and (se_cmp (se_ix (se_var 0 rfl (pv 0)) se_int) (se_tup (sa_cons se_str (sa_cons se_str (sa_cons se_str sa_nil)))) oIn_ok) (se_and (se_cmp (se_callB (id := "len") rfl T.z_len (by decide +kernel) (sa_cons (se_var 0 rfl (pv 0)) sa_nil) (pLen_ok no1_ok)) se_int oGt_ok) (se_one (se_callB (id := "all") rfl T.z_all (by decide +kernel) (sa_cons (se_lc [("word", 1)] (.one 1) rfl hN (blkOk_by rfl) (fun _ _ _ _ _ => pg_name (i := 1) hN rfl (by first | exact .inl rfl | exact .inr rfl)) (by decide) (si_iter (se_slice (se_var 0 rfl (pv 0)) (so_some se_int) so_none)) (bd_one (r := fun x_word1 => [some x_words, some x_word1]) (fun _ => rfl) (fun x_word1 _ _ _ _ _ => (se_call (dds := []) (ok_is_name T) (hr.mono (by omega)) rfl T.g_is_name T.F_is_name.kp T.b_is_name .nil (fun _ => Reps.nil) (fun _ _ _ h => h.elim) (sa_cons (se_var 1 rfl (pv 1)) sa_nil))))) sa_nil) (pAll_ok rfl))))) (fun _ _ h => h)
def w_may_follow (T : Tp P K mg) (x_word x_last : D) (Qx : QX) (Q : QE) : MB := mSet (eDisp [.inr "", .inr "values", .inr "kind", .inr "loose", .inr "others"] (aCons (eVal (.int 0)) (aCons (eVal (.int 1)) (aCons (eVal (.int 2)) (aCons (eVal (.int 3)) (aCons (eVal (.int 4)) aNil)))))) fun x_places => mIf (tOr (tBin (eVal x_word) (eVal (.str "values")) (oEq noOwn)) (tBin (eVal x_last) (eVal (.str "")) (oEq noOwn))) (mRet (eDrop (eAnd (eBin (eVal x_word) (eVal (.str "values")) (oEq noOwn)) (eBin (eVal x_last) (eVal (.str "")) (oEq noOwn)))) Q) (mRet (eDrop (eOr (eBin (eBin (eVal x_places) (eVal x_word) pIxD) (eBin (eVal x_places) (eVal x_last) pIxD) oGt) (eAnd (eBin (eVal x_word) (eVal (.str "kind")) (oEq noOwn)) (eBin (eVal x_last) (eVal (.str "kind")) (oEq noOwn))))) Q)
def fw_may_follow (T : Tp P K mg) : FS := fun ds C Q Qx => match ds with
  | [x_word, x_last] => w_may_follow T x_word x_last Qx Q C
  | _ => False
theorem ok_may_follow (T : Tp P K mg) : FnG P w K mg base 1 T.f_may_follow T.d_may_follow ["word", "last"] (fw_may_follow T) := by
  refine fnT T.F_may_follow sc_may_follow (fun ds C Q Qx h => ?_) (fun cdv A outer s H E X ds C Q hr h => ?_)
  · unfold fw_may_follow at h; split at h
    · rfl
    · exact h.elim
  · unfold fw_may_follow at h; split at h
    rotate_left
    · exact h.elim
    have hN := sc_may_follow.nd
    have hu := hu_G hr
    have hg := hr.gd
    rename_i x_word x_last
    generalize hQx : (fun cls fs C' => ∀ ρ, X.XQ cls fs ρ C' : QX) = Qx at h
    have hX : ∀ ρ cls fs C, Qx cls fs C → X.XQ cls fs ρ C := by subst hQx; exact fun ρ cls fs C h => h ρ
    clear hQx
    revert h; revert C
    show SB X _ [some x_word, some x_last, none] (w_may_follow T x_word x_last Qx Q) _
    unfold w_may_follow
    refine sb_set (r := fun x_places => [some x_word, some x_last, some x_places]) 2 hN rfl (by first | exact .inl rfl | exact .inr rfl) (fun _ => rfl) (se_disp (sd_cons se_int (sd_cons se_int (sd_cons se_int (sd_cons se_int (sd_cons se_int sd_nil)))))) (fun x_places => ?_)
    refine sb_if (st_p (sp_or (st_cmp (se_var 0 rfl (pv 0)) se_str (oEq_ok hu noOwn_ok)) (sp_or1 (st_cmp (se_var 1 rfl (pv 1)) se_str (oEq_ok hu noOwn_ok))))) ?_ ?_
    · exact sb_ret (se_drop (se_and (se_cmp (se_var 0 rfl (pv 0)) se_str (oEq_ok hu noOwn_ok)) (se_one (se_cmp (se_var 1 rfl (pv 1)) se_str (oEq_ok hu noOwn_ok))))) (fun _ _ h => h)
    · refine sb_more ?_
      exact sb_ret (se_drop (se_or (se_cmp (se_ixD hu (se_var 2 rfl (pv 2)) (se_var 0 rfl (pv 0))) (se_ixD hu (se_var 2 rfl (pv 2)) (se_var 1 rfl (pv 1))) oGt_ok) (se_one (se_and (se_cmp (se_var 0 rfl (pv 0)) se_str (oEq_ok hu noOwn_ok)) (se_one (se_cmp (se_var 1 rfl (pv 1)) se_str (oEq_ok hu noOwn_ok))))))) (fun _ _ h => h)
def w_Book_read_a2 (T : Tp P K mg) (x_found : D) (Qx : QX) (Q : QE) (s1 : D) : MB := mRet (eDrop (eArgs (aCons (eBin (eVal x_found) (eVal (.str "values")) pIxD) (aCons (eBin (eVal x_found) (eVal (.str "kind")) pIxD) (aCons (eBin (eVal x_found) (eVal (.str "loose")) pIxD) (aCons (eBin (eVal x_found) (eVal (.str "others")) pIxD) aNil)))) fun ds => pMkF (fw_Book_init T) Qx T.c_Book (ds ++ []))) Q
def w_Book_read_l1 (T : Tp P K mg) (x_found : D) (Qx : QX) (Q : QE) (d1 : D) (s1 : D) (nx1 : (D) → MB) (bk1 : (D) → MB) : MB := mUn2 d1 fun x_at x_line => mSet (eStr1 (eVal x_line) (eVal (.str " ")) pSplit) fun x_words => mIf (tOr (tNot (tVal (eArgs (aCons (eVal x_words) aNil) fun ds => callW (fw_is_book_line T) Qx (ds ++ [])))) (tNot (tVal (eArgs (aCons (eBin (eVal x_words) (eVal (.int 0)) pIx) (aCons (eVal s1) aNil)) fun ds => callW (fw_may_follow T) Qx (ds ++ []))))) (mRaise (eVal x_at) T.c_InvalidText "at" Qx) (mSet (eBin (eVal x_words) (eVal (.int 0)) pIx) fun x_last1 => mIf (tBin (eVal x_last1) (eVal (.str "kind")) (oEq noOwn)) (mExp (eL1 (eBin (eVal x_found) (eVal (.str "kind")) pIxD) (eArgs (aCons (eBin (eVal x_words) (eVal (.int 1)) pIx) (aCons (eLc (iApp (eSl (eVal x_words) (oSome (eVal (.int 2))) oNone) pIter) (fun x_word => (eIf (tBin (eVal x_word) (eVal (.str "no")) (oEq noOwn)) (eVal .non) (eVal x_word)))) aNil)) pTup) pApp) (mPart (nx1 x_last1))) (mSet (eSl (eVal x_words) (oSome (eVal (.int 1))) oNone) fun x_d => mSubD (eVal x_found) (eVal x_last1) x_d (mPart (nx1 x_last1))))
def w_Book_read (T : Tp P K mg) (x_cls x_text : D) (Qx : QX) (Q : QE) : MB := mSet (eStr1 (eVal x_text) (eVal (.str "\n")) pSplit) fun x_lines => mSet (eDisp [.inr "values", .inr "kind", .inr "loose", .inr "others"] (aCons (eArgs aNil pLstC) (aCons (eArgs aNil pLstC) (aCons (eArgs aNil pLstC) (aCons (eArgs aNil pLstC) aNil))))) fun x_found => mSet (eVal (.str "")) fun x_last => mFor (α := D) (iApp (eVal x_lines) pEnum) (w_Book_read_l1 T x_found Qx Q) x_last (w_Book_read_a2 T x_found Qx Q)
def fw_Book_read (T : Tp P K mg) : FS := fun ds C Q Qx => match ds with
  | [x_cls, x_text] => w_Book_read T x_cls x_text Qx Q C
  | _ => False
theorem ok_Book_read (T : Tp P K mg) : FnG P w K mg base 6 T.f_Book_read T.d_Book_read ["cls", "text"] (fw_Book_read T) := by
  refine fnT T.F_Book_read sc_Book_read (fun ds C Q Qx h => ?_) (fun cdv A outer s H E X ds C Q hr h => ?_)
  · unfold fw_Book_read at h; split at h
    · rfl
    · exact h.elim
  · unfold fw_Book_read at h; split at h
    rotate_left
    · exact h.elim
    have hN := sc_Book_read.nd
    have hu := hu_G hr
    have hg := hr.gd
    rename_i x_cls x_text
    generalize hQx : (fun cls fs C' => ∀ ρ, X.XQ cls fs ρ C' : QX) = Qx at h
    have hX : ∀ ρ cls fs C, Qx cls fs C → X.XQ cls fs ρ C := by subst hQx; exact fun ρ cls fs C h => h ρ
    clear hQx
    revert h; revert C
    show SB X _ [some x_cls, some x_text, none, none, none, none, none, none, none] (w_Book_read T x_cls x_text Qx Q) _
    unfold w_Book_read
    refine sb_set (r := fun x_lines => [some x_cls, some x_text, some x_lines, none, none, none, none, none, none]) 2 hN rfl (by first | exact .inl rfl | exact .inr rfl) (fun _ => rfl) (se_split (se_var 1 rfl (pv 1)) se_str) (fun x_lines => ?_)
    refine sb_set (r := fun x_found => [some x_cls, some x_text, some x_lines, some x_found, none, none, none, none, none]) 3 hN rfl (by first | exact .inl rfl | exact .inr rfl) (fun _ => rfl) (se_disp (sd_cons (se_lstC sa_nil) (sd_cons (se_lstC sa_nil) (sd_cons (se_lstC sa_nil) (sd_cons (se_lstC sa_nil) sd_nil))))) (fun x_found => ?_)
    refine sb_set (r := fun x_last => [some x_cls, some x_text, some x_lines, some x_found, some x_last, none, none, none, none]) 4 hN rfl (by first | exact .inl rfl | exact .inr rfl) (fun _ => rfl) se_str (fun x_last => ?_)
    refine sb_for (α := D) (fun s1 => [some x_cls, some x_text, some x_lines, some x_found, some s1, none, none, none, none]) rfl (si_enum rfl T.z_enumerate (se_var 2 rfl (pv 2))) (by walk_at "le") (fun d1 s1 nx1 bk1 W V hW1 hV1 => ?_) (fun s1 => ?_)
    · unfold w_Book_read_l1
      refine sg_two (r := fun x_at x_line => [some x_cls, some x_text, some x_lines, some x_found, some s1, some x_at, some x_line, none, none]) rfl (fun _ _ => (gs_cons 5 (pg_name (i := 5) hN rfl (by first | exact .inl rfl | exact .inr rfl)) (gs_cons 6 (pg_name (i := 6) hN rfl (by first | exact .inl rfl | exact .inr rfl)) gs_nil))) (fun x_at x_line => ?_)
      refine sb_set (r := fun x_words => [some x_cls, some x_text, some x_lines, some x_found, some s1, some x_at, some x_line, some x_words, none]) 7 hN rfl (by first | exact .inl rfl | exact .inr rfl) (fun _ => rfl) (se_split (se_var 6 rfl (pv 6)) se_str) (fun x_words => ?_)
      refine sb_if (st_p (sp_or (st_not (st_val (se_call (dds := []) (ok_is_book_line T) (hr.mono (by omega)) rfl T.g_is_book_line T.F_is_book_line.kp T.b_is_book_line .nil (fun _ => Reps.nil) (hX _) (sa_cons (se_var 7 rfl (pv 7)) sa_nil)))) (sp_or1 (st_not (st_val (se_call (dds := []) (ok_may_follow T) (hr.mono (by omega)) rfl T.g_may_follow T.F_may_follow.kp T.b_may_follow .nil (fun _ => Reps.nil) (hX _) (sa_cons (se_ix (se_var 7 rfl (pv 7)) se_int) (sa_cons (se_var 4 rfl (pv 4)) sa_nil)))))))) ?_ ?_
      · exact sb_raise (k := 0) T.x_InvalidText (hr.mono (by omega)) rfl T.g_InvalidText (se_var 5 rfl (pv 5)) (hX _)
      · refine sb_more ?_
        refine sb_set (r := fun x_last1 => [some x_cls, some x_text, some x_lines, some x_found, some x_last1, some x_at, some x_line, some x_words, none]) 4 hN rfl (by first | exact .inl rfl | exact .inr rfl) (fun _ => rfl) (se_ix (se_var 7 rfl (pv 7)) se_int) (fun x_last1 => ?_)
        refine sb_if (st_cmp (se_var 4 rfl (pv 4)) se_str (oEq_ok hu noOwn_ok)) ?_ ?_
        · refine sb_exp (se_append (se_ixD hu (se_var 3 rfl (pv 3)) se_str) (se_tup (sa_cons (se_ix (se_var 7 rfl (pv 7)) se_int) (sa_cons (se_lc [("word", 8)] (.one 8) rfl hN (blkOk_by rfl) (fun _ _ _ _ _ => pg_name (i := 8) hN rfl (by first | exact .inl rfl | exact .inr rfl)) (by decide) (si_iter (se_slice (se_var 7 rfl (pv 7)) (so_some se_int) so_none)) (bd_one (r := fun x_word => [some x_cls, some x_text, some x_lines, some x_found, some x_last1, some x_at, some x_line, some x_words, some x_word]) (fun _ => rfl) (fun x_word _ _ _ _ _ => (se_if (st_cmp (se_var 8 rfl (pv 8)) se_str (oEq_ok hu noOwn_ok)) se_non (se_var 8 rfl (pv 8)))))) sa_nil)))) ?_
          refine sb_more ?_
          refine sb_part ?_
          exact sb_le hW1 (by walk_at "le")
        · refine sb_asg (se_slice (se_var 7 rfl (pv 7)) (so_some se_int) so_none) (fun x_d => ?_)
          refine sg_subD hu (se_var 3 rfl (pv 3)) (se_var 4 rfl (pv 4)) ?_
          refine sb_more ?_
          refine sb_part ?_
          exact sb_le hW1 (by walk_at "le")
    · unfold w_Book_read_a2
      exact sb_ret (se_drop (se_mkF (se_make (dds := []) T.mk_Book (ok_Book_init T) (hr.mono (by omega)) rfl T.g_Book T.b_Book_init .nil (fun _ => Reps.nil) (hX _) (sa_cons (se_ixD hu (se_var 3 rfl (pv 3)) se_str) (sa_cons (se_ixD hu (se_var 3 rfl (pv 3)) se_str) (sa_cons (se_ixD hu (se_var 3 rfl (pv 3)) se_str) (sa_cons (se_ixD hu (se_var 3 rfl (pv 3)) se_str) sa_nil))))))) (fun _ _ h => h)
def w__law_book_text_a4 (T : Tp P K mg) (x_lines : D) (Qx : QX) (Q : QE) (s3 : Unit) : MB := mRet (eDrop (eStr1 (eVal (.str "\n")) (eVal x_lines) pJoin)) Q
def w__law_book_text_l3 (T : Tp P K mg) (x_kinds : D) (x_lines : D) (Qx : QX) (Q : QE) (d3 : D) (s3 : Unit) (nx3 : (Unit) → MB) (bk3 : (Unit) → MB) : MB := mUn2 d3 fun x_head x_names => mSet (eLc1 (iApp (eVal x_kinds) pIter) (fun d => un2 d fun x_name x_targets => (tBin (eVal x_name) (eVal x_names) oIn)) (fun d => un2 d fun x_name x_targets => (eVal x_name))) fun x_told => mIf (tBin (eVal x_told) (eArgs aNil pLst) (oNe noOwn)) (mExp (eL1 (eVal x_lines) (eStr1 (eVal (.str " ")) (eBin (eArgs (aCons (eVal x_head) aNil) pLst) (eVal x_told) oAdd) pJoin) pApp) (mPart (nx3 ()))) (mPart (nx3 ()))
def w__law_book_text_a2 (T : Tp P K mg) (x_kinds : D) (x_loose : D) (x_others : D) (x_lines : D) (Qx : QX) (Q : QE) (s1 : Unit) : MB := mFor (α := Unit) (iApp (eArgs (aCons (eArgs (aCons (eVal (.str "loose")) (aCons (eVal x_loose) aNil)) pTup) (aCons (eArgs (aCons (eVal (.str "others")) (aCons (eVal x_others) aNil)) pTup) aNil)) pTup) pIter) (w__law_book_text_l3 T x_kinds x_lines Qx Q) () (w__law_book_text_a4 T x_lines Qx Q)
def w__law_book_text_l1 (T : Tp P K mg) (x_lines : D) (Qx : QX) (Q : QE) (d1 : D) (s1 : Unit) (nx1 : (Unit) → MB) (bk1 : (Unit) → MB) : MB := mUn2 d1 fun x_name1 x_targets1 => mExp (eL1 (eVal x_lines) (eStr1 (eVal (.str " ")) (eBin (eArgs (aCons (eVal (.str "kind")) (aCons (eVal x_name1) aNil)) pLst) (eLc (iApp (eVal x_targets1) pIter) (fun x_one => (eIf (tBin (eVal x_one) (eVal .non) oIs) (eVal (.str "no")) (eVal x_one)))) oAdd) pJoin) pApp) (mPart (nx1 ()))
def w__law_book_text (T : Tp P K mg) (x_form : D) (Qx : QX) (Q : QE) : MB := mSet (eVal x_form) fun x_d => mUn4 x_d fun x_some x_kinds x_loose x_others => mSet (eArgs (aCons (eStr1 (eVal (.str " ")) (eBin (eArgs (aCons (eVal (.str "values")) aNil) pLst) (eVal x_some) oAdd) pJoin) aNil) pLstC) fun x_lines => mFor (α := Unit) (iApp (eVal x_kinds) pIter) (w__law_book_text_l1 T x_lines Qx Q) () (w__law_book_text_a2 T x_kinds x_loose x_others x_lines Qx Q)
def fw__law_book_text (T : Tp P K mg) : FS := fun ds C Q Qx => match ds with
  | [x_form] => w__law_book_text T x_form Qx Q C
  | _ => False
theorem ok__law_book_text (T : Tp P K mg) : FnG P w K mg base 1 T.f__law_book_text T.d__law_book_text ["_law_form"] (fw__law_book_text T) := by
  refine fnT T.F__law_book_text sc__law_book_text (fun ds C Q Qx h => ?_) (fun cdv A outer s H E X ds C Q hr h => ?_)
  · unfold fw__law_book_text at h; split at h
    · rfl
    · exact h.elim
  · unfold fw__law_book_text at h; split at h
    rotate_left
    · exact h.elim
    have hN := sc__law_book_text.nd
    have hu := hu_G hr
    have hg := hr.gd
    rename_i x_form
    generalize hQx : (fun cls fs C' => ∀ ρ, X.XQ cls fs ρ C' : QX) = Qx at h
    have hX : ∀ ρ cls fs C, Qx cls fs C → X.XQ cls fs ρ C := by subst hQx; exact fun ρ cls fs C h => h ρ
    clear hQx
    revert h; revert C
    show SB X _ [some x_form, none, none, none, none, none, none, none, none, none, none, none] (w__law_book_text T x_form Qx Q) _
    unfold w__law_book_text
    refine sb_asg (se_var 0 rfl (pv 0)) (fun x_d => ?_)
    refine sg_four (r := fun x_some x_kinds x_loose x_others => [some x_form, some x_some, some x_kinds, some x_loose, some x_others, none, none, none, none, none, none, none]) rfl (fun _ _ _ _ => (gs_cons 1 (pg_name (i := 1) hN rfl (by first | exact .inl rfl | exact .inr rfl)) (gs_cons 2 (pg_name (i := 2) hN rfl (by first | exact .inl rfl | exact .inr rfl)) (gs_cons 3 (pg_name (i := 3) hN rfl (by first | exact .inl rfl | exact .inr rfl)) (gs_cons 4 (pg_name (i := 4) hN rfl (by first | exact .inl rfl | exact .inr rfl)) gs_nil))))) (fun x_some x_kinds x_loose x_others => ?_)
    refine sb_set (r := fun x_lines => [some x_form, some x_some, some x_kinds, some x_loose, some x_others, some x_lines, none, none, none, none, none, none]) 5 hN rfl (by first | exact .inl rfl | exact .inr rfl) (fun _ => rfl) (se_lstC (sa_cons (se_join se_str (se_bin (se_lst (sa_cons se_str sa_nil)) (se_var 1 rfl (pv 1)) oAdd_ok)) sa_nil)) (fun x_lines => ?_)
    refine sb_for (α := Unit) (fun s1 => [some x_form, some x_some, some x_kinds, some x_loose, some x_others, some x_lines, none, none, none, none, none, none]) rfl (si_iter (se_var 2 rfl (pv 2))) (by walk_at "le") (fun d1 s1 nx1 bk1 W V hW1 hV1 => ?_) (fun s1 => ?_)
    · unfold w__law_book_text_l1
      refine sg_two (r := fun x_name1 x_targets1 => [some x_form, some x_some, some x_kinds, some x_loose, some x_others, some x_lines, some x_name1, some x_targets1, none, none, none, none]) rfl (fun _ _ => (gs_cons 6 (pg_name (i := 6) hN rfl (by first | exact .inl rfl | exact .inr rfl)) (gs_cons 7 (pg_name (i := 7) hN rfl (by first | exact .inl rfl | exact .inr rfl)) gs_nil))) (fun x_name1 x_targets1 => ?_)
      refine sb_exp (se_append (se_var 5 rfl (pv 5)) (se_join se_str (se_bin (se_lst (sa_cons se_str (sa_cons (se_var 6 rfl (pv 6)) sa_nil))) (se_lc [("_law_one", 11)] (.one 11) rfl hN (blkOk_by rfl) (fun _ _ _ _ _ => pg_name (i := 11) hN rfl (by first | exact .inl rfl | exact .inr rfl)) (by decide) (si_iter (se_var 7 rfl (pv 7))) (bd_one (r := fun x_one => [some x_form, some x_some, some x_kinds, some x_loose, some x_others, some x_lines, some x_name1, some x_targets1, none, none, none, some x_one]) (fun _ => rfl) (fun x_one _ _ _ _ _ => (se_if (st_cmp (se_var 11 rfl (pv 11)) se_non oIs_ok) se_str (se_var 11 rfl (pv 11)))))) oAdd_ok))) ?_
      refine sb_part ?_
      exact sb_le hW1 (by walk_at "le")
    · unfold w__law_book_text_a2
      refine sb_for (α := Unit) (fun s3 => [some x_form, some x_some, some x_kinds, some x_loose, some x_others, some x_lines, none, none, none, none, none, none]) rfl (si_iter (se_tup (sa_cons (se_tup (sa_cons se_str (sa_cons (se_var 3 rfl (pv 3)) sa_nil))) (sa_cons (se_tup (sa_cons se_str (sa_cons (se_var 4 rfl (pv 4)) sa_nil))) sa_nil)))) (by walk_at "le") (fun d3 s3 nx3 bk3 W V hW3 hV3 => ?_) (fun s3 => ?_)
      · unfold w__law_book_text_l3
        refine sg_two (r := fun x_head x_names => [some x_form, some x_some, some x_kinds, some x_loose, some x_others, some x_lines, none, none, some x_head, some x_names, none, none]) rfl (fun _ _ => (gs_cons 8 (pg_name (i := 8) hN rfl (by first | exact .inl rfl | exact .inr rfl)) (gs_cons 9 (pg_name (i := 9) hN rfl (by first | exact .inl rfl | exact .inr rfl)) gs_nil))) (fun x_head x_names => ?_)
        first | refine sb_setLc1 (r := fun x_told => [some x_form, some x_some, some x_kinds, some x_loose, some x_others, some x_lines, none, none, some x_head, some x_names, some x_told, none]) [("_law_name", 6), ("_law_targets", 7)] (.tup [6, 7]) 10 rfl hN rfl rfl (sw_true rfl rfl rfl rfl) (blkOk_by rfl) (fun _ _ _ _ _ => pg_tup rfl (pgs_cons (pg_name (i := 6) hN rfl (by first | exact .inl rfl | exact .inr rfl)) (pgs_cons (pg_name (i := 7) hN rfl (by first | exact .inl rfl | exact .inr rfl)) pgs_nil))) (by decide) (si_iter (se_var 2 rfl (pv 2))) (bdT_two (r := fun x_name x_targets => [some x_form, some x_some, some x_kinds, some x_loose, some x_others, some x_lines, some x_name, some x_targets, some x_head, some x_names, none, none]) (fun _ _ => rfl) (fun x_name x_targets _ _ _ _ _ => (st_cmp (se_var 6 rfl (pv 6)) (se_var 9 rfl (pv 9)) oIn_ok))) (bd_two (r := fun x_name x_targets => [some x_form, some x_some, some x_kinds, some x_loose, some x_others, some x_lines, some x_name, some x_targets, some x_head, some x_names, none, none]) (fun _ _ => rfl) (fun x_name x_targets _ _ _ _ _ => (se_var 6 rfl (pv 6)))) (fun _ => rfl) (fun x_told => ?_) | refine sb_set (r := fun x_told => [some x_form, some x_some, some x_kinds, some x_loose, some x_others, some x_lines, none, none, some x_head, some x_names, some x_told, none]) 10 hN rfl (by first | exact .inl rfl | exact .inr rfl) (fun _ => rfl) (se_lc1 [("_law_name", 6), ("_law_targets", 7)] (.tup [6, 7]) rfl hN (blkOk_by rfl) (fun _ _ _ _ _ => pg_tup rfl (pgs_cons (pg_name (i := 6) hN rfl (by first | exact .inl rfl | exact .inr rfl)) (pgs_cons (pg_name (i := 7) hN rfl (by first | exact .inl rfl | exact .inr rfl)) pgs_nil))) (by decide) (si_iter (se_var 2 rfl (pv 2))) (bdT_two (r := fun x_name x_targets => [some x_form, some x_some, some x_kinds, some x_loose, some x_others, some x_lines, some x_name, some x_targets, some x_head, some x_names, none, none]) (fun _ _ => rfl) (fun x_name x_targets _ _ _ _ _ => (st_cmp (se_var 6 rfl (pv 6)) (se_var 9 rfl (pv 9)) oIn_ok))) (bd_two (r := fun x_name x_targets => [some x_form, some x_some, some x_kinds, some x_loose, some x_others, some x_lines, some x_name, some x_targets, some x_head, some x_names, none, none]) (fun _ _ => rfl) (fun x_name x_targets _ _ _ _ _ => (se_var 6 rfl (pv 6))))) (fun x_told => ?_)
        refine sb_if (st_cmp (se_var 10 rfl (pv 10)) (se_lst sa_nil) (oNe_ok hu noOwn_ok)) ?_ ?_
        · refine sb_exp (se_append (se_var 5 rfl (pv 5)) (se_join se_str (se_bin (se_lst (sa_cons (se_var 8 rfl (pv 8)) sa_nil)) (se_var 10 rfl (pv 10)) oAdd_ok))) ?_
          refine sb_more ?_
          refine sb_part ?_
          exact sb_le hW3 (by walk_at "le")
        · refine sb_more ?_
          refine sb_part ?_
          exact sb_le hW3 (by walk_at "le")
      · unfold w__law_book_text_a4
        exact sb_ret (se_drop (se_join se_str (se_var 5 rfl (pv 5)))) (fun _ _ h => h)
def w_Book_str_j4 (T : Tp P K mg) (x_lines : D) (Qx : QX) (Q : QE) (j4 : Unit) : MB := mRet (eDrop (eStr1 (eVal (.str "\n")) (eVal x_lines) pJoin)) Q
def w_Book_str_j3 (T : Tp P K mg) (x_self : D) (x_lines : D) (Qx : QX) (Q : QE) (j3 : Unit) : MB := mIf (tBin (eArgs (aCons (eApp (eVal x_self) (pFld K "others")) aNil) (on1 (pLen1 no1))) (eVal (.int 0)) oGt) (mExp (eL1 (eVal x_lines) (eStr1 (eVal (.str " ")) (eArgs (aCons (eVal (.str "others")) (aStar (eApp (eVal x_self) (pFld K "others")) aNil)) pLst) pJoin) pApp) (w_Book_str_j4 T x_lines Qx Q ())) (w_Book_str_j4 T x_lines Qx Q ())
def w_Book_str_a2 (T : Tp P K mg) (x_self : D) (x_lines : D) (Qx : QX) (Q : QE) (s1 : Unit) : MB := mIf (tBin (eArgs (aCons (eApp (eVal x_self) (pFld K "loose")) aNil) (on1 (pLen1 no1))) (eVal (.int 0)) oGt) (mExp (eL1 (eVal x_lines) (eStr1 (eVal (.str " ")) (eArgs (aCons (eVal (.str "loose")) (aStar (eApp (eVal x_self) (pFld K "loose")) aNil)) pLst) pJoin) pApp) (w_Book_str_j3 T x_self x_lines Qx Q ())) (w_Book_str_j3 T x_self x_lines Qx Q ())
def w_Book_str_l1 (T : Tp P K mg) (x_self : D) (x_lines : D) (Qx : QX) (Q : QE) (d1 : D) (s1 : Unit) (nx1 : (Unit) → MB) (bk1 : (Unit) → MB) : MB := mExp (eL1 (eVal x_lines) (eStr1 (eVal (.str " ")) (eArgs (aCons (eVal (.str "kind")) (aCons (eVal d1) (aStar (eLc (iApp (eBin (eApp (eVal x_self) (pFld K "targets")) (eVal d1) pIxD) pIter) (fun x_one => (eOrV (eVal x_one) (eVal (.str "no"))))) aNil))) pLst) pJoin) pApp) (mPart (nx1 ()))
def w_Book_str (T : Tp P K mg) (x_self : D) (Qx : QX) (Q : QE) : MB := mSet (eArgs (aCons (eStr1 (eVal (.str " ")) (eArgs (aCons (eVal (.str "values")) (aStar (eApp (eVal x_self) (pFldW K "choices")) aNil)) pLst) pJoin) aNil) pLstC) fun x_lines => mFor (α := Unit) (iApp (eApp (eVal x_self) (pFld K "kinds")) pIter) (w_Book_str_l1 T x_self x_lines Qx Q) () (w_Book_str_a2 T x_self x_lines Qx Q)
def fw_Book_str (T : Tp P K mg) : FS := fun ds C Q Qx => match ds with
  | [x_self] => w_Book_str T x_self Qx Q C
  | _ => False
theorem ok_Book_str (T : Tp P K mg) : FnG P w K mg base 1 T.f_Book_str T.d_Book_str ["self"] (fw_Book_str T) := by
  refine fnT T.F_Book_str sc_Book_str (fun ds C Q Qx h => ?_) (fun cdv A outer s H E X ds C Q hr h => ?_)
  · unfold fw_Book_str at h; split at h
    · rfl
    · exact h.elim
  · unfold fw_Book_str at h; split at h
    rotate_left
    · exact h.elim
    have hN := sc_Book_str.nd
    have hu := hu_G hr
    have hg := hr.gd
    rename_i x_self
    generalize hQx : (fun cls fs C' => ∀ ρ, X.XQ cls fs ρ C' : QX) = Qx at h
    have hX : ∀ ρ cls fs C, Qx cls fs C → X.XQ cls fs ρ C := by subst hQx; exact fun ρ cls fs C h => h ρ
    clear hQx
    revert h; revert C
    show SB X _ [some x_self, none, none, none] (w_Book_str T x_self Qx Q) _
    unfold w_Book_str
    refine sb_set (r := fun x_lines => [some x_self, some x_lines, none, none]) 1 hN rfl (by first | exact .inl rfl | exact .inr rfl) (fun _ => rfl) (se_lstC (sa_cons (se_join se_str (se_lst (sa_cons se_str (sa_star (se_fldW (se_var 0 rfl (pv 0))) sa_nil)))) sa_nil)) (fun x_lines => ?_)
    refine sb_for (α := Unit) (fun s1 => [some x_self, some x_lines, none, none]) rfl (si_iter (se_fld (se_var 0 rfl (pv 0)))) (by walk_at "le") (fun d1 s1 nx1 bk1 W V hW1 hV1 => ?_) (fun s1 => ?_)
    · unfold w_Book_str_l1
      refine sg_name (r := [some x_self, some x_lines, some d1, none]) 2 rfl ?_ (pg_name (i := 2) hN rfl (by first | exact .inl rfl | exact .inr rfl))
      refine sb_exp (se_append (se_var 1 rfl (pv 1)) (se_join se_str (se_lst (sa_cons se_str (sa_cons (se_var 2 rfl (pv 2)) (sa_star (se_lc [("one", 3)] (.one 3) rfl hN (blkOk_by rfl) (fun _ _ _ _ _ => pg_name (i := 3) hN rfl (by first | exact .inl rfl | exact .inr rfl)) (by decide) (si_iter (se_ixD hu (se_fld (se_var 0 rfl (pv 0))) (se_var 2 rfl (pv 2)))) (bd_one (r := fun x_one => [some x_self, some x_lines, some d1, some x_one]) (fun _ => rfl) (fun x_one _ _ _ _ _ => (se_orV (se_var 3 rfl (pv 3)) (se_one se_str))))) sa_nil)))))) ?_
      refine sb_part ?_
      exact sb_le hW1 (by walk_at "le")
    · unfold w_Book_str_a2
      refine sb_ifJ (α := Unit) (fun j3 => [some x_self, some x_lines, none, none]) (w_Book_str_j3 T x_self x_lines Qx Q) (st_cmp (se_callB (id := "len") rfl T.z_len (by decide +kernel) (sa_cons (se_fld (se_var 0 rfl (pv 0))) sa_nil) (pLen_ok no1_ok)) se_int oGt_ok) (fun j3 => ?_) (fun W hj3 => ?_) (fun W hj3 => ?_)
      · unfold w_Book_str_j3
        refine sb_ifJ (α := Unit) (fun j4 => [some x_self, some x_lines, none, none]) (w_Book_str_j4 T x_lines Qx Q) (st_cmp (se_callB (id := "len") rfl T.z_len (by decide +kernel) (sa_cons (se_fld (se_var 0 rfl (pv 0))) sa_nil) (pLen_ok no1_ok)) se_int oGt_ok) (fun j4 => ?_) (fun W hj4 => ?_) (fun W hj4 => ?_)
        · unfold w_Book_str_j4
          exact sb_ret (se_drop (se_join se_str (se_var 1 rfl (pv 1)))) (fun _ _ h => h)
        · refine sb_exp (se_append (se_var 1 rfl (pv 1)) (se_join se_str (se_lst (sa_cons se_str (sa_star (se_fld (se_var 0 rfl (pv 0))) sa_nil))))) ?_
          exact sb_le hj4 (by walk_at "le")
        · exact sb_le hj4 (by walk_at "le")
      · refine sb_exp (se_append (se_var 1 rfl (pv 1)) (se_join se_str (se_lst (sa_cons se_str (sa_star (se_fld (se_var 0 rfl (pv 0))) sa_nil))))) ?_
        exact sb_le hj3 (by walk_at "le")
      · exact sb_le hj3 (by walk_at "le")
def w_Book_eq (T : Tp P K mg) (x_self x_other : D) (Qx : QX) (Q : QE) : MB := mRet (eAnd (eArgs (aCons (eVal x_other) (aCons (eVal (.raw (.ref T.c_Book))) aNil)) (on2 (pIsI K))) (eBin (eArgs (aCons (eVal x_self) aNil) (on1 (pStr1 (ownStr T.c_Book (fw_Book_str T))))) (eArgs (aCons (eVal x_other) aNil) (on1 (pStr1 (ownStr T.c_Book (fw_Book_str T))))) (oEq noOwn))) Q
def fw_Book_eq (T : Tp P K mg) : FS := fun ds C Q Qx => match ds with
  | [x_self, x_other] => w_Book_eq T x_self x_other Qx Q C
  | _ => False
theorem ok_Book_eq (T : Tp P K mg) : FnG P w K mg base 4 T.f_Book_eq T.d_Book_eq ["self", "other"] (fw_Book_eq T) := by
  refine fnT T.F_Book_eq sc_Book_eq (fun ds C Q Qx h => ?_) (fun cdv A outer s H E X ds C Q hr h => ?_)
  · unfold fw_Book_eq at h; split at h
    · rfl
    · exact h.elim
  · unfold fw_Book_eq at h; split at h
    rotate_left
    · exact h.elim
    have hN := sc_Book_eq.nd
    have hu := hu_G hr
    have hg := hr.gd
    rename_i x_self x_other
    generalize hQx : (fun cls fs C' => ∀ ρ, X.XQ cls fs ρ C' : QX) = Qx at h
    have hX : ∀ ρ cls fs C, Qx cls fs C → X.XQ cls fs ρ C := by subst hQx; exact fun ρ cls fs C h => h ρ
    clear hQx
    revert h; revert C
    show SB X _ [some x_self, some x_other] (w_Book_eq T x_self x_other Qx Q) _
    unfold w_Book_eq
    exact sb_ret (se_and (se_callB (id := "isinstance") rfl T.z_isinstance (by decide +kernel) (sa_cons (se_var 1 rfl (pv 1)) (sa_cons (se_glob (d := .raw (.ref T.c_Book)) (pe_glob (v := .ref T.c_Book) rfl T.g_Book rfl) (fun _ => rfl)) sa_nil)) pIsI_ok) (se_one (se_cmp (se_callTy (id := "str") rfl T.z_str (by decide +kernel) (sa_cons (se_var 0 rfl (pv 0)) sa_nil) (pStr_ok (ownStr_ok T.m_Book_str T.n_Book_str (ok_Book_str T) (hr.mono (by omega)) T.b_Book_str))) (se_callTy (id := "str") rfl T.z_str (by decide +kernel) (sa_cons (se_var 1 rfl (pv 1)) sa_nil) (pStr_ok (ownStr_ok T.m_Book_str T.n_Book_str (ok_Book_str T) (hr.mono (by omega)) T.b_Book_str))) (oEq_ok hu noOwn_ok)))) (fun _ _ h => h)
def w_Book_need_kind (T : Tp P K mg) (x_self x_kind : D) (Qx : QX) (Q : QE) : MB := mIf (tOr (tNot (tVal (eArgs (aCons (eVal x_kind) aNil) fun ds => callW (fw_is_name T) Qx (ds ++ [])))) (tBin (eVal x_kind) (eApp (eVal x_self) (pFld K "kinds")) oNotIn)) (mRaise (eVal x_kind) T.c_NoKind "name" Qx) (mRet (eVal .non) Q)
def fw_Book_need_kind (T : Tp P K mg) : FS := fun ds C Q Qx => match ds with
  | [x_self, x_kind] => w_Book_need_kind T x_self x_kind Qx Q C
  | _ => False
theorem ok_Book_need_kind (T : Tp P K mg) : FnG P w K mg base 2 T.f_Book_need_kind T.d_Book_need_kind ["self", "kind"] (fw_Book_need_kind T) := by
  refine fnT T.F_Book_need_kind sc_Book_need_kind (fun ds C Q Qx h => ?_) (fun cdv A outer s H E X ds C Q hr h => ?_)
  · unfold fw_Book_need_kind at h; split at h
    · rfl
    · exact h.elim
  · unfold fw_Book_need_kind at h; split at h
    rotate_left
    · exact h.elim
    have hN := sc_Book_need_kind.nd
    have hu := hu_G hr
    have hg := hr.gd
    rename_i x_self x_kind
    generalize hQx : (fun cls fs C' => ∀ ρ, X.XQ cls fs ρ C' : QX) = Qx at h
    have hX : ∀ ρ cls fs C, Qx cls fs C → X.XQ cls fs ρ C := by subst hQx; exact fun ρ cls fs C h => h ρ
    clear hQx
    revert h; revert C
    show SB X _ [some x_self, some x_kind] (w_Book_need_kind T x_self x_kind Qx Q) _
    unfold w_Book_need_kind
    refine sb_if (st_p (sp_or (st_not (st_val (se_call (dds := []) (ok_is_name T) (hr.mono (by omega)) rfl T.g_is_name T.F_is_name.kp T.b_is_name .nil (fun _ => Reps.nil) (hX _) (sa_cons (se_var 1 rfl (pv 1)) sa_nil)))) (sp_or1 (st_cmp (se_var 1 rfl (pv 1)) (se_fld (se_var 0 rfl (pv 0))) oNotIn_ok)))) ?_ ?_
    · exact sb_raise (k := 0) T.x_NoKind (hr.mono (by omega)) rfl T.g_NoKind (se_var 1 rfl (pv 1)) (hX _)
    · refine sb_more ?_
      exact sb_nil (fun _ h => h)
def w_Book_without (T : Tp P K mg) (x_self x_kind : D) (Qx : QX) (Q : QE) : MB := mExp (eMeth (eVal x_self) (aCons (eVal x_kind) aNil) T.c_Book "need_kind" (fw_Book_need_kind T) Qx []) (mSet (eLc1 (iApp (eApp (eVal x_self) (pFld K "kinds")) pIter) (fun x_name => (tBin (eVal x_name) (eVal x_kind) (oNe noOwn))) (fun x_name => (eArgs (aCons (eVal x_name) (aCons (eBin (eApp (eVal x_self) (pFld K "targets")) (eVal x_name) pIxD) aNil)) pTup))) fun x_kinds => mSet (eLc1 (iApp (eApp (eVal x_self) (pFld K "loose")) pIter) (fun x_name1 => (tBin (eVal x_name1) (eVal x_kind) (oNe noOwn))) (fun x_name1 => (eVal x_name1))) fun x_loose => mRet (eArgs (aCons (eApp (eVal x_self) (pFld K "choices")) (aCons (eVal x_kinds) (aCons (eVal x_loose) (aCons (eLc1 (iApp (eApp (eVal x_self) (pFld K "others")) pIter) (fun x_name2 => (tBin (eVal x_name2) (eVal x_kind) (oNe noOwn))) (fun x_name2 => (eVal x_name2))) aNil)))) fun ds => pMkF (fw_Book_init T) Qx T.c_Book (ds ++ [])) Q)
def fw_Book_without (T : Tp P K mg) : FS := fun ds C Q Qx => match ds with
  | [x_self, x_kind] => w_Book_without T x_self x_kind Qx Q C
  | _ => False
theorem ok_Book_without (T : Tp P K mg) : FnG P w K mg base 6 T.f_Book_without T.d_Book_without ["self", "kind"] (fw_Book_without T) := by
  refine fnT T.F_Book_without sc_Book_without (fun ds C Q Qx h => ?_) (fun cdv A outer s H E X ds C Q hr h => ?_)
  · unfold fw_Book_without at h; split at h
    · rfl
    · exact h.elim
  · unfold fw_Book_without at h; split at h
    rotate_left
    · exact h.elim
    have hN := sc_Book_without.nd
    have hu := hu_G hr
    have hg := hr.gd
    rename_i x_self x_kind
    generalize hQx : (fun cls fs C' => ∀ ρ, X.XQ cls fs ρ C' : QX) = Qx at h
    have hX : ∀ ρ cls fs C, Qx cls fs C → X.XQ cls fs ρ C := by subst hQx; exact fun ρ cls fs C h => h ρ
    clear hQx
    revert h; revert C
    show SB X _ [some x_self, some x_kind, none, none, none] (w_Book_without T x_self x_kind Qx Q) _
    unfold w_Book_without
    refine sb_exp (se_meth (dds := []) T.i_Book.c T.m_Book_need_kind (ok_Book_need_kind T) (hr.mono (by omega)) T.b_Book_need_kind .nil (fun _ => Reps.nil) (hX _) (se_var 0 rfl (pv 0)) (sa_cons (se_var 1 rfl (pv 1)) sa_nil)) ?_
    first | refine sb_setLc1 (r := fun x_kinds => [some x_self, some x_kind, some x_kinds, none, none]) [("name", 4)] (.one 4) 2 rfl hN rfl rfl (sw_true rfl rfl rfl rfl) (blkOk_by rfl) (fun _ _ _ _ _ => pg_name (i := 4) hN rfl (by first | exact .inl rfl | exact .inr rfl)) (by decide) (si_iter (se_fld (se_var 0 rfl (pv 0)))) (bdT_one (r := fun x_name => [some x_self, some x_kind, none, none, some x_name]) (fun _ => rfl) (fun x_name _ _ _ _ _ => (st_cmp (se_var 4 rfl (pv 4)) (se_var 1 rfl (pv 1)) (oNe_ok hu noOwn_ok)))) (bd_one (r := fun x_name => [some x_self, some x_kind, none, none, some x_name]) (fun _ => rfl) (fun x_name _ _ _ _ _ => (se_tup (sa_cons (se_var 4 rfl (pv 4)) (sa_cons (se_ixD hu (se_fld (se_var 0 rfl (pv 0))) (se_var 4 rfl (pv 4))) sa_nil))))) (fun _ => rfl) (fun x_kinds => ?_) | refine sb_set (r := fun x_kinds => [some x_self, some x_kind, some x_kinds, none, none]) 2 hN rfl (by first | exact .inl rfl | exact .inr rfl) (fun _ => rfl) (se_lc1 [("name", 4)] (.one 4) rfl hN (blkOk_by rfl) (fun _ _ _ _ _ => pg_name (i := 4) hN rfl (by first | exact .inl rfl | exact .inr rfl)) (by decide) (si_iter (se_fld (se_var 0 rfl (pv 0)))) (bdT_one (r := fun x_name => [some x_self, some x_kind, none, none, some x_name]) (fun _ => rfl) (fun x_name _ _ _ _ _ => (st_cmp (se_var 4 rfl (pv 4)) (se_var 1 rfl (pv 1)) (oNe_ok hu noOwn_ok)))) (bd_one (r := fun x_name => [some x_self, some x_kind, none, none, some x_name]) (fun _ => rfl) (fun x_name _ _ _ _ _ => (se_tup (sa_cons (se_var 4 rfl (pv 4)) (sa_cons (se_ixD hu (se_fld (se_var 0 rfl (pv 0))) (se_var 4 rfl (pv 4))) sa_nil)))))) (fun x_kinds => ?_)
    first | refine sb_setLc1 (r := fun x_loose => [some x_self, some x_kind, some x_kinds, some x_loose, none]) [("name", 4)] (.one 4) 3 rfl hN rfl rfl (sw_true rfl rfl rfl rfl) (blkOk_by rfl) (fun _ _ _ _ _ => pg_name (i := 4) hN rfl (by first | exact .inl rfl | exact .inr rfl)) (by decide) (si_iter (se_fld (se_var 0 rfl (pv 0)))) (bdT_one (r := fun x_name1 => [some x_self, some x_kind, some x_kinds, none, some x_name1]) (fun _ => rfl) (fun x_name1 _ _ _ _ _ => (st_cmp (se_var 4 rfl (pv 4)) (se_var 1 rfl (pv 1)) (oNe_ok hu noOwn_ok)))) (bd_one (r := fun x_name1 => [some x_self, some x_kind, some x_kinds, none, some x_name1]) (fun _ => rfl) (fun x_name1 _ _ _ _ _ => (se_var 4 rfl (pv 4)))) (fun _ => rfl) (fun x_loose => ?_) | refine sb_set (r := fun x_loose => [some x_self, some x_kind, some x_kinds, some x_loose, none]) 3 hN rfl (by first | exact .inl rfl | exact .inr rfl) (fun _ => rfl) (se_lc1 [("name", 4)] (.one 4) rfl hN (blkOk_by rfl) (fun _ _ _ _ _ => pg_name (i := 4) hN rfl (by first | exact .inl rfl | exact .inr rfl)) (by decide) (si_iter (se_fld (se_var 0 rfl (pv 0)))) (bdT_one (r := fun x_name1 => [some x_self, some x_kind, some x_kinds, none, some x_name1]) (fun _ => rfl) (fun x_name1 _ _ _ _ _ => (st_cmp (se_var 4 rfl (pv 4)) (se_var 1 rfl (pv 1)) (oNe_ok hu noOwn_ok)))) (bd_one (r := fun x_name1 => [some x_self, some x_kind, some x_kinds, none, some x_name1]) (fun _ => rfl) (fun x_name1 _ _ _ _ _ => (se_var 4 rfl (pv 4))))) (fun x_loose => ?_)
    exact sb_ret (se_mkF (se_make (dds := []) T.mk_Book (ok_Book_init T) (hr.mono (by omega)) rfl T.g_Book T.b_Book_init .nil (fun _ => Reps.nil) (hX _) (sa_cons (se_fld (se_var 0 rfl (pv 0))) (sa_cons (se_var 2 rfl (pv 2)) (sa_cons (se_var 3 rfl (pv 3)) (sa_cons (se_lc1 [("name", 4)] (.one 4) rfl hN (blkOk_by rfl) (fun _ _ _ _ _ => pg_name (i := 4) hN rfl (by first | exact .inl rfl | exact .inr rfl)) (by decide) (si_iter (se_fld (se_var 0 rfl (pv 0)))) (bdT_one (r := fun x_name2 => [some x_self, some x_kind, some x_kinds, some x_loose, some x_name2]) (fun _ => rfl) (fun x_name2 _ _ _ _ _ => (st_cmp (se_var 4 rfl (pv 4)) (se_var 1 rfl (pv 1)) (oNe_ok hu noOwn_ok)))) (bd_one (r := fun x_name2 => [some x_self, some x_kind, some x_kinds, some x_loose, some x_name2]) (fun _ => rfl) (fun x_name2 _ _ _ _ _ => (se_var 4 rfl (pv 4))))) sa_nil)))))) (fun _ _ h => h)
def w_Book_target (T : Tp P K mg) (x_self x_kind x_value : D) (Qx : QX) (Q : QE) : MB := mExp (eMeth (eVal x_self) (aCons (eVal x_kind) aNil) T.c_Book "need_kind" (fw_Book_need_kind T) Qx []) (mIf (tOr (tNot (tVal (eArgs (aCons (eVal x_value) aNil) fun ds => callW (fw_is_name T) Qx (ds ++ [])))) (tBin (eVal x_value) (eApp (eVal x_self) (pFldW K "choices")) oNotIn)) (mRaise (eVal x_value) T.c_NoKind "name" Qx) (mRet (eBin (eBin (eApp (eVal x_self) (pFld K "targets")) (eVal x_kind) pIxD) (eT1 (eApp (eVal x_self) (pFld K "choices")) (eVal x_value) pIndexT) pIx) Q))
def fw_Book_target (T : Tp P K mg) : FS := fun ds C Q Qx => match ds with
  | [x_self, x_kind, x_value] => w_Book_target T x_self x_kind x_value Qx Q C
  | _ => False
theorem ok_Book_target (T : Tp P K mg) : FnG P w K mg base 3 T.f_Book_target T.d_Book_target ["self", "kind", "value"] (fw_Book_target T) := by
  refine fnT T.F_Book_target sc_Book_target (fun ds C Q Qx h => ?_) (fun cdv A outer s H E X ds C Q hr h => ?_)
  · unfold fw_Book_target at h; split at h
    · rfl
    · exact h.elim
  · unfold fw_Book_target at h; split at h
    rotate_left
    · exact h.elim
    have hN := sc_Book_target.nd
    have hu := hu_G hr
    have hg := hr.gd
    rename_i x_self x_kind x_value
    generalize hQx : (fun cls fs C' => ∀ ρ, X.XQ cls fs ρ C' : QX) = Qx at h
    have hX : ∀ ρ cls fs C, Qx cls fs C → X.XQ cls fs ρ C := by subst hQx; exact fun ρ cls fs C h => h ρ
    clear hQx
    revert h; revert C
    show SB X _ [some x_self, some x_kind, some x_value] (w_Book_target T x_self x_kind x_value Qx Q) _
    unfold w_Book_target
    refine sb_exp (se_meth (dds := []) T.i_Book.c T.m_Book_need_kind (ok_Book_need_kind T) (hr.mono (by omega)) T.b_Book_need_kind .nil (fun _ => Reps.nil) (hX _) (se_var 0 rfl (pv 0)) (sa_cons (se_var 1 rfl (pv 1)) sa_nil)) ?_
    refine sb_if (st_p (sp_or (st_not (st_val (se_call (dds := []) (ok_is_name T) (hr.mono (by omega)) rfl T.g_is_name T.F_is_name.kp T.b_is_name .nil (fun _ => Reps.nil) (hX _) (sa_cons (se_var 2 rfl (pv 2)) sa_nil)))) (sp_or1 (st_cmp (se_var 2 rfl (pv 2)) (se_fldW (se_var 0 rfl (pv 0))) oNotIn_ok)))) ?_ ?_
    · exact sb_raise (k := 0) T.x_NoKind (hr.mono (by omega)) rfl T.g_NoKind (se_var 2 rfl (pv 2)) (hX _)
    · refine sb_more ?_
      exact sb_ret (se_ix (se_ixD hu (se_fld (se_var 0 rfl (pv 0))) (se_var 1 rfl (pv 1))) (se_indexT (se_fld (se_var 0 rfl (pv 0))) (se_var 2 rfl (pv 2)))) (fun _ _ h => h)
def w_law_a2 (T : Tp P K mg)  (Qx : QX) (Q : QE) (s1 : Unit) : MB := mRet (eVal (.bl true)) Q
def w_law_a4 (T : Tp P K mg) (nx1 : (Unit) → MB) (Qx : QX) (Q : QE) (s3 : Unit) : MB := mPart (nx1 ())
def w_law_a6 (T : Tp P K mg) (x_form : D) (x_led_here : D) (x_one : D) (x_made : D) (x_name : D) (nx3 : (Unit) → MB) (Qx : QX) (Q : QE) (s5 : Unit) : MB := mSet (eArgs (aCons (eArgs (aCons (eBin (eVal x_form) (eVal (.int 0)) pIx) (aCons (eLc1 (iApp (eBin (eVal x_form) (eVal (.int 1)) pIx) pIter) (fun x_pair => (tBin (eBin (eVal x_pair) (eVal (.int 0)) pIx) (eVal x_name) (oNe (ownB K T.c_Book (fw_Book_eq T) true)))) (fun x_pair => (eVal x_pair))) (aCons (eArgs aNil pLst) (aCons (eArgs aNil pLst) aNil)))) pTup) (aCons (eVal x_led_here) aNil)) fun ds => callW (fw__law_led T) Qx (ds ++ [])) fun x_less => mSet (eMeth (eVal x_made) (aCons (eBin (eVal x_led_here) (eVal x_name) pIxD) aNil) T.c_Book "without" (fw_Book_without T) Qx []) fun x_bare => mIf (tBin (eArgs (aCons (eBin (eVal x_less) (eVal (.int 0)) pIx) (aCons (eBin (eVal x_less) (eVal (.int 1)) pIx) (aCons (eApp (eVal x_bare) (pFld K "loose")) (aCons (eApp (eVal x_bare) (pFld K "others")) aNil)))) fun ds => pMkF (fw_Book_init T) Qx T.c_Book (ds ++ [])) (eVal x_bare) (oNe (ownB K T.c_Book (fw_Book_eq T) true))) (mRet (eVal (.bl false)) Q) (mIf (tBin (eLc (iApp (eApp (eMeth (eVal x_one) (aCons (eVal x_name) aNil) T.c_Book "without" (fw_Book_without T) Qx []) (pFld K "kinds")) pIter) (fun x_kind => (eBin (eVal x_led_here) (eVal x_kind) pIxD))) (eArgs (aCons (eApp (eVal x_bare) (pFld K "kinds")) aNil) (on1 pList1)) (oNe (ownB K T.c_Book (fw_Book_eq T) true))) (mRet (eVal (.bl false)) Q) (mPart (nx3 ())))
def w_law_l5 (T : Tp P K mg) (x_led_here : D) (x_one : D) (x_made : D) (x_name : D) (Qx : QX) (Q : QE) (d5 : D) (s5 : Unit) (nx5 : (Unit) → MB) (bk5 : (Unit) → MB) : MB := mSet (eMeth (eVal x_one) (aCons (eVal x_name) (aCons (eVal d5) aNil)) T.c_Book "target" (fw_Book_target T) Qx []) fun x_target => mIf (tBin (eMeth (eVal x_made) (aCons (eBin (eVal x_led_here) (eVal x_name) pIxD) (aCons (eBin (eVal x_led_here) (eVal d5) pIxD) aNil)) T.c_Book "target" (fw_Book_target T) Qx []) (eIf (tBin (eVal x_target) (eVal .non) oIs) (eVal .non) (eBin (eVal x_led_here) (eVal x_target) pIxD)) (oNe (ownB K T.c_Book (fw_Book_eq T) true))) (mRet (eVal (.bl false)) Q) (mPart (nx5 ()))
def w_law_l3 (T : Tp P K mg) (x_form : D) (x_led_here : D) (x_one : D) (x_made : D) (Qx : QX) (Q : QE) (d3 : D) (s3 : Unit) (nx3 : (Unit) → MB) (bk3 : (Unit) → MB) : MB := mUn2 d3 fun x_name x_targets => mFor (α := Unit) (iApp (eBin (eVal x_form) (eVal (.int 0)) pIx) pIter) (w_law_l5 T x_led_here x_one x_made x_name Qx Q) () (w_law_a6 T x_form x_led_here x_one x_made x_name nx3 Qx Q)
def w_law_l1 (T : Tp P K mg) (x_deal_here : D) (x_words_here1 : D) (x_fresh : D) (Qx : QX) (Q : QE) (d1 : D) (s1 : Unit) (nx1 : (Unit) → MB) (bk1 : (Unit) → MB) : MB := mSet (eArgs (aCons (eArgs (aCons (eVal x_deal_here) (aCons (eVal (.int 4)) aNil)) fun ds => callW (fw__law_book T) Qx (ds ++ [])) (aCons (eDicZip (eVal x_words_here1) (eArgs (aCons (eVal x_deal_here) (aCons (eVal x_fresh) aNil)) fun ds => callW (fw__law_mixed T) Qx (ds ++ []))) aNil)) pTup) fun x_d => mUn2 x_d fun x_form x_led_here => mSet (eArgs (aCons (eBin (eVal x_form) (eVal (.int 0)) pIx) (aCons (eBin (eVal x_form) (eVal (.int 1)) pIx) (aCons (eBin (eVal x_form) (eVal (.int 2)) pIx) (aCons (eBin (eVal x_form) (eVal (.int 3)) pIx) aNil)))) fun ds => pMkF (fw_Book_init T) Qx T.c_Book (ds ++ [])) fun x_one => mSet (eArgs (aCons (eVal x_form) (aCons (eVal x_led_here) aNil)) fun ds => callW (fw__law_led T) Qx (ds ++ [])) fun x_other => mSet (eArgs (aCons (eBin (eVal x_other) (eVal (.int 0)) pIx) (aCons (eBin (eVal x_other) (eVal (.int 1)) pIx) (aCons (eBin (eVal x_other) (eVal (.int 2)) pIx) (aCons (eBin (eVal x_other) (eVal (.int 3)) pIx) aNil)))) fun ds => pMkF (fw_Book_init T) Qx T.c_Book (ds ++ [])) fun x_made => mIf (tOr (tBin (eArgs (aCons (eArgs (aCons (eVal x_other) aNil) fun ds => callW (fw__law_book_text T) Qx (ds ++ [])) aNil) fun ds => callW (fw_Book_read T) Qx (.raw (.ref T.c_Book) :: (ds ++ []))) (eVal x_made) (oNe (ownB K T.c_Book (fw_Book_eq T) true))) (tOr (tBin (eVal x_made) (eVal x_one) (oEq (ownB K T.c_Book (fw_Book_eq T) false))) (tBin (eArgs (aCons (eVal x_made) aNil) (on1 (pStr1 (ownStr T.c_Book (fw_Book_str T))))) (eArgs (aCons (eVal x_other) aNil) fun ds => callW (fw__law_book_text T) Qx (ds ++ [])) (oNe (ownB K T.c_Book (fw_Book_eq T) true))))) (mRet (eVal (.bl false)) Q) (mFor (α := Unit) (iApp (eBin (eVal x_form) (eVal (.int 1)) pIx) pIter) (w_law_l3 T x_form x_led_here x_one x_made Qx Q) () (w_law_a4 T nx1 Qx Q))
def w_law (T : Tp P K mg) (x_script : D) (Qx : QX) (Q : QE) : MB := mSet (eArgs (aCons (eVal x_script) (aCons (eVal (.int 0)) aNil)) fun ds => callW (fw__law_deal T) Qx (ds ++ [])) fun x_deal_here => mSet (eArgs (aCons (eVal (.str "on")) (aCons (eVal (.str "off")) (aCons (eVal (.str "a")) (aCons (eVal (.str "b")) (aCons (eVal (.str "like")) (aCons (eVal (.str "zzzz")) (aCons (eVal (.str "list")) (aCons (eVal (.str "old")) (aCons (eVal (.str "all")) (aCons (eVal (.str "open")) (aCons (eVal (.str "take")) (aCons (eVal (.str "drop")) (aCons (eVal (.str "kind")) (aCons (eVal (.str "abc")) aNil)))))))))))))) pLst) fun x_words_here => mSet (eBin (eVal x_words_here) (eArgs (aCons (eVal (.str "xyz")) (aCons (eVal (.str "mv")) (aCons (eVal (.str "gh")) (aCons (eVal (.str "w")) (aCons (eVal (.str "tri")) (aCons (eVal (.str "nu")) (aCons (eVal (.str "pqrs")) (aCons (eVal (.str "ej")) aNil)))))))) pLst) oAdd) fun x_words_here1 => mSet (eLc (iApp (eVal x_words_here1) pIter) (fun x_word => (eIf (tBin (eArgs (aCons (eVal x_word) aNil) (on1 (pLen1 no1))) (eVal (.int 4)) oLt) (eBin (eVal x_word) (eVal (.str "q")) oAdd) (eBin (eVal (.str "q")) (eSl (eVal x_word) (oSome (eVal (.int 1))) oNone) oAdd)))) fun x_fresh => mFor (α := Unit) (iApp (eVal (.int 4)) pRange1) (w_law_l1 T x_deal_here x_words_here1 x_fresh Qx Q) () (w_law_a2 T Qx Q)
def fw_law (T : Tp P K mg) : FS := fun ds C Q Qx => match ds with
  | [x_script] => w_law T x_script Qx Q C
  | _ => False
theorem ok_law (T : Tp P K mg) : FnG P w K mg base 7 T.f_law T.d_law ["_law_script"] (fw_law T) := by
  refine fnT T.F_law sc_law (fun ds C Q Qx h => ?_) (fun cdv A outer s H E X ds C Q hr h => ?_)
  · unfold fw_law at h; split at h
    · rfl
    · exact h.elim
  · unfold fw_law at h; split at h
    rotate_left
    · exact h.elim
    have hN := sc_law.nd
    have hu := hu_G hr
    have hg := hr.gd
    rename_i x_script
    generalize hQx : (fun cls fs C' => ∀ ρ, X.XQ cls fs ρ C' : QX) = Qx at h
    have hX : ∀ ρ cls fs C, Qx cls fs C → X.XQ cls fs ρ C := by subst hQx; exact fun ρ cls fs C h => h ρ
    clear hQx
    revert h; revert C
    show SB X _ [some x_script, none, none, none, none, none, none, none, none, none, none, none, none, none, none, none, none, none, none] (w_law T x_script Qx Q) _
    unfold w_law
    refine sb_set (r := fun x_deal_here => [some x_script, some x_deal_here, none, none, none, none, none, none, none, none, none, none, none, none, none, none, none, none, none]) 1 hN rfl (by first | exact .inl rfl | exact .inr rfl) (fun _ => rfl) (se_call (dds := []) (ok__law_deal T) (hr.mono (by omega)) rfl T.g__law_deal T.F__law_deal.kp T.b__law_deal .nil (fun _ => Reps.nil) (hX _) (sa_cons (se_var 0 rfl (pv 0)) (sa_cons se_int sa_nil))) (fun x_deal_here => ?_)
    refine sb_set (r := fun x_words_here => [some x_script, some x_deal_here, some x_words_here, none, none, none, none, none, none, none, none, none, none, none, none, none, none, none, none]) 2 hN rfl (by first | exact .inl rfl | exact .inr rfl) (fun _ => rfl) (se_lst (sa_cons se_str (sa_cons se_str (sa_cons se_str (sa_cons se_str (sa_cons se_str (sa_cons se_str (sa_cons se_str (sa_cons se_str (sa_cons se_str (sa_cons se_str (sa_cons se_str (sa_cons se_str (sa_cons se_str (sa_cons se_str sa_nil))))))))))))))) (fun x_words_here => ?_)
    refine sb_set (r := fun x_words_here1 => [some x_script, some x_deal_here, some x_words_here1, none, none, none, none, none, none, none, none, none, none, none, none, none, none, none, none]) 2 hN rfl (by first | exact .inl rfl | exact .inr rfl) (fun _ => rfl) (se_bin (se_var 2 rfl (pv 2)) (se_lst (sa_cons se_str (sa_cons se_str (sa_cons se_str (sa_cons se_str (sa_cons se_str (sa_cons se_str (sa_cons se_str (sa_cons se_str sa_nil))))))))) oAdd_ok) (fun x_words_here1 => ?_)
    first | refine sb_setLc (r := fun x_fresh => [some x_script, some x_deal_here, some x_words_here1, some x_fresh, none, none, none, none, none, none, none, none, none, none, none, none, none, none, none]) [("_law_word", 16)] (.one 16) 3 rfl hN rfl rfl (sw_true rfl rfl rfl rfl) (blkOk_by rfl) (fun _ _ _ _ _ => pg_name (i := 16) hN rfl (by first | exact .inl rfl | exact .inr rfl)) (by decide) (si_iter (se_var 2 rfl (pv 2))) (bd_one (r := fun x_word => [some x_script, some x_deal_here, some x_words_here1, none, none, none, none, none, none, none, none, none, none, none, none, none, some x_word, none, none]) (fun _ => rfl) (fun x_word _ _ _ _ _ => (se_if (st_cmp (se_callB (id := "len") rfl T.z_len (by decide +kernel) (sa_cons (se_var 16 rfl (pv 16)) sa_nil) (pLen_ok no1_ok)) se_int oLt_ok) (se_bin (se_var 16 rfl (pv 16)) se_str oAdd_ok) (se_bin se_str (se_slice (se_var 16 rfl (pv 16)) (so_some se_int) so_none) oAdd_ok)))) (fun _ => rfl) (fun x_fresh => ?_) | refine sb_set (r := fun x_fresh => [some x_script, some x_deal_here, some x_words_here1, some x_fresh, none, none, none, none, none, none, none, none, none, none, none, none, none, none, none]) 3 hN rfl (by first | exact .inl rfl | exact .inr rfl) (fun _ => rfl) (se_lc [("_law_word", 16)] (.one 16) rfl hN (blkOk_by rfl) (fun _ _ _ _ _ => pg_name (i := 16) hN rfl (by first | exact .inl rfl | exact .inr rfl)) (by decide) (si_iter (se_var 2 rfl (pv 2))) (bd_one (r := fun x_word => [some x_script, some x_deal_here, some x_words_here1, none, none, none, none, none, none, none, none, none, none, none, none, none, some x_word, none, none]) (fun _ => rfl) (fun x_word _ _ _ _ _ => (se_if (st_cmp (se_callB (id := "len") rfl T.z_len (by decide +kernel) (sa_cons (se_var 16 rfl (pv 16)) sa_nil) (pLen_ok no1_ok)) se_int oLt_ok) (se_bin (se_var 16 rfl (pv 16)) se_str oAdd_ok) (se_bin se_str (se_slice (se_var 16 rfl (pv 16)) (so_some se_int) so_none) oAdd_ok))))) (fun x_fresh => ?_)
    refine sb_for (α := Unit) (fun s1 => [some x_script, some x_deal_here, some x_words_here1, some x_fresh, none, none, none, none, none, none, none, none, none, none, none, none, none, none, none]) rfl (si_range1 rfl T.z_range se_int) (by walk_at "le") (fun d1 s1 nx1 bk1 W V hW1 hV1 => ?_) (fun s1 => ?_)
    · unfold w_law_l1
      refine sg_name (r := [some x_script, some x_deal_here, some x_words_here1, some x_fresh, some d1, none, none, none, none, none, none, none, none, none, none, none, none, none, none]) 4 rfl ?_ (pg_name (i := 4) hN rfl (by first | exact .inl rfl | exact .inr rfl))
      refine sb_asg (se_tup (sa_cons (se_call (dds := []) (ok__law_book T) (hr.mono (by omega)) rfl T.g__law_book T.F__law_book.kp T.b__law_book .nil (fun _ => Reps.nil) (hX _) (sa_cons (se_var 1 rfl (pv 1)) (sa_cons se_int sa_nil))) (sa_cons (se_dicZip rfl T.z_dict rfl T.z_list rfl T.z_zip (se_var 2 rfl (pv 2)) (se_call (dds := []) (ok__law_mixed T) (hr.mono (by omega)) rfl T.g__law_mixed T.F__law_mixed.kp T.b__law_mixed .nil (fun _ => Reps.nil) (hX _) (sa_cons (se_var 1 rfl (pv 1)) (sa_cons (se_var 3 rfl (pv 3)) sa_nil)))) sa_nil))) (fun x_d => ?_)
      refine sg_two (r := fun x_form x_led_here => [some x_script, some x_deal_here, some x_words_here1, some x_fresh, some d1, some x_form, some x_led_here, none, none, none, none, none, none, none, none, none, none, none, none]) rfl (fun _ _ => (gs_cons 5 (pg_name (i := 5) hN rfl (by first | exact .inl rfl | exact .inr rfl)) (gs_cons 6 (pg_name (i := 6) hN rfl (by first | exact .inl rfl | exact .inr rfl)) gs_nil))) (fun x_form x_led_here => ?_)
      refine sb_par (r := fun x_one x_other => [some x_script, some x_deal_here, some x_words_here1, some x_fresh, some d1, some x_form, some x_led_here, some x_one, some x_other, none, none, none, none, none, none, none, none, none, none]) 7 8 hN rfl rfl (by decide) rfl rfl rfl (se_mkF (se_make (dds := []) T.mk_Book (ok_Book_init T) (hr.mono (by omega)) rfl T.g_Book T.b_Book_init .nil (fun _ => Reps.nil) (hX _) (sa_cons (se_ix (se_var 5 rfl (pv 5)) se_int) (sa_cons (se_ix (se_var 5 rfl (pv 5)) se_int) (sa_cons (se_ix (se_var 5 rfl (pv 5)) se_int) (sa_cons (se_ix (se_var 5 rfl (pv 5)) se_int) sa_nil)))))) (se_call (dds := []) (ok__law_led T) (hr.mono (by omega)) rfl T.g__law_led T.F__law_led.kp T.b__law_led .nil (fun _ => Reps.nil) (hX _) (sa_cons (se_var 5 rfl (pv 5)) (sa_cons (se_var 6 rfl (pv 6)) sa_nil))) (fun _ _ => rfl) (fun x_one x_other => ?_)
      refine sb_set (r := fun x_made => [some x_script, some x_deal_here, some x_words_here1, some x_fresh, some d1, some x_form, some x_led_here, some x_one, some x_other, some x_made, none, none, none, none, none, none, none, none, none]) 9 hN rfl (by first | exact .inl rfl | exact .inr rfl) (fun _ => rfl) (se_mkF (se_make (dds := []) T.mk_Book (ok_Book_init T) (hr.mono (by omega)) rfl T.g_Book T.b_Book_init .nil (fun _ => Reps.nil) (hX _) (sa_cons (se_ix (se_var 8 rfl (pv 8)) se_int) (sa_cons (se_ix (se_var 8 rfl (pv 8)) se_int) (sa_cons (se_ix (se_var 8 rfl (pv 8)) se_int) (sa_cons (se_ix (se_var 8 rfl (pv 8)) se_int) sa_nil)))))) (fun x_made => ?_)
      refine sb_if (st_p (sp_or (st_cmp (se_cmeth (dds := []) T.m_Book_read (ok_Book_read T) (hr.mono (by omega)) T.b_Book_read .nil (fun _ => Reps.nil) (hX _) (se_glob (d := .raw (.ref T.c_Book)) (pe_glob (v := .ref T.c_Book) rfl T.g_Book rfl) (fun _ => rfl)) (sa_cons (se_call (dds := []) (ok__law_book_text T) (hr.mono (by omega)) rfl T.g__law_book_text T.F__law_book_text.kp T.b__law_book_text .nil (fun _ => Reps.nil) (hX _) (sa_cons (se_var 8 rfl (pv 8)) sa_nil)) sa_nil)) (se_var 9 rfl (pv 9)) (oNe_ok hu (ownNe_ok T.ne_Book T.i_Book.cm T.m_Book_eq T.n_Book_eq (ok_Book_eq T) (hr.mono (by omega)) T.b_Book_eq))) (sp_or (st_cmp (se_var 9 rfl (pv 9)) (se_var 7 rfl (pv 7)) (oEq_ok hu (ownEq_ok T.m_Book_eq T.n_Book_eq (ok_Book_eq T) (hr.mono (by omega)) T.b_Book_eq))) (sp_or1 (st_cmp (se_callTy (id := "str") rfl T.z_str (by decide +kernel) (sa_cons (se_var 9 rfl (pv 9)) sa_nil) (pStr_ok (ownStr_ok T.m_Book_str T.n_Book_str (ok_Book_str T) (hr.mono (by omega)) T.b_Book_str))) (se_call (dds := []) (ok__law_book_text T) (hr.mono (by omega)) rfl T.g__law_book_text T.F__law_book_text.kp T.b__law_book_text .nil (fun _ => Reps.nil) (hX _) (sa_cons (se_var 8 rfl (pv 8)) sa_nil)) (oNe_ok hu (ownNe_ok T.ne_Book T.i_Book.cm T.m_Book_eq T.n_Book_eq (ok_Book_eq T) (hr.mono (by omega)) T.b_Book_eq))))))) ?_ ?_
      · exact sb_ret se_bl (fun _ _ h => h)
      · refine sb_more ?_
        refine sb_for (α := Unit) (fun s3 => [some x_script, some x_deal_here, some x_words_here1, some x_fresh, some d1, some x_form, some x_led_here, some x_one, some x_other, some x_made, none, none, none, none, none, none, none, none, none]) rfl (si_iter (se_ix (se_var 5 rfl (pv 5)) se_int)) (by walk_at "le") (fun d3 s3 nx3 bk3 W V hW3 hV3 => ?_) (fun s3 => ?_)
        · unfold w_law_l3
          refine sg_two (r := fun x_name x_targets => [some x_script, some x_deal_here, some x_words_here1, some x_fresh, some d1, some x_form, some x_led_here, some x_one, some x_other, some x_made, some x_name, some x_targets, none, none, none, none, none, none, none]) rfl (fun _ _ => (gs_cons 10 (pg_name (i := 10) hN rfl (by first | exact .inl rfl | exact .inr rfl)) (gs_cons 11 (pg_name (i := 11) hN rfl (by first | exact .inl rfl | exact .inr rfl)) gs_nil))) (fun x_name x_targets => ?_)
          refine sb_for (α := Unit) (fun s5 => [some x_script, some x_deal_here, some x_words_here1, some x_fresh, some d1, some x_form, some x_led_here, some x_one, some x_other, some x_made, some x_name, some x_targets, none, none, none, none, none, none, none]) rfl (si_iter (se_ix (se_var 5 rfl (pv 5)) se_int)) (by walk_at "le") (fun d5 s5 nx5 bk5 W V hW5 hV5 => ?_) (fun s5 => ?_)
          · unfold w_law_l5
            refine sg_name (r := [some x_script, some x_deal_here, some x_words_here1, some x_fresh, some d1, some x_form, some x_led_here, some x_one, some x_other, some x_made, some x_name, some x_targets, some d5, none, none, none, none, none, none]) 12 rfl ?_ (pg_name (i := 12) hN rfl (by first | exact .inl rfl | exact .inr rfl))
            refine sb_set (r := fun x_target => [some x_script, some x_deal_here, some x_words_here1, some x_fresh, some d1, some x_form, some x_led_here, some x_one, some x_other, some x_made, some x_name, some x_targets, some d5, some x_target, none, none, none, none, none]) 13 hN rfl (by first | exact .inl rfl | exact .inr rfl) (fun _ => rfl) (se_meth (dds := []) T.i_Book.c T.m_Book_target (ok_Book_target T) (hr.mono (by omega)) T.b_Book_target .nil (fun _ => Reps.nil) (hX _) (se_var 7 rfl (pv 7)) (sa_cons (se_var 10 rfl (pv 10)) (sa_cons (se_var 12 rfl (pv 12)) sa_nil))) (fun x_target => ?_)
            refine sb_if (st_cmp (se_meth (dds := []) T.i_Book.c T.m_Book_target (ok_Book_target T) (hr.mono (by omega)) T.b_Book_target .nil (fun _ => Reps.nil) (hX _) (se_var 9 rfl (pv 9)) (sa_cons (se_ixD hu (se_var 6 rfl (pv 6)) (se_var 10 rfl (pv 10))) (sa_cons (se_ixD hu (se_var 6 rfl (pv 6)) (se_var 12 rfl (pv 12))) sa_nil))) (se_if (st_cmp (se_var 13 rfl (pv 13)) se_non oIs_ok) se_non (se_ixD hu (se_var 6 rfl (pv 6)) (se_var 13 rfl (pv 13)))) (oNe_ok hu (ownNe_ok T.ne_Book T.i_Book.cm T.m_Book_eq T.n_Book_eq (ok_Book_eq T) (hr.mono (by omega)) T.b_Book_eq))) ?_ ?_
            · exact sb_ret se_bl (fun _ _ h => h)
            · refine sb_more ?_
              refine sb_part ?_
              exact sb_le hW5 (by walk_at "le")
          · unfold w_law_a6
            refine sb_set (r := fun x_less => [some x_script, some x_deal_here, some x_words_here1, some x_fresh, some d1, some x_form, some x_led_here, some x_one, some x_other, some x_made, some x_name, some x_targets, none, none, some x_less, none, none, none, none]) 14 hN rfl (by first | exact .inl rfl | exact .inr rfl) (fun _ => rfl) (se_call (dds := []) (ok__law_led T) (hr.mono (by omega)) rfl T.g__law_led T.F__law_led.kp T.b__law_led .nil (fun _ => Reps.nil) (hX _) (sa_cons (se_tup (sa_cons (se_ix (se_var 5 rfl (pv 5)) se_int) (sa_cons (se_lc1 [("_law_pair", 17)] (.one 17) rfl hN (blkOk_by rfl) (fun _ _ _ _ _ => pg_name (i := 17) hN rfl (by first | exact .inl rfl | exact .inr rfl)) (by decide) (si_iter (se_ix (se_var 5 rfl (pv 5)) se_int)) (bdT_one (r := fun x_pair => [some x_script, some x_deal_here, some x_words_here1, some x_fresh, some d1, some x_form, some x_led_here, some x_one, some x_other, some x_made, some x_name, some x_targets, none, none, none, none, none, some x_pair, none]) (fun _ => rfl) (fun x_pair _ _ _ _ _ => (st_cmp (se_ix (se_var 17 rfl (pv 17)) se_int) (se_var 10 rfl (pv 10)) (oNe_ok hu (ownNe_ok T.ne_Book T.i_Book.cm T.m_Book_eq T.n_Book_eq (ok_Book_eq T) (hr.mono (by omega)) T.b_Book_eq))))) (bd_one (r := fun x_pair => [some x_script, some x_deal_here, some x_words_here1, some x_fresh, some d1, some x_form, some x_led_here, some x_one, some x_other, some x_made, some x_name, some x_targets, none, none, none, none, none, some x_pair, none]) (fun _ => rfl) (fun x_pair _ _ _ _ _ => (se_var 17 rfl (pv 17))))) (sa_cons (se_lst sa_nil) (sa_cons (se_lst sa_nil) sa_nil))))) (sa_cons (se_var 6 rfl (pv 6)) sa_nil))) (fun x_less => ?_)
            refine sb_set (r := fun x_bare => [some x_script, some x_deal_here, some x_words_here1, some x_fresh, some d1, some x_form, some x_led_here, some x_one, some x_other, some x_made, some x_name, some x_targets, none, none, some x_less, some x_bare, none, none, none]) 15 hN rfl (by first | exact .inl rfl | exact .inr rfl) (fun _ => rfl) (se_meth (dds := []) T.i_Book.c T.m_Book_without (ok_Book_without T) (hr.mono (by omega)) T.b_Book_without .nil (fun _ => Reps.nil) (hX _) (se_var 9 rfl (pv 9)) (sa_cons (se_ixD hu (se_var 6 rfl (pv 6)) (se_var 10 rfl (pv 10))) sa_nil)) (fun x_bare => ?_)
            refine sb_if (st_cmp (se_mkF (se_make (dds := []) T.mk_Book (ok_Book_init T) (hr.mono (by omega)) rfl T.g_Book T.b_Book_init .nil (fun _ => Reps.nil) (hX _) (sa_cons (se_ix (se_var 14 rfl (pv 14)) se_int) (sa_cons (se_ix (se_var 14 rfl (pv 14)) se_int) (sa_cons (se_fld (se_var 15 rfl (pv 15))) (sa_cons (se_fld (se_var 15 rfl (pv 15))) sa_nil)))))) (se_var 15 rfl (pv 15)) (oNe_ok hu (ownNe_ok T.ne_Book T.i_Book.cm T.m_Book_eq T.n_Book_eq (ok_Book_eq T) (hr.mono (by omega)) T.b_Book_eq))) ?_ ?_
            · exact sb_ret se_bl (fun _ _ h => h)
            · refine sb_more ?_
              refine sb_if (st_cmp (se_lc [("_law_kind", 18)] (.one 18) rfl hN (blkOk_by rfl) (fun _ _ _ _ _ => pg_name (i := 18) hN rfl (by first | exact .inl rfl | exact .inr rfl)) (by decide) (si_iter (se_fld (se_meth (dds := []) T.i_Book.c T.m_Book_without (ok_Book_without T) (hr.mono (by omega)) T.b_Book_without .nil (fun _ => Reps.nil) (hX _) (se_var 7 rfl (pv 7)) (sa_cons (se_var 10 rfl (pv 10)) sa_nil)))) (bd_one (r := fun x_kind => [some x_script, some x_deal_here, some x_words_here1, some x_fresh, some d1, some x_form, some x_led_here, some x_one, some x_other, some x_made, some x_name, some x_targets, none, none, some x_less, some x_bare, none, none, some x_kind]) (fun _ => rfl) (fun x_kind _ _ _ _ _ => (se_ixD hu (se_var 6 rfl (pv 6)) (se_var 18 rfl (pv 18)))))) (se_callTy (id := "list") rfl T.z_list (by decide +kernel) (sa_cons (se_fld (se_var 15 rfl (pv 15))) sa_nil) pList_ok) (oNe_ok hu (ownNe_ok T.ne_Book T.i_Book.cm T.m_Book_eq T.n_Book_eq (ok_Book_eq T) (hr.mono (by omega)) T.b_Book_eq))) ?_ ?_
              · exact sb_ret se_bl (fun _ _ h => h)
              · refine sb_more ?_
                refine sb_part ?_
                exact sb_le hW3 (by walk_at "le")
        · unfold w_law_a4
          refine sb_part ?_
          exact sb_le hW1 (by walk_at "le")
    · unfold w_law_a2
      exact sb_ret se_bl (fun _ _ h => h)
end
end Kk

namespace Kk
open PySem L2 PySem.Spec PyProof.Rows Tr
set_option hygiene false
local macro_rules | `(tactic| walk_at "cell") => `(tactic| first | exact LstD.l | exact LstD.c (i := 0) rfl | exact LstD.c (i := 1) rfl | exact LstD.c (i := 2) rfl | exact LstD.c (i := 3) rfl | exact LstD.c (i := 4) rfl | exact LstD.c (i := 5) rfl | exact LstD.c (i := 6) rfl | exact LstD.c (i := 7) rfl | with_reducible assumption | walk_at "cellx")
local macro_rules | `(tactic| walk_at "sq") => `(tactic| first | exact SeqD.l | exact SeqD.t | exact SeqD.c (i := 0) rfl | exact SeqD.c (i := 1) rfl | exact SeqD.c (i := 2) rfl | exact SeqD.c (i := 3) rfl | exact SeqD.c (i := 4) rfl | exact SeqD.c (i := 5) rfl | exact SeqD.c (i := 6) rfl | exact SeqD.c (i := 7) rfl | with_reducible assumption | exact .inl (by walk_at "cellx"))
local macro_rules | `(tactic| walk_at "n") => `(tactic| first | with_reducible assumption | omega | (simp only [List.length_cons, List.length_nil, List.length_map, List.length_append, rangeD_len]; omega) | decide | (simp; done) | (simp; omega) | (simp at *; omega) | exact Or.inl ⟨by decide, by decide⟩ | exact Or.inr ⟨by decide, by decide⟩ | exact ⟨by decide, by decide⟩ | exact ⟨by decide, by decide, by decide⟩)
local macro_rules | `(tactic| walk_at "nm") => `(tactic| first | exact Or.inl (by decide) | exact Or.inr (by decide) | exact Or.inl (by omega) | exact Or.inr (by omega))
local macro_rules | `(tactic| walk_at "p") => `(tactic| first
  | ((with_reducible show oAdd _ _ _ _); first | with_reducible refine s_add_int ?_ | with_reducible refine s_add_str ?_ | with_reducible refine s_add_tup ?_ | with_reducible refine s_add_lst ?_ | refine s_add_cell (by walk_at "cell") (by walk_at "cell") ?_)
  | ((with_reducible show oAddO _ _ _ _ _); first | refine s_addO rfl ?_ | refine s_addOI ?_)
  | ((with_reducible show pIxO _ _ _ _ _ _ _); refine s_ixO rfl ?_)
  | ((with_reducible show oSub _ _ _ _); first | with_reducible refine s_sub ?_)
  | ((with_reducible show oMul _ _ _ _); first | with_reducible refine s_mul ?_)
  | ((with_reducible show oFdiv _ _ _ _); first | with_reducible refine s_fdiv ?_)
  | ((with_reducible show oMod _ _ _ _); first | with_reducible refine s_mod ?_)
  | ((with_reducible show oPow _ _ _ _); first | with_reducible refine s_pow ?_)
  | ((with_reducible show oLt _ _ _ _); first | with_reducible refine s_lt ?_ | with_reducible refine s_lt_str ?_)
  | ((with_reducible show oLe _ _ _ _); first | with_reducible refine s_le ?_ | with_reducible refine s_le_str ?_)
  | ((with_reducible show oGt _ _ _ _); first | with_reducible refine s_gt ?_)
  | ((with_reducible show oGe _ _ _ _); first | with_reducible refine s_ge ?_)
  | ((with_reducible show pII _ _ _ _ _); first | with_reducible refine s_ii ?_)
  | ((with_reducible show oEq _ _ _ _ _); first | with_reducible refine s_eq_int ?_ | with_reducible refine s_eq_str ?_ | with_reducible refine s_eq_bl ?_ | walk_at "eq")
  | ((with_reducible show oNe _ _ _ _ _); first | with_reducible refine s_ne_int ?_ | with_reducible refine s_ne_str ?_ | with_reducible refine s_ne_bl ?_ | walk_at "ne")
  | ((with_reducible show oIs _ _ _ _); first | with_reducible refine s_is_bl ?_ | with_reducible refine s_isN_ref ?_ | refine s_isN rfl ?_)
  | ((with_reducible show oIsNot _ _ _ _); first | with_reducible refine s_isnot_bl ?_ | with_reducible refine s_isNotN_ref ?_ | refine s_isNotN rfl ?_)
  | ((with_reducible show oIn (.str _) (.tup (_ :: _)) _ _); first | refine s_inS (xs := [_]) .t ?_ | refine s_inS (xs := [_, _]) .t ?_ | refine s_inS (xs := [_, _, _]) .t ?_ | refine s_inS (xs := [_, _, _, _]) .t ?_ | refine s_inS (xs := [_, _, _, _, _]) .t ?_ | refine s_inS (xs := [_, _, _, _, _, _]) .t ?_ | refine s_inS (xs := [_, _, _, _, _, _, _]) .t ?_ | refine s_inS (xs := [_, _, _, _, _, _, _, _]) .t ?_ | refine s_inS (xs := [_, _, _, _, _, _, _, _, _]) .t ?_ | refine s_inS (xs := [_, _, _, _, _, _, _, _, _, _]) .t ?_ | refine s_inS (xs := [_, _, _, _, _, _, _, _, _, _, _]) .t ?_ | refine s_inS (xs := [_, _, _, _, _, _, _, _, _, _, _, _]) .t ?_ | refine s_inS (xs := [_, _, _, _, _, _, _, _, _, _, _, _, _]) .t ?_)
  | ((with_reducible show oIn (.str _) (.lst (_ :: _)) _ _); first | refine s_inS (xs := [_]) .l ?_ | refine s_inS (xs := [_, _]) .l ?_ | refine s_inS (xs := [_, _, _]) .l ?_ | refine s_inS (xs := [_, _, _, _]) .l ?_ | refine s_inS (xs := [_, _, _, _, _]) .l ?_ | refine s_inS (xs := [_, _, _, _, _, _]) .l ?_ | refine s_inS (xs := [_, _, _, _, _, _, _]) .l ?_ | refine s_inS (xs := [_, _, _, _, _, _, _, _]) .l ?_ | refine s_inS (xs := [_, _, _, _, _, _, _, _, _]) .l ?_ | refine s_inS (xs := [_, _, _, _, _, _, _, _, _, _]) .l ?_ | refine s_inS (xs := [_, _, _, _, _, _, _, _, _, _, _]) .l ?_ | refine s_inS (xs := [_, _, _, _, _, _, _, _, _, _, _, _]) .l ?_ | refine s_inS (xs := [_, _, _, _, _, _, _, _, _, _, _, _, _]) .l ?_)
  | ((with_reducible show oNotIn (.str _) (.tup (_ :: _)) _ _); first | refine s_notInS (xs := [_]) .t ?_ | refine s_notInS (xs := [_, _]) .t ?_ | refine s_notInS (xs := [_, _, _]) .t ?_ | refine s_notInS (xs := [_, _, _, _]) .t ?_ | refine s_notInS (xs := [_, _, _, _, _]) .t ?_ | refine s_notInS (xs := [_, _, _, _, _, _]) .t ?_ | refine s_notInS (xs := [_, _, _, _, _, _, _]) .t ?_ | refine s_notInS (xs := [_, _, _, _, _, _, _, _]) .t ?_ | refine s_notInS (xs := [_, _, _, _, _, _, _, _, _]) .t ?_ | refine s_notInS (xs := [_, _, _, _, _, _, _, _, _, _]) .t ?_ | refine s_notInS (xs := [_, _, _, _, _, _, _, _, _, _, _]) .t ?_ | refine s_notInS (xs := [_, _, _, _, _, _, _, _, _, _, _, _]) .t ?_ | refine s_notInS (xs := [_, _, _, _, _, _, _, _, _, _, _, _, _]) .t ?_)
  | ((with_reducible show oNotIn (.str _) (.lst (_ :: _)) _ _); first | refine s_notInS (xs := [_]) .l ?_ | refine s_notInS (xs := [_, _]) .l ?_ | refine s_notInS (xs := [_, _, _]) .l ?_ | refine s_notInS (xs := [_, _, _, _]) .l ?_ | refine s_notInS (xs := [_, _, _, _, _]) .l ?_ | refine s_notInS (xs := [_, _, _, _, _, _]) .l ?_ | refine s_notInS (xs := [_, _, _, _, _, _, _]) .l ?_ | refine s_notInS (xs := [_, _, _, _, _, _, _, _]) .l ?_ | refine s_notInS (xs := [_, _, _, _, _, _, _, _, _]) .l ?_ | refine s_notInS (xs := [_, _, _, _, _, _, _, _, _, _]) .l ?_ | refine s_notInS (xs := [_, _, _, _, _, _, _, _, _, _, _]) .l ?_ | refine s_notInS (xs := [_, _, _, _, _, _, _, _, _, _, _, _]) .l ?_ | refine s_notInS (xs := [_, _, _, _, _, _, _, _, _, _, _, _, _]) .l ?_)
  | ((with_reducible show oIn _ _ _ _); first | with_reducible refine s_inSign ?_ | refine s_inS (by walk_at "sq") ?_)
  | ((with_reducible show oNotIn _ _ _ _); refine s_notInS (by walk_at "sq") ?_)
  | ((with_reducible show oNotInS _ _ _ _); refine s_notInSign ?_)
  | ((with_reducible show pTup _ _ _); first | with_reducible refine s_tup ?_)
  | ((with_reducible show pLst _ _ _); first | with_reducible refine s_lst ?_)
  | ((with_reducible show pLstC _ _ _); first | with_reducible refine s_lstC ?_)
  | ((with_reducible show pTru _ _ _); first | with_reducible refine s_tru ?_)
  | ((with_reducible show pNeg _ _ _); first | with_reducible refine s_neg ?_)
  | ((with_reducible show pFld _ _ _ _ _); walk_at "fld")
  | ((with_reducible show pIx _ _ _ _); first | refine s_ix_tup (by rfl) ?_ | refine s_ix_lst (by rfl) ?_ | refine s_ix_cell (by walk_at "cell") (by rfl) ?_ | walk_at "ix")
  | ((with_reducible show pOI _ _ _); first | with_reducible refine s_oi ?_)
  | ((with_reducible show pSl _ _ _ _ _); first | with_reducible refine s_sl_tup ?_ | with_reducible refine s_sl_lst ?_ | with_reducible refine s_sl_str ?_ | refine s_sl_cell (by walk_at "cell") ?_)
  | ((with_reducible show pRev _ _ _); refine s_rev (by walk_at "cell") ?_)
  | ((with_reducible show pRevC _ _ _); refine s_revC (by walk_at "cell") ?_)
  | ((with_reducible show pIter _ _ _); first | with_reducible refine s_it_lst ?_ | with_reducible refine s_it_tup ?_ | refine s_it_cell (by walk_at "sq") ?_)
  | ((with_reducible show pIterS _ _ _); first | with_reducible refine s_itS ?_)
  | ((with_reducible show pRange1 _ _ _); first | with_reducible refine s_rg1 ?_)
  | ((with_reducible show pRange2 _ _ _ _); first | with_reducible refine s_rg2 ?_)
  | ((with_reducible show pEnum _ _ _); first | with_reducible refine s_en_lst ?_ | with_reducible refine s_en_tup ?_ | refine s_en_cell (by walk_at "sq") ?_)
  | ((with_reducible show un2 _ _ _ _); first | with_reducible refine s_un2 ?_)
  | ((with_reducible show un3 _ _ _ _); first | with_reducible refine s_un3 ?_)
  | ((with_reducible show mUn2 _ _ _); first | with_reducible refine s_mun2 ?_)
  | ((with_reducible show mUn3 _ _ _); first | with_reducible refine s_mun3 ?_)
  | ((with_reducible show mUn4 _ _ _); first | with_reducible refine s_mun4 ?_)
  | ((with_reducible show mUn5 _ _ _); first | with_reducible refine s_mun5 ?_)
  | ((with_reducible show mUn6 _ _ _); first | with_reducible refine s_mun6 ?_)
  | ((with_reducible show on1 _ _ _ _); first | ((with_reducible show on1 (pLen1 _) _ _ _); first | with_reducible refine s_len_lst ?_ | with_reducible refine s_len_tup ?_ | with_reducible refine s_len_str ?_ | with_reducible refine s_len_own ?_ | refine s_len_cell (by walk_at "cell") ?_) | ((with_reducible show on1 (pStr1 _) _ _ _); first | with_reducible refine s_str_str ?_ | with_reducible refine s_str_int ?_ | with_reducible refine s_str_own ?_ | with_reducible refine s_str_ownC ?_) | ((with_reducible show on1 pInt1 _ _ _); first | with_reducible refine s_int_int ?_ | with_reducible refine s_int_bl ?_ | with_reducible refine s_int_str ?_) | ((with_reducible show on1 pList1 _ _ _); first | with_reducible refine s_list_lst ?_ | with_reducible refine s_list_tup ?_ | refine s_list_cell (by walk_at "sq") ?_ | refine s_list_seq (by with_reducible assumption) ?_) | ((with_reducible show on1 pListC1 _ _ _); first | with_reducible refine s_listC_lst ?_ | with_reducible refine s_listC_tup ?_ | refine s_listC_cell (by walk_at "sq") ?_) | ((with_reducible show on1 pTuple1 _ _ _); first | with_reducible refine s_tuple_lst ?_ | with_reducible refine s_tuple_tup ?_ | refine s_tuple_seq (by walk_at "sq") ?_) | ((with_reducible show on1 pAbs1 _ _ _); first | with_reducible refine s_abs ?_) | ((with_reducible show on1 pAll1 _ _ _); refine s_allM ?_) | ((with_reducible show on1 pAny1 _ _ _); refine s_anyM ?_))
  | ((with_reducible show on2 pMax2 _ _ _); first | with_reducible refine s_max ?_)
  | ((with_reducible show on2 pMin2 _ _ _); first | with_reducible refine s_min ?_)
  | ((with_reducible show on2 (pIsI _) _ _ _); walk_at "isi")
  | ((with_reducible show onStr _ _ _ _); first | with_reducible refine s_onStr ?_)
  | ((with_reducible show pSplit _ _ _ _); first | with_reducible refine s_split ?_)
  | ((with_reducible show pPart _ _ _ _); first | with_reducible refine s_part ?_)
  | ((with_reducible show pStarts _ _ _ _); first | with_reducible refine s_starts ?_)
  | ((with_reducible show pJoin _ _ _ _); refine s_join (by walk_at "sq") ?_)
  | ((with_reducible show pFmt _ _ _); first | with_reducible refine s_fmt_str ?_ | with_reducible refine s_fmt_int ?_)
  | ((with_reducible show pApp _ _ _ _); first | refine s_app 0 rfl ?_ | refine s_app 1 rfl ?_ | refine s_app 2 rfl ?_ | refine s_app 3 rfl ?_ | refine s_app 4 rfl ?_)
  | ((with_reducible show mFrz _ _ _); first | refine s_frz 0 rfl ?_ | refine s_frz 1 rfl ?_ | refine s_frz 2 rfl ?_ | refine s_frz 3 rfl ?_ | refine s_frz 4 rfl ?_)
  | ((with_reducible show if true = true then _ else _); first | with_reducible refine ifT ?_)
  | ((with_reducible show if false = true then _ else _); first | with_reducible refine ifF ?_)
  | ((with_reducible show if (!false) = true then _ else _); refine ifT ?_)
  | ((with_reducible show if (!true) = true then _ else _); refine ifF ?_)
  | ((with_reducible show if Tr.isNon .non = true then _ else _); refine ifT ?_)
  | ((with_reducible show if (!Tr.isNon .non) = true then _ else _); refine ifF ?_)
  | ((with_reducible show if Tr.isNon (.str _) = true then _ else _); refine ifF ?_)
  | ((with_reducible show if (!Tr.isNon (.str _)) = true then _ else _); refine ifT ?_)
  | ((with_reducible show if Tr.isNon (.int _) = true then _ else _); refine ifF ?_)
  | ((with_reducible show if (!Tr.isNon (.int _)) = true then _ else _); refine ifT ?_)
  | ((with_reducible show if Tr.isNon (.bl _) = true then _ else _); refine ifF ?_)
  | ((with_reducible show if (!Tr.isNon (.bl _)) = true then _ else _); refine ifT ?_)
  | ((with_reducible show if Tr.isNon (.lst _) = true then _ else _); refine ifF ?_)
  | ((with_reducible show if (!Tr.isNon (.lst _)) = true then _ else _); refine ifT ?_)
  | ((with_reducible show if Tr.isNon (.tup _) = true then _ else _); refine ifF ?_)
  | ((with_reducible show if (!Tr.isNon (.tup _)) = true then _ else _); refine ifT ?_)
  | ((with_reducible show if Tr.isNon (.ins _ _ _) = true then _ else _); refine ifF ?_)
  | ((with_reducible show if (!Tr.isNon (.ins _ _ _)) = true then _ else _); refine ifT ?_)
  | ((with_reducible show if Tr.isNon (oN none) = true then _ else _); refine ifT ?_)
  | ((with_reducible show if (!Tr.isNon (oN none)) = true then _ else _); refine ifF ?_)
  | ((with_reducible show if Tr.isNon (oN (some _)) = true then _ else _); refine ifF ?_)
  | ((with_reducible show if (!Tr.isNon (oN (some _))) = true then _ else _); refine ifT ?_)
  | ((with_reducible show if Tr.isNon (oD none) = true then _ else _); refine ifT ?_)
  | ((with_reducible show if (!Tr.isNon (oD none)) = true then _ else _); refine ifF ?_)
  | ((with_reducible show if Tr.isNon (oD (some _)) = true then _ else _); refine ifF ?_)
  | ((with_reducible show if (!Tr.isNon (oD (some _))) = true then _ else _); refine ifT ?_)
  | ((with_reducible show if (decide (true = true)) = true then _ else _); refine ifT ?_)
  | ((with_reducible show if (!decide (true = true)) = true then _ else _); refine ifF ?_)
  | ((with_reducible show if ((true == true)) = true then _ else _); refine ifT ?_)
  | ((with_reducible show if (!(true == true)) = true then _ else _); refine ifF ?_)
  | ((with_reducible show if ((true != true)) = true then _ else _); refine ifF ?_)
  | ((with_reducible show if (decide (true = false)) = true then _ else _); refine ifF ?_)
  | ((with_reducible show if (!decide (true = false)) = true then _ else _); refine ifT ?_)
  | ((with_reducible show if ((true == false)) = true then _ else _); refine ifF ?_)
  | ((with_reducible show if (!(true == false)) = true then _ else _); refine ifT ?_)
  | ((with_reducible show if ((true != false)) = true then _ else _); refine ifT ?_)
  | ((with_reducible show if (decide (false = true)) = true then _ else _); refine ifF ?_)
  | ((with_reducible show if (!decide (false = true)) = true then _ else _); refine ifT ?_)
  | ((with_reducible show if ((false == true)) = true then _ else _); refine ifF ?_)
  | ((with_reducible show if (!(false == true)) = true then _ else _); refine ifT ?_)
  | ((with_reducible show if ((false != true)) = true then _ else _); refine ifT ?_)
  | ((with_reducible show if (decide (false = false)) = true then _ else _); refine ifT ?_)
  | ((with_reducible show if (!decide (false = false)) = true then _ else _); refine ifF ?_)
  | ((with_reducible show if ((false == false)) = true then _ else _); refine ifT ?_)
  | ((with_reducible show if (!(false == false)) = true then _ else _); refine ifF ?_)
  | ((with_reducible show if ((false != false)) = true then _ else _); refine ifF ?_)
  | ((with_reducible show if decide ((_ : Int) < _) = true then _ else _); first | refine ifPos (decide_eq_true (by walk_at "om")) ?_ | refine ifNeg (decide_eq_false (by walk_at "om")) ?_)
  | ((with_reducible show if (!decide ((_ : Int) < _)) = true then _ else _); first | refine ifPosN (decide_eq_false (by walk_at "om")) ?_ | refine ifNegN (decide_eq_true (by walk_at "om")) ?_)
  | ((with_reducible show if decide ((_ : Int) ≤ _) = true then _ else _); first | refine ifPos (decide_eq_true (by walk_at "om")) ?_ | refine ifNeg (decide_eq_false (by walk_at "om")) ?_)
  | ((with_reducible show if (!decide ((_ : Int) ≤ _)) = true then _ else _); first | refine ifPosN (decide_eq_false (by walk_at "om")) ?_ | refine ifNegN (decide_eq_true (by walk_at "om")) ?_)
  | ((with_reducible show if decide ((_ : Int) = _) = true then _ else _); first | refine ifPos (decide_eq_true (by walk_at "om")) ?_ | refine ifNeg (decide_eq_false (by walk_at "om")) ?_)
  | ((with_reducible show if (!decide ((_ : Int) = _)) = true then _ else _); first | refine ifPosN (decide_eq_false (by walk_at "om")) ?_ | refine ifNegN (decide_eq_true (by walk_at "om")) ?_)
  | ((with_reducible show lcB _ _ _ (List.map _ _) [] _); walk_at "L")
  | ((with_reducible show lcB _ _ _ (signsD _) [] _); (unfold signsD; walk_at "L"))
  | ((with_reducible show (∃ (ns : List Str) (fds : List D), InsD _ _ _ ns fds ∧ ns.contains _ = false) ∧ _); refine ⟨⟨_, _, .inl rfl, by decide⟩, ?_⟩)
  | ((with_reducible show True ∧ _); refine ⟨trivial, ?_⟩)
  | ((with_reducible show isL _ _ ∧ _); refine ⟨s_isL (by walk_at "cell"), ?_⟩)
  | ((with_reducible show CMul _ _ ∧ _); refine ⟨by walk_at "nm", ?_⟩)
  | ((with_reducible show CPow _ _ ∧ _); refine ⟨⟨by decide, by decide, by decide⟩, ?_⟩)
  | ((with_reducible show _ ∧ _); refine ⟨by walk_at "n", ?_⟩)
  | ((with_reducible show ∃ (i : Nat) (z Cl : Addr) (ns : List Str) (ds : List D), _ = D.raw (V.ref z) ∧ _ ∧ Cls _ Cl ∧ _ ∧ _ ∧ _); walk_at "sfld"))
local macro_rules | `(tactic| walk_at "sfld") => `(tactic| first
  | fail)
local macro_rules | `(tactic| walk_at "few") => `(tactic| first | decide | exact (show (1 : Nat) < 1000 by decide) | exact (show (2 : Nat) < 1000 by decide) | exact (show (3 : Nat) < 1000 by decide) | exact (show (4 : Nat) < 1000 by decide) | exact (show (5 : Nat) < 1000 by decide) | exact (show (6 : Nat) < 1000 by decide) | exact (show (7 : Nat) < 1000 by decide) | exact (show (8 : Nat) < 1000 by decide) | exact (show (9 : Nat) < 1000 by decide) | exact (show (10 : Nat) < 1000 by decide) | exact (show (11 : Nat) < 1000 by decide) | exact (show (12 : Nat) < 1000 by decide))
local macro_rules | `(tactic| walk_at "eq") => `(tactic| first
  | fail)
local macro_rules | `(tactic| walk_at "ne") => `(tactic| first
  | fail)
local macro_rules | `(tactic| walk_at "fld") => `(tactic| first
  | fail)
local macro_rules | `(tactic| walk_at "ix") => `(tactic| first
  | fail)
local macro_rules | `(tactic| walk_at "isi") => `(tactic| first
  | refine s_isi (.ty _) (.str _) (by rfl) ?_)
local macro_rules | `(tactic| walk_at "h") => `(tactic| with_reducible (conv => whnf))
local macro_rules | `(tactic| walk_at "c") => `(tactic| fail)
local macro_rules | `(tactic| walk_at "pm2") => `(tactic| first | walk_at "pm" | exact List.Perm.trans (List.Perm.trans (by with_reducible assumption) q213) q213 | exact List.Perm.trans (List.Perm.trans (by with_reducible assumption) q213) q312 | exact List.Perm.trans (List.Perm.trans (by with_reducible assumption) q213) q4123 | exact List.Perm.trans (List.Perm.trans (by with_reducible assumption) q213) q51234 | exact List.Perm.trans (List.Perm.trans (by with_reducible assumption) q312) q213 | exact List.Perm.trans (List.Perm.trans (by with_reducible assumption) q312) q312 | exact List.Perm.trans (List.Perm.trans (by with_reducible assumption) q312) q4123 | exact List.Perm.trans (List.Perm.trans (by with_reducible assumption) q312) q51234 | exact List.Perm.trans (List.Perm.trans (by with_reducible assumption) q4123) q213 | exact List.Perm.trans (List.Perm.trans (by with_reducible assumption) q4123) q312 | exact List.Perm.trans (List.Perm.trans (by with_reducible assumption) q4123) q4123 | exact List.Perm.trans (List.Perm.trans (by with_reducible assumption) q4123) q51234 | exact List.Perm.trans (List.Perm.trans (by with_reducible assumption) q51234) q213 | exact List.Perm.trans (List.Perm.trans (by with_reducible assumption) q51234) q312 | exact List.Perm.trans (List.Perm.trans (by with_reducible assumption) q51234) q4123 | exact List.Perm.trans (List.Perm.trans (by with_reducible assumption) q51234) q51234 | exact List.Perm.trans (List.Perm.trans (List.Perm.trans (by with_reducible assumption) q213) q213) q213 | exact List.Perm.trans (List.Perm.trans (List.Perm.trans (by with_reducible assumption) q213) q213) q312 | exact List.Perm.trans (List.Perm.trans (List.Perm.trans (by with_reducible assumption) q213) q213) q4123 | exact List.Perm.trans (List.Perm.trans (List.Perm.trans (by with_reducible assumption) q213) q312) q213 | exact List.Perm.trans (List.Perm.trans (List.Perm.trans (by with_reducible assumption) q213) q312) q312 | exact List.Perm.trans (List.Perm.trans (List.Perm.trans (by with_reducible assumption) q213) q312) q4123 | exact List.Perm.trans (List.Perm.trans (List.Perm.trans (by with_reducible assumption) q213) q4123) q213 | exact List.Perm.trans (List.Perm.trans (List.Perm.trans (by with_reducible assumption) q213) q4123) q312 | exact List.Perm.trans (List.Perm.trans (List.Perm.trans (by with_reducible assumption) q213) q4123) q4123 | exact List.Perm.trans (List.Perm.trans (List.Perm.trans (by with_reducible assumption) q312) q213) q213 | exact List.Perm.trans (List.Perm.trans (List.Perm.trans (by with_reducible assumption) q312) q213) q312 | exact List.Perm.trans (List.Perm.trans (List.Perm.trans (by with_reducible assumption) q312) q213) q4123 | exact List.Perm.trans (List.Perm.trans (List.Perm.trans (by with_reducible assumption) q312) q312) q213 | exact List.Perm.trans (List.Perm.trans (List.Perm.trans (by with_reducible assumption) q312) q312) q312 | exact List.Perm.trans (List.Perm.trans (List.Perm.trans (by with_reducible assumption) q312) q312) q4123 | exact List.Perm.trans (List.Perm.trans (List.Perm.trans (by with_reducible assumption) q312) q4123) q213 | exact List.Perm.trans (List.Perm.trans (List.Perm.trans (by with_reducible assumption) q312) q4123) q312 | exact List.Perm.trans (List.Perm.trans (List.Perm.trans (by with_reducible assumption) q312) q4123) q4123 | exact List.Perm.trans (List.Perm.trans (List.Perm.trans (by with_reducible assumption) q4123) q213) q213 | exact List.Perm.trans (List.Perm.trans (List.Perm.trans (by with_reducible assumption) q4123) q213) q312 | exact List.Perm.trans (List.Perm.trans (List.Perm.trans (by with_reducible assumption) q4123) q213) q4123 | exact List.Perm.trans (List.Perm.trans (List.Perm.trans (by with_reducible assumption) q4123) q312) q213 | exact List.Perm.trans (List.Perm.trans (List.Perm.trans (by with_reducible assumption) q4123) q312) q312 | exact List.Perm.trans (List.Perm.trans (List.Perm.trans (by with_reducible assumption) q4123) q312) q4123 | exact List.Perm.trans (List.Perm.trans (List.Perm.trans (by with_reducible assumption) q4123) q4123) q213 | exact List.Perm.trans (List.Perm.trans (List.Perm.trans (by with_reducible assumption) q4123) q4123) q312 | exact List.Perm.trans (List.Perm.trans (List.Perm.trans (by with_reducible assumption) q4123) q4123) q4123)
local macro_rules | `(tactic| walk_at "cellx") => `(tactic| fail)
local macro_rules | `(tactic| walk_at "pm") => `(tactic| first | with_reducible assumption | exact List.Perm.refl _ | exact q213 | exact q312 | exact q4123 | exact q0 | exact List.Perm.trans (by with_reducible assumption) q213 | exact List.Perm.trans (by with_reducible assumption) q312 | exact List.Perm.trans (by with_reducible assumption) q4123 | exact List.Perm.trans (by with_reducible assumption) q51234 | exact List.Perm.trans (by with_reducible assumption) q0)
local macro_rules | `(tactic| walk_at "g") => `(tactic| ((repeat (first | walk_at "p" | walk_at "c" | (walk_at "h"; first | walk_at "p" | walk_at "c"))); try walk_at "h"))
local macro_rules | `(tactic| walk_at "S") => `(tactic| (walk_at "g"; try ((with_reducible show if _ then _ else _); refine ite2M (fun h => ?_) (fun h => ?_) <;> walk_at "S")))
local macro_rules | `(tactic| walk_at "om") => `(tactic| first | omega | (simp only [List.length_cons, List.length_nil, List.length_map, List.length_append, rangeD_len]; omega))
local macro_rules | `(tactic| walk_at "P0") => `(tactic| first | trivial | walk_at "sq" | with_reducible assumption)
local macro_rules | `(tactic| walk_at "ln") => `(tactic| first | with_reducible assumption | omega | (simp only [List.length_map, List.length_append, List.length_filter, rangeD_len]; omega) | (rw [Array.length_toList]; first | assumption | (show Str.length _ ≤ _; omega)) | (simp; omega))
local macro_rules | `(tactic| walk_at "L") => `(tactic| (refine lcB_map _ ?hh (by walk_at "P0") ?el (by walk_at "ln") ?rest; (case el => (intro a ha k hk; walk_at "g"; exact hk))))
local macro_rules | `(tactic| walk_at "d") => `(tactic| (refine c_draw0 T (by with_reducible assumption) (by walk_at "n") (by walk_at "n") fun k qs m k0 k1 hd => ?_))
local macro_rules | `(tactic| walk_at "fld") => `(tactic| first
  | ((with_reducible show pFld _ "choices" (.ins T.c_Book _ _) _ _); refine s_fld (.inl rfl) T.i_Book.c T.na_Book_choices (by rfl) ?_)
  | ((with_reducible show pFld _ "kinds" (.ins T.c_Book _ _) _ _); refine s_fld (.inl rfl) T.i_Book.c T.na_Book_kinds (by rfl) ?_)
  | ((with_reducible show pFld _ "targets" (.ins T.c_Book _ _) _ _); refine s_fld (.inl rfl) T.i_Book.c T.na_Book_targets (by rfl) ?_)
  | ((with_reducible show pFld _ "loose" (.ins T.c_Book _ _) _ _); refine s_fld (.inl rfl) T.i_Book.c T.na_Book_loose (by rfl) ?_)
  | ((with_reducible show pFld _ "others" (.ins T.c_Book _ _) _ _); refine s_fld (.inl rfl) T.i_Book.c T.na_Book_others (by rfl) ?_))
local macro_rules | `(tactic| walk_at "isi") => `(tactic| first
  | ((with_reducible show on2 (pIsI _) [.ins T.c_Book _ _, .raw (.ref T.c_Book)] _ _); refine s_isi (.own _) (.ins T.i_Book) kit_self ?_))
local macro_rules | `(tactic| walk_at "sfld") => `(tactic| first
  | refine ⟨0, _, _, _, _, rfl, rfl, T.i_Book.c, T.na_Book_choices, by walk_at "few", ?_⟩
  | refine ⟨1, _, _, _, _, rfl, rfl, T.i_Book.c, T.na_Book_choices, by walk_at "few", ?_⟩
  | refine ⟨0, _, _, _, _, rfl, rfl, T.i_Book.c, T.na_Book_kinds, by walk_at "few", ?_⟩
  | refine ⟨1, _, _, _, _, rfl, rfl, T.i_Book.c, T.na_Book_kinds, by walk_at "few", ?_⟩
  | refine ⟨0, _, _, _, _, rfl, rfl, T.i_Book.c, T.na_Book_targets, by walk_at "few", ?_⟩
  | refine ⟨1, _, _, _, _, rfl, rfl, T.i_Book.c, T.na_Book_targets, by walk_at "few", ?_⟩
  | refine ⟨0, _, _, _, _, rfl, rfl, T.i_Book.c, T.na_Book_loose, by walk_at "few", ?_⟩
  | refine ⟨1, _, _, _, _, rfl, rfl, T.i_Book.c, T.na_Book_loose, by walk_at "few", ?_⟩
  | refine ⟨0, _, _, _, _, rfl, rfl, T.i_Book.c, T.na_Book_others, by walk_at "few", ?_⟩
  | refine ⟨1, _, _, _, _, rfl, rfl, T.i_Book.c, T.na_Book_others, by walk_at "few", ?_⟩)
section
variable {P : Program} {w : World} {K : W.Frag} {mg : Str → Option Value} {base : Heap}
def dealC (p q : Addr) (qs : List Int) (m : Int) : Cells := [(p, .lst [.raw (.ref q), .int m]), (q, .lst (qs.map D.int))]
def absI (i : Int) : Int := if i < 0 then -i else i
structure DealOk (qs : List Int) (m : Int) : Prop where
  l : qs.length ≤ 63
  a : 0 ≤ m
  b : m < 2147483647
theorem p_deal (T : Tp P K mg) {ns : List Int} {b : Int} {Qx : QX} {Q : QE} (hl : ns.length ≤ 63) (hb : 0 ≤ b) (hb2 : b ≤ 63) (h : ∀ p q qs m, DealOk qs m → Q (.raw (.ref p)) (dealC p q qs m)) :
    w__law_deal T (.lst (ns.map .int)) (.int b) Qx Q [] := by
  unfold w__law_deal
  walk_at "h"
  walk_at "g"
  rw [cutD_map]
  have hl2 : (cutL ns (some b) (some 63)).length ≤ 63 := by
    have := ((List.take_sublist (HT.sIx ns.length ns.length (some 63) - HT.sIx ns.length 0 (some b)) (ns.drop (HT.sIx ns.length 0 (some b)))).trans (List.drop_sublist _ _)).length_le
    exact Nat.le_trans this hl
  generalize cutL ns (some b) (some 63) = cs at hl2
  refine lcB_map (l := cs) D.int (fun i => .int (absI i)) trivial (fun i _ k q => ?_) (by omega) ?_
  · walk_at "g"
    exact q
  walk_at "g"
  refine loop_inv (fun _ s C => ∃ m : Int, s = .int m ∧ 0 ≤ m ∧ m < 2147483647 ∧ C = []) ⟨_, rfl, by omega, by omega, rfl⟩ ?_ ?_
  · rintro i d s C nx hi ⟨m, rfl, h0, h1, rfl⟩ hn
    refine ⟨trivial, ?_⟩
    rw [List.getElem?_map] at hi
    obtain ⟨v, rfl⟩ : ∃ v, d = .int v := by
      cases e : cs[i]? with
      | none => rw [e] at hi; cases hi
      | some v => rw [e] at hi; cases hi; exact ⟨_, rfl⟩
    unfold w__law_deal_l1
    walk_at "g"
    exact part_id (hn _ _ ⟨_, rfl, Int.emod_nonneg _ (by decide), Int.emod_lt_of_pos _ (by decide), rfl⟩)
  · rintro s C ⟨m, rfl, h0, h1, rfl⟩
    refine ⟨trivial, ?_⟩
    unfold w__law_deal_a2
    walk_at "g"
    refine lcB1_map (l := cs) (fun i => .int (absI i)) (fun i => .int (absI i)) (fun i => decide ((10 : Int) ^ 18 ≤ absI i)) trivial (fun i _ k q => ?_) (fun i _ _ k q => ?_) (by omega) ?_
    · walk_at "g"
      exact q
    · exact q
    walk_at "g"
    intro q
    walk_at "g"
    intro p
    refine drop_id ?_
    have := h p q ((cs.filter fun i => decide ((10 : Int) ^ 18 ≤ absI i)).map absI).reverse m ⟨by rw [List.length_reverse, List.length_map]; exact Nat.le_trans (List.length_filter_le _ _) hl2, h0, h1⟩
    unfold dealC at this
    rw [List.map_reverse, List.map_map] at this
    exact this
theorem p_draw (T : Tp P K mg) {p q : Addr} {qs : List Int} {m n : Int} {Qx : QX} {Q : QE} (hd : DealOk qs m) (hn : 0 < n) (hn2 : n < 1073741824) (h : ∀ k qs' m', 0 ≤ k → k < n → DealOk qs' m' → Q (.int k) (dealC p q qs' m')) :
    w__law_draw T (.raw (.ref p)) (.int n) Qx Q (dealC p q qs m) := by
  unfold w__law_draw
  refine ⟨fun j _ C => ∃ qs : List Int, qs.length ≤ 63 ∧ j = qs.length ∧ C = dealC p q qs m, ⟨_, qs, hd.l, rfl, rfl⟩, ?_⟩
  rintro j _ C ⟨qs, hq, rfl, rfl⟩
  unfold w__law_draw_t1
  walk_at "h"
  walk_at "g"
  refine s_neD (.inl rfl) (eqd_lstI (xs := qs) (ys := []) (by walk_at "cell") .l) ?_
  walk_at "g"
  refine ite2M (fun h1 => ?_) (fun h1 => ?_)
  · have hne : qs ≠ [] := fun z => by subst z; cases h1
    obtain ⟨ys, y, rfl⟩ : ∃ ys y, qs = ys ++ [y] := ⟨_, _, (List.dropLast_concat_getLast hne).symm⟩
    have hq1 : (dealC p q (ys ++ [y]) m)[1]? = some (q, Cell.lst (ys.map .int ++ [.int y])) := by
      show some (q, Cell.lst ((ys ++ [y]).map D.int)) = _
      rw [List.map_append]; rfl
    walk_at "g"
    refine s_ix_cell (.c hq1) atI_last ?_
    walk_at "g"
    have fin : decide (y = 0) = false → w__law_draw_a3 T (.raw (.ref p)) (.int n) Qx Q () (dealC p q (ys ++ [y]) m) := fun _ => by
      unfold w__law_draw_a3
      walk_at "g"
      refine s_neD (.inl rfl) (eqd_lstI (xs := ys ++ [y]) (ys := []) (by walk_at "cell") .l) ?_
      walk_at "g"
      rw [if_pos (show (!decide (ys ++ [y] = [])) = true by simp)]
      walk_at "g"
      refine s_pop (d := .int y) 1 hq1 ?_
      walk_at "g"
      have := h (y % n) (ys ++ [y / n]) m (Int.emod_nonneg _ (by omega)) (Int.emod_lt_of_pos _ hn) ⟨by simp at hq ⊢; omega, hd.a, hd.b⟩
      unfold dealC at this
      rw [List.map_append] at this
      exact this
    refine ite2M (fun h2 => ?_) (fun h2 => fin (by simpa using h2))
    unfold w__law_draw_l2
    walk_at "g"
    refine s_pop (d := .int y) 1 hq1 ?_
    exact part_id ⟨ys.length, by simp, ys, by simp at hq; omega, rfl, rfl⟩
  · walk_at "g"
    unfold w__law_draw_a3
    walk_at "g"
    refine s_neD (.inl rfl) (eqd_lstI (xs := qs) (ys := []) (by walk_at "cell") .l) ?_
    walk_at "g"
    rw [if_neg h1]
    walk_at "g"
    refine ⟨0, p, _, 1, 1, rfl, rfl, rfl, rfl, ?_⟩
    walk_at "g"
    exact h _ qs _ (Int.emod_nonneg _ (by omega)) (Int.emod_lt_of_pos _ hn) ⟨hq, Int.emod_nonneg _ (by decide), Int.emod_lt_of_pos _ (by decide)⟩


abbrev St4 := List Int × Int
def dk (p q : Addr) (s : St4) : Cells := dealC p q s.1 s.2
def DkOk (s : St4) : Prop := DealOk s.1 s.2
theorem c_dealS (T : Tp P K mg) {ns : List Int} {b : Int} {Xq : QX} {Q : QE} {C : Cells} (hl : ns.length ≤ 63) (hb : 0 ≤ b) (hb2 : b ≤ 63) (h : ∀ p q s, DkOk s → Q (.raw (.ref p)) (dk p q s ++ C)) :
    callW (fw__law_deal T) Xq [.lst (ns.map .int), .int b] C Q := call_none (p_deal T hl hb hb2 fun p q qs m hd => h p q (qs, m) hd)
theorem c_drawP (T : Tp P K mg) {p q : Addr} {s : St4} {n : Int} {Xq : QX} {Q : QE} {C r : Cells} (pm : C.Perm (dk p q s ++ r)) (hd : DkOk s) (hn : 0 < n) (hn2 : n < 1073741824) (h : ∀ k s', 0 ≤ k → k < n → DkOk s' → Q (.int k) (dk p q s' ++ r)) :
    callW (fw__law_draw T) Xq [.raw (.ref p), .int n] C Q := ⟨dk p q s, r, pm, p_draw T hd hn hn2 fun k qs' m' h0 h1 hd' => h k (qs', m') h0 h1 hd'⟩
theorem c_draw (T : Tp P K mg) {p q : Addr} {s : St4} {n : Int} {Xq : QX} {Q : QE} {r : Cells} (hd : DkOk s) (hn : 0 < n) (hn2 : n < 1073741824) (h : ∀ k s', 0 ≤ k → k < n → DkOk s' → Q (.int k) (dk p q s' ++ r)) :
    callW (fw__law_draw T) Xq [.raw (.ref p), .int n] (dk p q s ++ r) Q := c_drawP T (List.Perm.refl _) hd hn hn2 h
theorem c_draw0 (T : Tp P K mg) {p q : Addr} {s : St4} {n : Int} {Xq : QX} {Q : QE} (hd : DkOk s) (hn : 0 < n) (hn2 : n < 1073741824) (h : ∀ k s', 0 ≤ k → k < n → DkOk s' → Q (.int k) (dk p q s')) :
    callW (fw__law_draw T) Xq [.raw (.ref p), .int n] (dk p q s) Q := c_drawP T (r := []) (by rw [List.append_nil]) hd hn hn2 fun k s' h0 h1 hd' => by rw [List.append_nil]; exact h k s' h0 h1 hd'
def isNameS (s : Str) : Bool := decide (1 ≤ s.length ∧ s.length ≤ 4) && !decide (s ∈ barred) && s.cps.toList.all (fun c => decide (c ∈ small.cps.toList))
def isNameD (d : D) : Bool := isStr d && isNameS (strOf d)
theorem p_is_name (T : Tp P K mg) {d : D} {C : Cells} {Q : QE} {Qx : QX} (ha : AnyD K C d) (q : Q (.bl (isNameD d)) C) : callW (fw_is_name T) Qx [d] C Q := by
  refine call_all (show w_is_name T d Qx Q C from ?_)
  unfold w_is_name
  walk_at "g"
  refine s_isStr ha ?_
  walk_at "g"
  have hl := ha.ln
  unfold isNameD at q
  by_cases hd : isStr d = true
  · obtain ⟨s, rfl⟩ : ∃ s, d = .str s := by cases d <;> first | exact ⟨_, rfl⟩ | cases hd
    refine ifF ?_
    have hl' : s.length ≤ 100000 := hl
    have q' : Q (.bl (isNameS s)) C := q
    unfold isNameS at q'
    walk_at "S"
    all_goals try (refine q_bl q' ?_; simp at *; omega)
    all_goals try (refine q_bl q' ?_; simp at *; simp [*]; done)
    refine q_bl q' ?_
    simp at *
    have : 1 ≤ s.length := by omega
    have : s.length ≤ 4 := by omega
    simp [*]
  · have e : isStr d = false := by simpa using hd
    rw [e] at q ⊢
    refine ifT ?_
    walk_at "g"
    exact q
theorem p_is_nameS (T : Tp P K mg) {s : Str} {C : Cells} {Q : QE} {Qx : QX} (hl : s.length ≤ 100000) (q : Q (.bl (isNameS s)) C) : callW (fw_is_name T) Qx [.str s] C Q := p_is_name T (any_str hl) q
local macro_rules | `(tactic| walk_at "c") => `(tactic| first
  | ((with_reducible show callW (fw_is_name T) _ _ _ _); refine p_is_nameS T (by walk_at "n") ?_))

theorem ixN_in {n : Nat} {k : Int} (h0 : 0 ≤ k) (h1 : k < n) : ixN n k = some k.toNat := by
  unfold ixN
  rw [if_pos h0, if_pos h1]
theorem perm_move {α : Type} {fs ls xs : List α} {n : Nat} {y : α} (hy : ls[n]? = some y) (pm : (fs ++ ls).Perm xs) : ((fs ++ [y]) ++ ls.eraseIdx n).Perm xs := by
  obtain ⟨h1, e⟩ := List.getElem?_eq_some_iff.mp hy
  refine List.Perm.trans ?_ pm
  rw [List.append_assoc]
  refine List.Perm.append_left fs ?_
  rw [List.eraseIdx_eq_take_drop_succ]
  have e2 : ls = ls.take n ++ ls[n] :: ls.drop (n + 1) := by rw [List.getElem_cons_drop, List.take_append_drop]
  rw [e] at e2
  refine List.Perm.trans ?_ (List.Perm.of_eq e2.symm)
  exact (show (y :: (ls.take n ++ ls.drop (n + 1))).Perm (ls.take n ++ y :: ls.drop (n + 1)) from List.perm_middle.symm)
theorem map_erase {α β : Type} (g : α → β) : ∀ (l : List α) (n : Nat), (l.map g).eraseIdx n = (l.eraseIdx n).map g
  | [], n => by simp
  | x :: l, 0 => rfl
  | x :: l, n + 1 => by
    show g x :: (l.map g).eraseIdx n = g x :: (l.eraseIdx n).map g
    rw [map_erase g l n]
theorem p_mixed (T : Tp P K mg) {p q : Addr} {s : St4} {xs : List Str} {Qx : QX} {Q : QE} (hd : DkOk s) (hx : ∀ x ∈ xs, PyData.strOk x = true) (hl : xs.length ≤ 1000) (h : ∀ (ys : List Str) (s' : St4), ys.Perm xs → DkOk s' → Q (.lst (ys.map D.str)) (dk p q s')) :
    w__law_mixed T (.raw (.ref p)) (.lst (xs.map D.str)) Qx Q (dk p q s) := by
  unfold w__law_mixed
  walk_at "g"
  intro l
  walk_at "g"
  intro f
  refine ⟨fun n _ C => ∃ (s : St4) (ls fs : List Str), DkOk s ∧ (fs ++ ls).Perm xs ∧ n = ls.length ∧ (C = dk p q s ++ [(f, .lst (fs.map D.str)), (l, .lst (ls.map D.str))] ∨ C = (f, .lst (fs.map D.str)) :: (l, .lst (ls.map D.str)) :: dk p q s), ⟨xs.length, s, xs, [], hd, by simp, rfl, .inr rfl⟩, ?_⟩
  rintro n u C ⟨s, ls, fs, hd, pm, rfl, hC⟩
  have hls : ∀ x ∈ ls, PyData.strOk x = true := fun x hm => hx x (pm.subset (List.mem_append_right _ hm))
  have hll : fs.length + ls.length = xs.length := by rw [← pm.length_eq, List.length_append]
  have cf : (f, Cell.lst (fs.map D.str)) ∈ C := by rcases hC with rfl | rfl <;> simp
  have cl : (l, Cell.lst (ls.map D.str)) ∈ C := by rcases hC with rfl | rfl <;> simp
  have hp : C.Perm (dk p q s ++ [(f, .lst (fs.map D.str)), (l, .lst (ls.map D.str))]) := by
    rcases hC with rfl | rfl
    · exact List.Perm.refl _
    · exact List.perm_append_comm (l₁ := [(f, Cell.lst (fs.map D.str)), (l, Cell.lst (ls.map D.str))]) (l₂ := dk p q s)
  unfold w__law_mixed_t1
  walk_at "g"
  refine s_neD (.inl rfl) (eqd_lstS (xs := ls) (ys := []) (.inr ⟨l, rfl, cl⟩) .l hls (by simp)) ?_
  walk_at "g"
  refine ite2M (fun h1 => ?_) (fun h1 => ?_)
  · have hne : ls ≠ [] := fun z => by subst z; cases h1
    have hpos : 0 < ls.length := List.length_pos_iff.mpr hne
    unfold w__law_mixed_l2
    walk_at "g"
    refine ⟨⟨f, _, rfl, cf⟩, ?_⟩
    walk_at "g"
    refine ⟨⟨l, _, rfl, cl⟩, ?_⟩
    walk_at "g"
    refine s_len_cell (.inr ⟨l, rfl, cl⟩) ?_
    rw [List.length_map]
    walk_at "g"
    refine c_drawP T hp hd (by omega) (by omega) fun k s2 k0 k1 hd2 => ?_
    walk_at "g"
    obtain ⟨y, hy⟩ : ∃ y, ls[k.toNat]? = some y := ⟨ls[k.toNat]'(by omega), List.getElem?_eq_getElem _⟩
    refine ⟨3, l, ls.map D.str, k, k.toNat, .str y, rfl, rfl, rfl, ⟨by omega, by omega⟩, ixN_in k0 (by rw [List.length_map]; exact k1), by rw [List.getElem?_map, hy]; rfl, ?_⟩
    refine ⟨2, f, fs.map D.str, rfl, rfl, by rw [List.length_map]; omega, ?_⟩
    walk_at "g"
    refine part_id ⟨(ls.eraseIdx k.toNat).length, ?_, s2, ls.eraseIdx k.toNat, fs ++ [y], hd2, perm_move hy pm, rfl, .inl ?_⟩
    · rw [List.length_eraseIdx_of_lt (by omega)]; omega
    · rw [List.map_append, ← map_erase D.str ls k.toNat]; rfl
  · have he : ls = [] := by
      cases ls with
      | nil => rfl
      | cons a b => exact absurd (by simp) h1
    subst he
    unfold w__law_mixed_a3
    rw [List.append_nil] at pm
    rcases hC with rfl | rfl
    · refine s_frz 2 rfl ?_
      walk_at "g"
      exact ⟨dk p q s, [(l, .lst [])], List.Perm.refl _, h fs s pm hd⟩
    · refine s_frz 0 rfl ?_
      walk_at "g"
      exact ⟨dk p q s, [(l, .lst [])], List.perm_append_comm (l₁ := [(l, Cell.lst [])]) (l₂ := dk p q s), h fs s pm hd⟩


def words22 : List Str := ["on", "off", "a", "b", "like", "zzzz", "list", "old", "all", "open", "take", "drop", "kind", "abc", "xyz", "mv", "gh", "w", "tri", "nu", "pqrs", "ej"]
theorem words22_ok : words22.Nodup ∧ ∀ x ∈ words22, isNameS x = true ∧ PyData.strOk x = true ∧ x.length ≤ 4 ∧ x ≠ "no" := by decide +kernel
theorem cutN_take {α : Type} {l : List α} {n : Int} (h0 : 0 ≤ n) (h1 : n ≤ l.length) : cutL l none (some n) = l.take n.toNat := by
  unfold cutL
  obtain ⟨m, rfl⟩ := Int.eq_ofNat_of_zero_le h0
  have e1 : HT.sIx l.length 0 none = 0 := rfl
  have e2 : HT.sIx l.length l.length (some (m : Int)) = m := by
    rw [HT.sIx_nat]; omega
  rw [e1, e2]
  simp
structure Names (ns : List Str) (k : Int) : Prop where
  len : (ns.length : Int) = k
  nd : ns.Nodup
  mem : ∀ x ∈ ns, x ∈ words22
theorem Names.perm {ns ms : List Str} {k : Int} (h : Names ns k) (p : ms.Perm ns) : Names ms k := ⟨by rw [p.length_eq]; exact h.len, p.nodup_iff.mpr h.nd, fun x hx => h.mem x (p.subset hx)⟩
theorem Names.take {ns : List Str} {k j : Int} (h : Names ns k) (j0 : 0 ≤ j) (j1 : j ≤ k) : Names (ns.take j.toNat) j := by
  have := h.len
  refine ⟨?_, h.nd.sublist (List.take_sublist _ _), fun x hx => h.mem x (List.mem_of_mem_take hx)⟩
  rw [List.length_take]; omega
theorem Names.ok {ns : List Str} {k : Int} (h : Names ns k) : ∀ x ∈ ns, isNameS x = true ∧ PyData.strOk x = true ∧ x.length ≤ 4 ∧ x ≠ "no" := fun x hx => words22_ok.2 x (h.mem x hx)
theorem c_mixed (T : Tp P K mg) {p q : Addr} {s : St4} {xs : List Str} {k : Int} {Xq : QX} {Q : QE} {C r : Cells} (pm : C.Perm (dk p q s ++ r)) (hd : DkOk s) (hx : Names xs k) (hk : k ≤ 1000) (h : ∀ (ys : List Str) (s' : St4), Names ys k → ys.Perm xs → DkOk s' → Q (.lst (ys.map D.str)) (dk p q s' ++ r)) :
    callW (fw__law_mixed T) Xq [.raw (.ref p), .lst (xs.map D.str)] C Q :=
  ⟨dk p q s, r, pm, p_mixed T hd (fun x hm => (hx.ok x hm).2.1) (by have := hx.len; omega) fun ys s' hp hd' => h ys s' (hx.perm hp) hp hd'⟩
theorem p_words (T : Tp P K mg) {p q : Addr} {s : St4} {k : Int} {Qx : QX} {Q : QE} (hd : DkOk s) (k0 : 0 ≤ k) (k1 : k ≤ 22) (h : ∀ (ns : List Str) (s' : St4), Names ns k → DkOk s' → Q (.lst (ns.map D.str)) (dk p q s')) : w__law_words T (.raw (.ref p)) (.int k) Qx Q (dk p q s) := by
  unfold w__law_words
  walk_at "g"
  refine c_mixed T (xs := words22) (k := 22) (r := []) (by rw [List.append_nil]) hd ⟨rfl, words22_ok.1, fun _ h => h⟩ (by decide) fun ys s1 hy hp hd1 => ?_
  rw [List.append_nil]
  walk_at "g"
  rw [cutD_map, cutN_take k0 (by rw [hy.len]; exact k1)]
  exact h _ _ (hy.take k0 k1) hd1
theorem c_words (T : Tp P K mg) {p q : Addr} {s : St4} {k : Int} {Xq : QX} {Q : QE} {C r : Cells} (pm : C.Perm (dk p q s ++ r)) (hd : DkOk s) (k0 : 0 ≤ k) (k1 : k ≤ 22) (h : ∀ (ns : List Str) (s' : St4), Names ns k → DkOk s' → Q (.lst (ns.map D.str)) (dk p q s' ++ r)) :
    callW (fw__law_words T) Xq [.raw (.ref p), .int k] C Q := ⟨dk p q s, r, pm, p_words T hd k0 k1 h⟩
abbrev Kd := Str × List (Option Str)
def oD : Option Str → D
  | none => .non
  | some s => .str s
def kdD (k : Kd) : D := .tup [.str k.1, .lst (k.2.map oD)]
structure BookOk (ns : List Str) (kds : List Kd) (ls os : List Str) (m : Int) : Prop where
  n : ∃ k, 1 ≤ k ∧ k ≤ m ∧ Names ns k
  k : ∃ k, 0 ≤ k ∧ k ≤ m ∧ Names (kds.map (·.1)) k
  t : ∀ x ∈ kds, x.2.length = ns.length ∧ ∀ o ∈ x.2, ∀ s, o = some s → s ∈ ns
  l : ∃ k, Names ls k ∧ ∀ x ∈ ls, x ∈ kds.map (·.1)
  o : ∃ k, Names os k ∧ ∀ x ∈ os, x ∈ kds.map (·.1)
def formD (ns : List Str) (kds : List Kd) (ls os : List Str) : D := .tup [.lst (ns.map D.str), .lst (kds.map kdD), .lst (ls.map D.str), .lst (os.map D.str)]
theorem l_drawsP {α : Type} {p q : Addr} {s : St4} {C0 r : Cells} {f : D → ME} {Q : QE} {ds : List D} (g : α → D) (S : α → Prop) (pm : C0.Perm (dk p q s ++ r)) (hd : DkOk s) (hl : ds.length ≤ 100000) (h0 : 0 < ds.length)
    (step : ∀ d C s (k : QE), C.Perm (dk p q s ++ r) → DkOk s → (∀ x s', S x → DkOk s' → k (g x) (dk p q s' ++ r)) → f d C k)
    (h : ∀ (xs : List α) s', xs.length = ds.length → (∀ x ∈ xs, S x) → DkOk s' → Q (.lst (xs.map g)) (dk p q s' ++ r)) : lcB (fun _ => True) f Q ds [] C0 := by
  refine lcB_inv (fun i acc C => ∃ (xs : List α) (s : St4), DkOk s ∧ acc = xs.map g ∧ xs.length = i ∧ (∀ x ∈ xs, S x) ∧ C.Perm (dk p q s ++ r) ∧ (0 < i → C = dk p q s ++ r)) ⟨[], s, hd, rfl, rfl, by simp, pm, by simp⟩ ?_ ?_ hl ?_
  · rintro i d acc C k hi ⟨xs, s, hd, rfl, rfl, hx, pm, _⟩ hk
    refine ⟨trivial, step d C s k pm hd fun x s' hS hd' => hk _ _ ⟨xs ++ [x], s', hd', by simp, by simp, fun y hy => ?_, List.Perm.refl _, fun _ => rfl⟩⟩
    rcases List.mem_append.mp hy with h | h
    · exact hx y h
    · rw [List.mem_singleton.mp h]; exact hS
  · rintro acc C ⟨xs, s, hd, rfl, hn, hx, _, e⟩
    obtain rfl := e h0
    exact ⟨trivial, h xs s hn hx hd⟩
  · rintro i acc C ⟨xs, _, _, rfl, h, _⟩
    rw [List.length_map]; omega
theorem p_lbook_l1 (T : Tp P K mg) {p q z : Addr} {s : St4} {ns : List Str} {x : Str} {kds : List Kd} {C : Cells} {Qx : QX} {Q : QE} {nx bk : Unit → MB} (hd : DkOk s) (n0 : 0 < ns.length) (n1 : ns.length ≤ 100) (hk : kds.length ≤ 100) (pm : C.Perm (dk p q s ++ [(z, .lst (kds.map kdD))]))
    (hn : ∀ (os : List (Option Str)) (s' : St4), os.length = ns.length → (∀ o ∈ os, ∀ w, o = some w → w ∈ ns) → DkOk s' → nx () (dk p q s' ++ [(z, .lst ((kds ++ [(x, os)]).map kdD))])) :
    w__law_book_l1 T (.raw (.ref p)) (.lst (ns.map D.str)) (.raw (.ref z)) Qx Q (.str x) () nx bk C := by
  have cz : (z, Cell.lst (kds.map kdD)) ∈ C := pm.mem_iff.mpr (by simp)
  unfold w__law_book_l1
  walk_at "g"
  refine ⟨⟨z, _, rfl, cz⟩, ?_⟩
  walk_at "g"
  refine l_drawsP (r := [(z, .lst (kds.map kdD))]) oD (fun o => ∀ w, o = some w → w ∈ ns) pm hd (by rw [List.length_map]; omega) (by rw [List.length_map]; exact n0) (fun d C s k pm hd hk => ?_) fun os s' hlen hos hd' => ?_
  · walk_at "g"
    refine c_drawP T pm hd (by rw [List.length_map]; omega) (by rw [List.length_map]; omega) fun j s2 j0 j1 hd2 => ?_
    have e : ns.map D.str ++ [D.non] = (ns.map some ++ [none]).map oD := by rw [List.map_append, List.map_map]; rfl
    rw [e]
    refine s_ix_at (g := oD) j0 (by rw [List.length_append, List.length_map]; rw [List.length_map] at j1; exact j1) fun o ho => hk o s2 (fun w hw => ?_) hd2
    subst hw
    rcases List.mem_append.mp ho with ho | ho
    · obtain ⟨y, hy, e⟩ := List.mem_map.mp ho
      cases e; exact hy
    · cases List.mem_singleton.mp ho
  · rw [List.length_map] at hlen
    walk_at "g"
    have := hn os s' hlen hos hd'
    rw [List.map_append] at this
    exact part_id this
theorem p_lbook (T : Tp P K mg) {p q : Addr} {s : St4} {m : Int} {Qx : QX} {Q : QE} (hd : DkOk s) (m0 : 1 ≤ m) (m1 : m ≤ 20) (h : ∀ ns kds ls os (s' : St4), BookOk ns kds ls os m → DkOk s' → Q (formD ns kds ls os) (dk p q s')) : w__law_book T (.raw (.ref p)) (.int m) Qx Q (dk p q s) := by
  unfold w__law_book
  walk_at "g"
  refine c_draw0 T hd (by omega) (by omega) fun a s1 a0 a1 hd1 => ?_
  walk_at "g"
  refine c_words T (r := []) (by rw [List.append_nil]) hd1 (by omega) (by omega) fun ns s2 hns hd2 => ?_
  rw [List.append_nil]
  walk_at "g"
  refine c_draw0 T hd2 (by omega) (by omega) fun b s3 b0 b1 hd3 => ?_
  walk_at "g"
  refine c_words T (r := []) (by rw [List.append_nil]) hd3 (by omega) (by omega) fun ks s4 hks hd4 => ?_
  rw [List.append_nil]
  walk_at "g"
  intro z
  walk_at "g"
  refine loop_inv (fun i _ C => ∃ (kds : List Kd) (s : St4), DkOk s ∧ kds.map (·.1) = ks.take i ∧ (∀ x ∈ kds, x.2.length = ns.length ∧ ∀ o ∈ x.2, ∀ w, o = some w → w ∈ ns) ∧ (C = dk p q s ++ [(z, .lst (kds.map kdD))] ∨ C = (z, .lst (kds.map kdD)) :: dk p q s)) ⟨[], s4, hd4, by simp, by simp, .inr rfl⟩ ?_ ?_
  · rintro i d u C nx hi ⟨kds, s, hd, e, ht, hC⟩ hn
    have pm : C.Perm (dk p q s ++ [(z, .lst (kds.map kdD))]) := by
      rcases hC with rfl | rfl
      · exact List.Perm.refl _
      · exact List.perm_append_comm (l₁ := [(z, Cell.lst (kds.map kdD))]) (l₂ := dk p q s)
    have hi2 : i < ks.length := by
      have := (List.getElem?_eq_some_iff.mp hi).1
      rwa [List.length_map] at this
    rw [List.getElem?_map] at hi
    obtain ⟨x, hx, rfl⟩ := Option.map_eq_some_iff.mp hi
    have kl := hks.len
    have nl := hns.len
    have hkl : kds.length ≤ 100 := by
      have : (kds.map (·.1)).length = (ks.take i).length := by rw [e]
      rw [List.length_map, List.length_take] at this
      omega
    refine ⟨trivial, p_lbook_l1 T hd (by omega) (by omega) hkl pm fun os s' hlen hos hd' => hn _ _ ⟨kds ++ [(x, os)], s', hd', ?_, fun y hy => ?_, .inl rfl⟩⟩
    · rw [List.map_append, e, List.take_succ, hx]; rfl
    · rcases List.mem_append.mp hy with hy | hy
      · exact ht y hy
      · rw [List.mem_singleton.mp hy]; exact ⟨hlen, hos⟩
  · rintro u C ⟨kds, s, hd, e, ht, hC⟩
    refine ⟨trivial, ?_⟩
    have pm : C.Perm (dk p q s ++ [(z, .lst (kds.map kdD))]) := by
      rcases hC with rfl | rfl
      · exact List.Perm.refl _
      · exact List.perm_append_comm (l₁ := [(z, Cell.lst (kds.map kdD))]) (l₂ := dk p q s)
    rw [List.length_map, List.take_length] at e
    have kl := hks.len
    unfold w__law_book_a2
    walk_at "g"
    refine c_mixed T pm hd hks (by omega) fun ls s5 hls pl hd5 => ?_
    walk_at "g"
    refine c_draw T hd5 (by rw [List.length_map]; omega) (by rw [List.length_map]; omega) fun j s6 j0 j1 hd6 => ?_
    rw [List.length_map] at j1
    walk_at "g"
    rw [cutD_map, cutN_take j0 (by have := hls.len; omega)]
    refine c_mixed T (r := []) (show (dk p q s6).Perm _ by rw [List.append_nil]) hd6 hks (by omega) fun os s7 hos po hd7 => ?_
    rw [List.append_nil]
    walk_at "g"
    refine c_draw0 T hd7 (by rw [List.length_map]; omega) (by rw [List.length_map]; omega) fun i s8 i0 i1 hd8 => ?_
    rw [List.length_map] at i1
    walk_at "g"
    rw [cutD_map, cutN_take i0 (by have := hos.len; omega)]
    walk_at "g"
    refine ⟨dk p q s8, [], by rw [List.append_nil], h ns kds _ _ s8 ⟨⟨_, by omega, by omega, hns⟩, ⟨b, b0, by omega, by rw [e]; exact hks⟩, ht, ⟨j, hls.take j0 (by omega), fun x hx => ?_⟩, ⟨i, hos.take i0 (by omega), fun x hx => ?_⟩⟩ hd8⟩
    · rw [e]; exact pl.subset (List.mem_of_mem_take hx)
    · rw [e]; exact po.subset (List.mem_of_mem_take hx)
theorem c_lbook (T : Tp P K mg) {p q : Addr} {s : St4} {m : Int} {Xq : QX} {Q : QE} {C r : Cells} (pm : C.Perm (dk p q s ++ r)) (hd : DkOk s) (m0 : 1 ≤ m) (m1 : m ≤ 20) (h : ∀ ns kds ls os (s' : St4), BookOk ns kds ls os m → DkOk s' → Q (formD ns kds ls os) (dk p q s' ++ r)) :
    callW (fw__law_book T) Xq [.raw (.ref p), .int m] C Q := ⟨dk p q s, r, pm, p_lbook T hd m0 m1 h⟩


theorem p_is_sequence (T : Tp P K mg) {d : D} {b : Bool} {C : Cells} {Q : QE} {Qx : QX} (h : SqA K C d b) (q : Q (.bl b) C) : callW (fw_is_sequence T) Qx [d] C Q := by
  refine call_all (show w_is_sequence T d Qx Q C from ?_)
  unfold w_is_sequence
  walk_at "g"
  refine s_isSq h ?_
  exact q


theorem sl_seq {C : Cells} {d : D} {ds : List D} {l u : Option Int} {Q : QE} (h0 : SeqD C d ds) (h : ∀ e, SeqD C e (cutD ds l u) → Q e C) : pSl d l u C Q := by
  rcases h0 with (rfl | ⟨a, rfl, hm⟩) | rfl
  · exact s_sl_lst (h _ .l)
  · exact s_sl_cell (.inr ⟨a, rfl, hm⟩) (h _ .l)
  · exact s_sl_tup (h _ .t)
theorem len_seq {C : Cells} {d : D} {ds : List D} {own1 : D → ME} {Q : QE} (h0 : SeqD C d ds) (q : Q (.int ds.length) C) : on1 (pLen1 own1) [d] C Q := by
  rcases h0 with (rfl | ⟨a, rfl, hm⟩) | rfl
  · exact s_len_lst q
  · exact s_len_cell (.inr ⟨a, rfl, hm⟩) q
  · exact s_len_tup q
theorem enumE_zip {α : Type} (f : α → D) : ∀ (l : List α) (k : Nat), enumD k (l.map f) = (l.zipIdx k).map fun p => .tup [.int (p.2 : Nat), f p.1]
  | [], _ => rfl
  | a :: l, k => by
    rw [List.map_cons, List.zipIdx_cons, List.map_cons, ← enumE_zip f l (k + 1)]
    rfl
theorem nodup_before {α : Type} {l : List α} {i : Nat} {x : α} (nd : l.Nodup) (h : l[i]? = some x) : x ∉ l.take i := by
  intro hm
  obtain ⟨j, hj, e⟩ := List.mem_iff_getElem.mp hm
  obtain ⟨h1, e1⟩ := List.getElem?_eq_some_iff.mp h
  rw [List.length_take] at hj
  rw [List.getElem_take] at e
  have : j = i := (List.getElem_inj nd).mp (e.trans e1.symm)
  omega
theorem p_are_names (T : Tp P K mg) {d : D} {xs : List Str} {C : Cells} {Q : QE} {Qx : QX} (hs : SeqD C d (xs.map D.str)) (hx : ∀ x ∈ xs, isNameS x = true ∧ x.length ≤ 1000) (nd : xs.Nodup) (hl : xs.length ≤ 1000) (q : Q (.bl true) C) : callW (fw_are_names T) Qx [d] C Q := by
  refine call_all (show w_are_names T d Qx Q C from ?_)
  unfold w_are_names
  walk_at "g"
  refine p_is_sequence T (sq_seq hs) ?_
  walk_at "g"
  refine s_en_seq hs fun P hP => ?_
  rw [enumE_zip]
  refine lcB_map (fun p : Str × Nat => .tup [.int (p.2 : Nat), .str p.1]) (fun _ => D.bl true) (hP _ hs) (fun p hp k hk => ?_) (by rw [List.length_zipIdx]; omega) ?_
  · obtain ⟨x, i⟩ := p
    have hi : xs[i]? = some x := by
      have := List.mem_zipIdx_iff_getElem?.mp hp
      simpa using this
    have hm := List.mem_of_getElem? hi
    have hlt := (List.getElem?_eq_some_iff.mp hi).1
    walk_at "g"
    refine p_is_nameS T (show x.length ≤ 100000 by have := (hx x hm).2; omega) ?_
    rw [show isNameS (x, i).1 = true from (hx x hm).1]
    walk_at "g"
    refine sl_seq hs fun e he => ?_
    walk_at "g"
    rw [cutD_map, cutN_take (by omega) (by omega)] at he
    refine s_notInS he ?_
    rw [show decide (x ∈ xs.take ((i : Nat) : Int).toNat) = false from decide_eq_false (nodup_before nd (by simpa using hi))]
    exact hk
  · walk_at "g"
    rw [show (xs.zipIdx.all fun _ => true) = true from List.all_eq_true.mpr fun _ _ => rfl]
    exact q


theorem p_are_some (T : Tp P K mg) {d e : D} {xs ys : List Str} {C : Cells} {Q : QE} {Qx : QX} (hs : SeqD C d (xs.map D.str)) (he : SeqD C e (ys.map D.str)) (hx : ∀ x ∈ xs, isNameS x = true ∧ x.length ≤ 1000) (nd : xs.Nodup) (hl : xs.length ≤ 1000) (hm : ∀ x ∈ xs, x ∈ ys) (q : Q (.bl true) C) : callW (fw_are_some T) Qx [d, e] C Q := by
  refine call_all (show w_are_some T d e Qx Q C from ?_)
  unfold w_are_some
  walk_at "g"
  refine p_are_names T hs hx nd hl ?_
  walk_at "g"
  refine s_it_seq hs fun P hP => ?_
  refine lcB_map D.str (fun _ => D.bl true) (hP _ hs) (fun x hp k hk => ?_) (by omega) ?_
  · walk_at "g"
    rw [show decide (x ∈ ys) = true from decide_eq_true (hm x hp)]
    exact hk
  · walk_at "g"
    rw [show (xs.all fun _ => true) = true from List.all_eq_true.mpr fun _ _ => rfl]
    exact q


theorem p_is_targets (T : Tp P K mg) {d e : D} {os : List (Option Str)} {ys : List Str} {C : Cells} {Q : QE} {Qx : QX} (hs : SeqD C d (os.map oD)) (he : SeqD C e (ys.map D.str)) (hl : os.length ≤ 1000) (hn : os.length = ys.length) (hx : ∀ o ∈ os, ∀ x, o = some x → isNameS x = true ∧ x.length ≤ 1000 ∧ x ∈ ys) (q : Q (.bl true) C) : callW (fw_is_targets T) Qx [d, e] C Q := by
  refine call_all (show w_is_targets T d e Qx Q C from ?_)
  unfold w_is_targets
  walk_at "g"
  refine p_is_sequence T (sq_seq hs) ?_
  walk_at "g"
  refine len_seq hs ?_
  walk_at "g"
  refine len_seq he ?_
  rw [List.length_map, List.length_map, hn]
  walk_at "g"
  refine s_it_seq hs fun P hP => ?_
  refine lcB_map oD (fun _ => D.bl true) (hP _ hs) (fun o hp k hk => ?_) (by omega) ?_
  · cases o with
    | none =>
      dsimp only [oD]
      walk_at "g"
      first | exact hk | exact ifT hk
    | some x =>
      obtain ⟨h1, h2, h3⟩ := hx _ hp x rfl
      dsimp only [oD]
      walk_at "g"
      try refine ifF ?_
      walk_at "g"
      rw [h1]
      walk_at "g"
      rw [show decide (x ∈ ys) = true from decide_eq_true h3]
      exact hk
  · walk_at "g"
    rw [show (os.all fun _ => true) = true from List.all_eq_true.mpr fun _ _ => rfl]
    exact q


def kx (p : Kd × D) : D := .tup [.str p.1.1, p.2]
structure KxOk (C : Cells) (ns : List Str) (ps : List (Kd × D)) : Prop where
  s : ∀ p ∈ ps, SeqD C p.2 (p.1.2.map oD)
  n : ∀ p ∈ ps, p.1.2.length = ns.length
  t : ∀ p ∈ ps, ∀ o ∈ p.1.2, ∀ x, o = some x → x ∈ ns
structure NamesOk (xs : List Str) : Prop where
  o : ∀ x ∈ xs, isNameS x = true ∧ x.length ≤ 1000
  d : xs.Nodup
  l : xs.length ≤ 1000
theorem p_are_kinds (T : Tp P K mg) {d e : D} {ps : List (Kd × D)} {ns : List Str} {C : Cells} {Q : QE} {Qx : QX} (hs : SeqD C d (ps.map kx)) (he : SeqD C e (ns.map D.str)) (hk : KxOk C ns ps) (hn : NamesOk ns) (hp : NamesOk (ps.map fun p => p.1.1)) (q : Q (.bl true) C) : callW (fw_are_kinds T) Qx [d, e] C Q := by
  have hl := hp.l
  rw [List.length_map] at hl
  refine call_all (show w_are_kinds T d e Qx Q C from ?_)
  unfold w_are_kinds
  walk_at "g"
  refine p_is_sequence T (sq_seq hs) ?_
  walk_at "g"
  refine s_it_seq hs fun P hP => ?_
  refine lcB_map kx (fun _ => D.bl true) (hP _ hs) (fun p hm k hk => ?_) (by omega) ?_
  · dsimp only [kx]
    walk_at "g"
    refine s_isi (.ty _) (.tup _) (by rfl) ?_
    walk_at "g"
    exact hk
  walk_at "g"
  rw [show (ps.all fun _ => true) = true from List.all_eq_true.mpr fun _ _ => rfl]
  walk_at "g"
  refine s_it_seq hs fun P hP => ?_
  refine lcB_map kx (fun p => D.str p.1.1) (hP _ hs) (fun p hm k hk => ?_) (by omega) ?_
  · dsimp only [kx]
    walk_at "g"
    exact hk
  walk_at "g"
  refine p_are_names T (xs := ps.map fun p => p.1.1) (.inl (.inl (by rw [List.map_map]; rfl))) hp.o hp.d hp.l ?_
  walk_at "g"
  refine s_it_seq hs fun P hP => ?_
  refine lcB_map kx (fun _ => D.bl true) (hP _ hs) (fun p hm k h => ?_) (by omega) ?_
  · dsimp only [kx]
    walk_at "g"
    refine p_is_targets T (hk.s p hm) he (by rw [hk.n p hm]; exact hn.l) (hk.n p hm) (fun o ho x hx => ?_) h
    have hm2 := hk.t p hm o ho x hx
    exact ⟨(hn.o x hm2).1, (hn.o x hm2).2, hm2⟩
  · walk_at "g"
    rw [show (ps.all fun _ => true) = true from List.all_eq_true.mpr fun _ _ => rfl]
    exact q


theorem any_key {α : Type} (ky : α → Str) (x : Str) : ∀ m : List α, x ∉ m.map ky → ((m.map fun a => (Sum.inr (ky a) : Key)).any fun k => decide (k = .inr x)) = false
  | [], _ => rfl
  | a :: m, h => by
    rw [List.map_cons, List.any_cons, any_key ky x m fun z => h (by rw [List.map_cons]; exact List.mem_cons_of_mem _ z)]
    have : ky a ≠ x := fun e => h (by rw [List.map_cons, e]; exact List.mem_cons_self)
    simp [this]
theorem dcB_go {α : Type} {P : Cells → Prop} {f g : D → ME} {Q : QE} {C : Cells} (a : α → D) (ky : α → Str) (vl : α → D) (hp : P C) : ∀ (l m : List α), ((m ++ l).map ky).Nodup → (m ++ l).length < 100000 → (∀ x ∈ l, ∀ k : QE, k (.str (ky x)) C → f (a x) C k) → (∀ x ∈ l, ∀ k : QE, k (vl x) C → g (a x) C k) →
    Q (.dic ((m ++ l).map fun x => .inr (ky x)) ((m ++ l).map vl)) C → dcB P f g Q (l.map a) (m.map fun x => .inr (ky x)) (m.map vl) C
  | [], m, nd, hl, hf, hg, q => by
    rw [List.append_nil] at q
    exact ⟨hp, q⟩
  | x :: l, m, nd, hl, hf, hg, q => by
    refine ⟨hp, hf x List.mem_cons_self _ (hg x List.mem_cons_self _ ⟨.inr (ky x), rfl, ?_, ?_⟩)⟩
    · rw [List.length_map]; rw [List.length_append] at hl; omega
    have hx : x :: l = [x] ++ l := rfl
    have hn : ky x ∉ m.map ky := fun hm => by
      rw [List.map_append, List.map_cons] at nd
      exact (List.nodup_append.mp nd).2.2 _ hm _ List.mem_cons_self rfl
    have e := any_key ky (ky x) m hn
    have := dcB_go a ky vl hp l (m ++ [x]) (by rw [List.append_assoc]; exact nd) (by rw [List.append_assoc]; exact hl) (fun y hy => hf y (List.mem_cons_of_mem _ hy)) (fun y hy => hg y (List.mem_cons_of_mem _ hy)) (by rw [List.append_assoc]; exact q)
    unfold putKs putD
    rw [e, if_neg (by decide), if_neg (by decide)]
    rw [List.map_append, List.map_append] at this
    exact this
theorem dcB_map {α : Type} {P : Cells → Prop} {f g : D → ME} {Q : QE} {C : Cells} {l : List α} (a : α → D) (ky : α → Str) (vl : α → D) (hp : P C) (nd : (l.map ky).Nodup) (hl : l.length < 100000) (hf : ∀ x ∈ l, ∀ k : QE, k (.str (ky x)) C → f (a x) C k) (hg : ∀ x ∈ l, ∀ k : QE, k (vl x) C → g (a x) C k)
    (q : Q (.dic (l.map fun x => .inr (ky x)) (l.map vl)) C) : dcB P f g Q (l.map a) [] [] C := dcB_go a ky vl hp l [] nd hl hf hg q
def inB (kds : List Kd) (ls : List Str) : List Str := (kds.map (·.1)).filter fun n => decide (n ∈ ls)
def chD (b : Bool) (ns : List Str) : D := if b = true then .tpn (ns.map D.str) else .tup (ns.map D.str)
theorem wk_chD (b : Bool) (ns : List Str) : wk (chD b ns) = .tup (ns.map D.str) := by cases b <;> rfl
def bookF (b : Bool) (ns : List Str) (kds : List Kd) (ls os : List Str) : List D := [chD b ns, .tup (kds.map fun k => D.str k.1), .dic (kds.map fun k => .inr k.1) (kds.map fun k => D.tup (k.2.map oD)), .tup ((inB kds ls).map D.str), .tup ((inB kds os).map D.str)]
def bookD (c : Addr) (b : Bool) (ns : List Str) (kds : List Kd) (ls os : List Str) : D := .ins c ["choices", "kinds", "targets", "loose", "others"] (bookF b ns kds ls os)
def ChOk (C : Cells) (b : Bool) (d1 : D) (ns : List Str) : Prop := (SeqD C d1 (ns.map D.str) ∧ (b = true → LstD C d1 (ns.map D.str))) ∨ (b = true ∧ d1 = .tpn (ns.map D.str))
theorem ChOk.sub {C C' : Cells} {b : Bool} {d1 : D} {ns : List Str} (h : ChOk C b d1 ns) (s : ∀ x ∈ C, x ∈ C') : ChOk C' b d1 ns := h.elim (fun h => .inl ⟨seqD_sub s h.1, fun e => lstD_sub s (h.2 e)⟩) .inr
theorem ChOk.seq {C : Cells} {b : Bool} {d1 : D} {ns : List Str} (h : ChOk C b d1 ns) : SeqD C (wk d1) (ns.map D.str) := by
  rcases h with ⟨(rfl | ⟨a, rfl, hm⟩) | rfl, _⟩ | ⟨_, rfl⟩
  · exact .l
  · exact .inl (.inr ⟨a, rfl, hm⟩)
  · exact .t
  · exact .t
theorem ChOk.tup {C : Cells} {b : Bool} {d1 : D} {ns : List Str} {Q : QE} (h : ChOk C b d1 ns) (q : Q (chD b ns) C) : on1 pTupleN [d1] C Q := by
  rcases h with ⟨h1, h2⟩ | ⟨rfl, rfl⟩
  · cases b with
    | true => exact s_tupleN (h2 rfl) q
    | false => exact s_tupleN' (s_tuple_seq h1 q)
  · exact s_tupleS q
structure BkArgs (C : Cells) (b : Bool) (d1 d2 d3 d4 : D) (ns : List Str) (ps : List (Kd × D)) (ls os : List Str) : Prop where
  ch : ChOk C b d1 ns
  s2 : SeqD C d2 (ps.map kx)
  s3 : SeqD C d3 (ls.map D.str)
  s4 : SeqD C d4 (os.map D.str)
  n : NamesOk ns
  p : 0 < ns.length
  k : KxOk C ns ps
  kn : NamesOk (ps.map fun p => p.1.1)
  ln : NamesOk ls
  on : NamesOk os
  lk : ∀ x ∈ ls, x ∈ ps.map fun p => p.1.1
  ok : ∀ x ∈ os, x ∈ ps.map fun p => p.1.1
theorem BkArgs.sub {C C' : Cells} {b : Bool} {d1 d2 d3 d4 : D} {ns : List Str} {ps : List (Kd × D)} {ls os : List Str} (h : BkArgs C b d1 d2 d3 d4 ns ps ls os) (s : ∀ x ∈ C, x ∈ C') : BkArgs C' b d1 d2 d3 d4 ns ps ls os :=
  { h with ch := h.ch.sub s, s2 := seqD_sub s h.s2, s3 := seqD_sub s h.s3, s4 := seqD_sub s h.s4, k := { h.k with s := fun p hp => seqD_sub s (h.k.s p hp) } }
theorem p_Book_init (T : Tp P K mg) {z : Addr} {b : Bool} {d1 d2 d3 d4 : D} {ns : List Str} {ps : List (Kd × D)} {ls os : List Str} {C' : Cells} {Q : QE} {Qx : QX} (h : BkArgs C' b d1 d2 d3 d4 ns ps ls os)
    (q : Q .non ((z, .ins T.c_Book ["choices", "kinds", "targets", "loose", "others"] (bookF b ns (ps.map (·.1)) ls os)) :: C')) : w_Book_init T (.raw (.ref z)) d1 d2 d3 d4 Qx Q ((z, .ins T.c_Book [] []) :: C') := by
  have hl := h.kn.l
  rw [List.length_map] at hl
  have hnl := h.n.l
  have hp := h.p
  have up : ∀ c : Cell, BkArgs ((z, c) :: C') b d1 d2 d3 d4 ns ps ls os := fun c => h.sub fun x hx => List.mem_cons_of_mem _ hx
  unfold w_Book_init
  walk_at "g"
  refine p_are_names T (up _).ch.seq h.n.o h.n.d h.n.l ?_
  walk_at "g"
  refine len_seq (up _).ch.seq ?_
  rw [List.length_map]
  walk_at "g"
  refine p_are_kinds T (up _).s2 (up _).ch.seq (up _).k h.n h.kn ?_
  walk_at "g"
  refine (up _).ch.tup ?_
  walk_at "g"
  refine s_it_seq (up _).s2 fun P hP => ?_
  refine lcB_map kx (fun p => D.str p.1.1) (hP _ (up _).s2) (fun p hm k hk => ?_) (by omega) ?_
  · dsimp only [kx]
    walk_at "g"
    exact hk
  walk_at "g"
  refine s_fld (.inr ⟨z, rfl, List.mem_cons_self⟩) T.i_Book.c T.na_Book_kinds (by rfl) ?_
  walk_at "g"
  have ek : ∀ C, SeqD C (.tup (ps.map fun p => D.str p.1.1)) ((ps.map fun p => p.1.1).map D.str) := fun C => by rw [List.map_map]; exact .t
  refine p_are_some T (up _).s3 (ek _) h.ln.o h.ln.d h.ln.l h.lk ?_
  walk_at "g"
  refine s_fld (.inr ⟨z, rfl, List.mem_cons_self⟩) T.i_Book.c T.na_Book_kinds (by rfl) ?_
  walk_at "g"
  refine p_are_some T (up _).s4 (ek _) h.on.o h.on.d h.on.l h.ok ?_
  walk_at "g"
  refine s_it_seq (up _).s2 fun P hP => ?_
  refine dcB_map kx (fun p => p.1.1) (fun p => D.tup (p.1.2.map oD)) (hP _ (up _).s2) h.kn.d (by omega) (fun p hm k hk => ?_) (fun p hm k hk => ?_) ?_
  · dsimp only [kx]
    walk_at "g"
    exact hk
  · dsimp only [kx]
    walk_at "g"
    refine s_tuple_seq ((up _).k.s p hm) ?_
    exact hk
  walk_at "g"
  refine s_fld (.inr ⟨z, rfl, List.mem_cons_self⟩) T.i_Book.c T.na_Book_kinds (by rfl) ?_
  walk_at "g"
  refine lcB1_map (l := ps) (fun p => D.str p.1.1) (fun p => D.str p.1.1) (fun p => decide (p.1.1 ∈ ls)) trivial (fun p hm k hk => ?_) (fun p hm _ k hk => ?_) (by omega) ?_
  · walk_at "g"
    refine s_inS (up _).s3 ?_
    walk_at "g"
    exact hk
  · exact hk
  walk_at "g"
  refine s_fld (.inr ⟨z, rfl, List.mem_cons_self⟩) T.i_Book.c T.na_Book_kinds (by rfl) ?_
  walk_at "g"
  refine lcB1_map (l := ps) (fun p => D.str p.1.1) (fun p => D.str p.1.1) (fun p => decide (p.1.1 ∈ os)) trivial (fun p hm k hk => ?_) (fun p hm _ k hk => ?_) (by omega) ?_
  · walk_at "g"
    refine s_inS (up _).s4 ?_
    walk_at "g"
    exact hk
  · exact hk
  walk_at "g"
  have e : bookF b ns (ps.map (·.1)) ls os = [chD b ns, .tup (ps.map fun p => D.str p.1.1), .dic (ps.map fun p => .inr p.1.1) (ps.map fun p => D.tup (p.1.2.map oD)), .tup ((ps.filter fun p => decide (p.1.1 ∈ ls)).map fun p => D.str p.1.1), .tup ((ps.filter fun p => decide (p.1.1 ∈ os)).map fun p => D.str p.1.1)] := by
    unfold bookF inB
    simp only [List.map_map, List.filter_map]
    rfl
  rw [e] at q
  exact q
theorem mk_Book (T : Tp P K mg) {b : Bool} {d1 d2 d3 d4 : D} {ns : List Str} {ps : List (Kd × D)} {ls os : List Str} {C : Cells} {Q : QE} {Xq : QX} (h : BkArgs C b d1 d2 d3 d4 ns ps ls os) (q : Q (bookD T.c_Book b ns (ps.map (·.1)) ls os) C) : pMkF (fw_Book_init T) Xq T.c_Book [d1, d2, d3, d4] C Q :=
  mkF_of (ns := []) (fs := []) fun z => p_Book_init T h ⟨rfl, 0, z, _, _, _, rfl, rfl, q⟩


def kSp : Str := " "
def kNl : Str := "\n"
def lineV (ns : List Str) : Str := Txt.join kSp ("values" :: ns)
def wordsK (k : Kd) : List Str := "kind" :: k.1 :: k.2.map fun o => o.getD "no"
def lineK (k : Kd) : Str := Txt.join kSp (wordsK k)
def lineL (w : Str) (xs : List Str) : List Str := if xs = [] then [] else [Txt.join kSp (w :: xs)]
def bookLs (ns : List Str) (kds : List Kd) (l1 l2 : List Str) : List Str := lineV ns :: kds.map lineK ++ lineL "loose" l1 ++ lineL "others" l2
def bookT (ns : List Str) (kds : List Kd) (ls os : List Str) : Str := Txt.join kNl (bookLs ns kds (inB kds ls) (inB kds os))
theorem sum_le {m : Nat} : ∀ {xs : List Str}, (∀ x ∈ xs, x.length ≤ m) → (xs.map (·.length)).sum ≤ xs.length * m
  | [], _ => by simp
  | x :: xs, h => by
    have h1 := h x List.mem_cons_self
    have h2 := sum_le fun y hy => h y (List.mem_cons_of_mem _ hy)
    rw [List.map_cons, List.sum_cons, List.length_cons, Nat.succ_mul]
    omega
structure BkLen (ns : List Str) (kds : List Kd) : Prop where
  n : ns.length ≤ 50
  k : kds.length ≤ 50
  nl : ∀ x ∈ ns, x.length ≤ 4
  kl : ∀ x ∈ kds, x.1.length ≤ 4
  tn : ∀ x ∈ kds, x.2.length ≤ 50
  tl : ∀ x ∈ kds, ∀ o ∈ x.2, ∀ s, o = some s → s.length ≤ 4 ∧ s.length ≠ 0
theorem words_len {w : Str} {xs : List Str} (hw : w.length ≤ 6) (hl : xs.length ≤ 51) (hx : ∀ x ∈ xs, x.length ≤ 4) : ((w :: xs).map (·.length)).sum + (w :: xs).length * kSp.length ≤ 300 ∧ (Txt.join kSp (w :: xs)).length ≤ 300 := by
  have h1 := sum_le hx
  have h2 := txt_join_len kSp (w :: xs)
  have e : kSp.length = 1 := by decide
  simp only [List.map_cons, List.sum_cons, List.length_cons, e, Nat.mul_one] at h1 h2 ⊢
  omega
theorem lines_len {xs : List Str} (hl : xs.length ≤ 60) (hx : ∀ x ∈ xs, x.length ≤ 300) : (xs.map (·.length)).sum + xs.length * kNl.length ≤ 20000 ∧ (Txt.join kNl xs).length ≤ 20000 := by
  have h1 := sum_le hx
  have h2 := txt_join_len kNl xs
  have e : kNl.length = 1 := by decide
  rw [e, Nat.mul_one] at h2 ⊢
  omega
theorem BkLen.inB {ns : List Str} {kds : List Kd} (h : BkLen ns kds) (ls : List Str) : (inB kds ls).length ≤ 50 ∧ ∀ x ∈ Kk.inB kds ls, x.length ≤ 4 := by
  refine ⟨Nat.le_trans (List.length_filter_le _ _) (by rw [List.length_map]; exact h.k), fun x hx => ?_⟩
  obtain ⟨k, hk, rfl⟩ := List.mem_map.mp (List.mem_filter.mp hx).1
  exact h.kl k hk
theorem BkLen.lineK {ns : List Str} {kds : List Kd} (h : BkLen ns kds) {k : Kd} (hk : k ∈ kds) : ((wordsK k).map (·.length)).sum + (wordsK k).length * kSp.length ≤ 300 ∧ (Kk.lineK k).length ≤ 300 := by
  refine words_len (w := "kind") (by decide) (by rw [List.length_cons, List.length_map]; have := h.tn k hk; omega) fun x hx => ?_
  rcases List.mem_cons.mp hx with rfl | hx
  · exact h.kl k hk
  obtain ⟨o, ho, rfl⟩ := List.mem_map.mp hx
  cases o with
  | none => decide
  | some s => exact (h.tl k hk _ ho s rfl).1
theorem lineL_len {w : Str} {xs : List Str} (hw : w.length ≤ 6) (hl : xs.length ≤ 50) (hx : ∀ x ∈ xs, x.length ≤ 4) : (lineL w xs).length ≤ 1 ∧ ∀ y ∈ lineL w xs, y.length ≤ 300 := by
  unfold lineL
  by_cases e : xs = []
  · rw [if_pos e]; exact ⟨by simp, by simp⟩
  · rw [if_neg e]
    refine ⟨by simp, fun y hy => ?_⟩
    rw [List.mem_singleton.mp hy]
    exact (words_len hw (by omega) hx).2
theorem BkLen.lines {ns : List Str} {kds : List Kd} (h : BkLen ns kds) (ls os : List Str) : (bookLs ns kds (Kk.inB kds ls) (Kk.inB kds os)).length ≤ 60 ∧ ∀ x ∈ bookLs ns kds (Kk.inB kds ls) (Kk.inB kds os), x.length ≤ 300 := by
  have a := lineL_len (w := "loose") (by decide) (h.inB ls).1 (h.inB ls).2
  have b := lineL_len (w := "others") (by decide) (h.inB os).1 (h.inB os).2
  have k := h.k
  unfold bookLs
  refine ⟨?_, fun x hx => ?_⟩
  · rw [List.length_append, List.length_append, List.length_cons, List.length_map]
    omega
  · rcases List.mem_append.mp hx with hx | hx
    · rcases List.mem_append.mp hx with hx | hx
      · rcases List.mem_cons.mp hx with rfl | hx
        · exact (words_len (by decide) (by have := h.n; omega) h.nl).2
        · obtain ⟨k, hk, rfl⟩ := List.mem_map.mp hx
          exact (h.lineK hk).2
      · exact a.2 x hx
    · exact b.2 x hx
theorem look_map {α : Type} (ky : α → Str) (vl : α → D) : ∀ {l : List α} {x : α}, (l.map ky).Nodup → x ∈ l → lookD (l.map fun a => .inr (ky a)) (l.map vl) (.inr (ky x)) = some (vl x)
  | a :: l, x, nd, hx => by
    rw [List.map_cons, List.map_cons]
    unfold lookD
    by_cases e : ky a = ky x
    · rcases List.mem_cons.mp hx with rfl | hx
      · rw [if_pos rfl]
      · rw [List.map_cons, List.nodup_cons] at nd
        exact absurd (e ▸ List.mem_map_of_mem hx) nd.1
    · rw [if_neg (fun h => e (by injection h))]
      rcases List.mem_cons.mp hx with rfl | hx
      · exact absurd rfl e
      · rw [List.map_cons, List.nodup_cons] at nd
        exact look_map ky vl nd.2 hx
theorem tr_nameD {C : Cells} {o : Option Str} (h : ∀ s, o = some s → s.length ≤ 4 ∧ s.length ≠ 0) : TrD C (oD o) o.isSome := by
  cases o with
  | none => rfl
  | some s =>
    have := h s rfl
    refine ⟨by omega, ?_⟩
    show true = ((s.length : Int) != 0)
    have : ((s.length : Int) == 0) = false := beq_eq_false_iff_ne.mpr (by omega)
    rw [bne, this]; rfl
theorem p_Book_str (T : Tp P K mg) {b : Bool} {ns : List Str} {kds : List Kd} {ls os : List Str} {Q : QE} {Qx : QX} (h : BkLen ns kds) (nd : (kds.map (·.1)).Nodup) (q : ∀ r, r = bookT ns kds ls os → Q (.str r) []) : w_Book_str T (bookD T.c_Book b ns kds ls os) Qx Q [] := by
  have hk := h.k
  unfold w_Book_str bookD bookF
  walk_at "g"
  refine s_fldW (.inl rfl) T.i_Book.c T.na_Book_choices (by rfl) ?_
  rw [wk_chD]
  refine ⟨_, .t, ?_⟩
  walk_at "g"
  rw [List.append_nil]
  have w0 := words_len (w := "values") (by decide) (by have := h.n; omega) h.nl
  refine ⟨by rw [List.length_cons, List.length_map]; have := h.n; omega, ?_⟩
  refine s_join (zs := "values" :: ns) .l ?_
  refine ⟨Nat.le_trans w0.1 (by decide), ?_⟩
  walk_at "g"
  intro z
  walk_at "g"
  refine loop_inv (fun i _ C => C = [(z, .lst ((lineV ns :: (kds.take i).map lineK).map D.str))]) rfl ?_ ?_
  · rintro i d u C nx hi rfl hn
    refine ⟨trivial, ?_⟩
    rw [List.getElem?_map] at hi
    obtain ⟨k, hx, rfl⟩ := Option.map_eq_some_iff.mp hi
    have hm := List.mem_of_getElem? hx
    have hlt := (List.getElem?_eq_some_iff.mp hx).1
    have wk := h.lineK hm
    unfold w_Book_str_l1
    walk_at "g"
    refine .inr ⟨_, _, .inr k.1, _, .inl rfl, rfl, look_map (fun k : Kd => k.1) (fun k => D.tup (k.2.map oD)) nd hm, ?_⟩
    walk_at "g"
    refine lcB_map oD (fun o => D.str (o.getD "no")) trivial (fun o ho kk hk => ?_) (by have := h.tn k hm; omega) ?_
    · refine ⟨o.isSome, tr_nameD (h.tl k hm o ho), ?_⟩
      cases o with
      | none => exact hk
      | some s => exact hk
    refine ⟨_, .l, ?_⟩
    walk_at "g"
    rw [List.append_nil]
    have ew : (D.str "kind" :: D.str k.1 :: k.2.map fun o => D.str (o.getD "no")) = (wordsK k).map D.str := by unfold wordsK; rw [List.map_cons, List.map_cons, List.map_map]; rfl
    rw [ew]
    refine ⟨by rw [List.length_map]; unfold wordsK; rw [List.length_cons, List.length_cons, List.length_map]; have := h.tn k hm; omega, ?_⟩
    refine s_join (zs := wordsK k) .l ?_
    refine ⟨Nat.le_trans wk.1 (by decide), ?_⟩
    refine s_app 0 rfl ⟨by rw [List.length_map, List.length_cons, List.length_map, List.length_take]; omega, part_id (hn _ _ ?_)⟩
    rw [List.take_succ, hx]
    simp only [Option.toList_some, List.map_append, List.map_cons, List.map_nil, List.cons_append]
    rfl
  · rintro u C rfl
    refine ⟨trivial, ?_⟩
    rw [List.length_map, List.take_length]
    have a1 := h.inB ls
    have a2 := h.inB os
    have hb := lines_len (h.lines ls os).1 (h.lines ls os).2
    have f4 : w_Book_str_j4 T (.raw (.ref z)) Qx Q () [(z, .lst ((bookLs ns kds (inB kds ls) (inB kds os)).map D.str))] := by
      unfold w_Book_str_j4
      walk_at "g"
      refine ⟨Nat.le_trans hb.1 (by decide), ?_⟩
      exact ⟨[], [_], List.Perm.refl _, q _ rfl⟩
    have f3 : w_Book_str_j3 T (bookD T.c_Book b ns kds ls os) (.raw (.ref z)) Qx Q () [(z, .lst ((lineV ns :: kds.map lineK ++ lineL "loose" (inB kds ls)).map D.str))] := by
      have wl := words_len (w := "others") (by decide) (by omega) a2.2
      have ll := (lineL_len (w := "loose") (by decide) a1.1 a1.2).1
      unfold bookLs at f4
      unfold w_Book_str_j3 bookD bookF
      generalize inB kds os = xs at *
      walk_at "g"
      refine ite2M (fun h1 => ?_) (fun h1 => ?_)
      · have e : ¬ xs = [] := by rintro rfl; simp at h1
        walk_at "g"
        refine ⟨_, .t, (show (D.str "others" :: (xs.map D.str ++ [])).length ≤ 100000 ∧ pJoin _ (D.lst (D.str "others" :: (xs.map D.str ++ []))) _ _ from ?_)⟩
        rw [List.append_nil]
        refine ⟨by rw [List.length_cons, List.length_map]; omega, ?_⟩
        refine s_join (zs := "others" :: xs) .l ?_
        refine ⟨Nat.le_trans wl.1 (by decide), ?_⟩
        refine s_app 0 rfl ⟨by rw [List.length_map, List.length_append, List.length_cons, List.length_map]; omega, ?_⟩
        have e2 : lineL "others" xs = [Txt.join kSp ("others" :: xs)] := if_neg e
        rw [e2, List.map_append] at f4
        exact f4
      · have e : xs = [] := by
          cases xs with
          | nil => rfl
          | cons a b => exact absurd (by simp) h1
        rw [show lineL "others" xs = [] from if_pos e, List.append_nil] at f4
        exact f4
    have wl := words_len (w := "loose") (by decide) (by omega) a1.2
    unfold bookD bookF at f3
    unfold w_Book_str_a2
    generalize inB kds ls = xs at *
    walk_at "g"
    refine ite2M (fun h1 => ?_) (fun h1 => ?_)
    · have e : ¬ xs = [] := by rintro rfl; simp at h1
      walk_at "g"
      refine ⟨_, .t, (show (D.str "loose" :: (xs.map D.str ++ [])).length ≤ 100000 ∧ pJoin _ (D.lst (D.str "loose" :: (xs.map D.str ++ []))) _ _ from ?_)⟩
      rw [List.append_nil]
      refine ⟨by rw [List.length_cons, List.length_map]; omega, ?_⟩
      refine s_join (zs := "loose" :: xs) .l ?_
      refine ⟨Nat.le_trans wl.1 (by decide), ?_⟩
      refine s_app 0 rfl ⟨by rw [List.length_map, List.length_cons, List.length_map]; omega, ?_⟩
      rw [show lineL "loose" xs = [Txt.join kSp ("loose" :: xs)] from if_neg e, List.map_append] at f3
      exact f3
    · have e : xs = [] := by
        cases xs with
        | nil => rfl
        | cons a b => exact absurd (by simp) h1
      rw [show lineL "loose" xs = [] from if_pos e, List.append_nil] at f3
      exact f3
theorem o_Book_str (T : Tp P K mg) {b : Bool} {ns : List Str} {kds : List Kd} {ls os : List Str} {C : Cells} {Q : QE} (h : BkLen ns kds) (nd : (kds.map (·.1)).Nodup) (q : ∀ r, r = bookT ns kds ls os → Q (.str r) C) : ownStr T.c_Book (fw_Book_str T) (bookD T.c_Book b ns kds ls os) C Q :=
  ⟨_, _, .inl rfl, [], C, List.Perm.refl _, p_Book_str T (Qx := fun _ _ _ => False) h nd fun r e => ⟨r, rfl, q r e⟩⟩
theorem p_Book_eq (T : Tp P K mg) {b b2 : Bool} {ns ns2 : List Str} {kds kds2 : List Kd} {ls os ls2 os2 : List Str} {C : Cells} {Q : QE} {Qx : QX} (h1 : BkLen ns kds) (n1 : (kds.map (·.1)).Nodup) (h2 : BkLen ns2 kds2) (n2 : (kds2.map (·.1)).Nodup)
    (q : Q (.bl (decide (bookT ns kds ls os = bookT ns2 kds2 ls2 os2))) C) : w_Book_eq T (bookD T.c_Book b ns kds ls os) (bookD T.c_Book b2 ns2 kds2 ls2 os2) Qx Q C := by
  unfold w_Book_eq
  walk_at "g"
  refine s_isi (.own _) (.ins T.i_Book) kit_self ?_
  walk_at "g"
  refine s_str_own (o_Book_str T h1 n1 fun r1 e1 => ?_)
  walk_at "g"
  refine s_str_own (o_Book_str T h2 n2 fun r2 e2 => ?_)
  rw [← e1, ← e2] at q
  walk_at "g"
  exact q
structure BkOk (ns : List Str) (kds : List Kd) : Prop where
  len : BkLen ns kds
  n : NamesOk ns
  p : 0 < ns.length
  kn : NamesOk (kds.map (·.1))
  so : ∀ x ∈ ns, PyData.strOk x = true
  ko : ∀ x ∈ kds, PyData.strOk x.1 = true
  tn : ∀ x ∈ kds, x.2.length = ns.length
  tm : ∀ x ∈ kds, ∀ o ∈ x.2, ∀ s, o = some s → s ∈ ns
theorem eq_Book (T : Tp P K mg) {b b2 : Bool} {ns ns2 : List Str} {kds kds2 : List Kd} {ls os ls2 os2 : List Str} {C : Cells} {Q : QE} (h1 : BkOk ns kds) (h2 : BkOk ns2 kds2) (q : ∀ x, x = decide (bookT ns kds ls os = bookT ns2 kds2 ls2 os2) → Q (.bl x) C) :
    oEq (ownB K T.c_Book (fw_Book_eq T) false) (bookD T.c_Book b ns kds ls os) (bookD T.c_Book b2 ns2 kds2 ls2 os2) C Q :=
  s_eqO (.inl rfl) ⟨_, _, _, .inl rfl, .ins T.i_Book, T.nf_Book_Book, callN_all (p_Book_eq T (Qx := fun _ _ _ => False) h1.len h1.kn.d h2.len h2.kn.d (q _ rfl))⟩
theorem ne_Book (T : Tp P K mg) {b b2 : Bool} {ns ns2 : List Str} {kds kds2 : List Kd} {ls os ls2 os2 : List Str} {C : Cells} {Q : QE} (h1 : BkOk ns kds) (h2 : BkOk ns2 kds2) (q : ∀ x, x = decide (bookT ns kds ls os = bookT ns2 kds2 ls2 os2) → Q (.bl (!x)) C) :
    oNe (ownB K T.c_Book (fw_Book_eq T) true) (bookD T.c_Book b ns kds ls os) (bookD T.c_Book b2 ns2 kds2 ls2 os2) C Q :=
  s_neO (.inl rfl) ⟨_, _, _, .inl rfl, .ins T.i_Book, T.nf_Book_Book, callN_all (p_Book_eq T (Qx := fun _ _ _ => False) h1.len h1.kn.d h2.len h2.kn.d (q _ rfl))⟩
theorem Names.good {ns : List Str} {k : Int} (h : Names ns k) (hk : k ≤ 22) : NamesOk ns := ⟨fun x hx => ⟨(h.ok x hx).1, by have := (h.ok x hx).2.2.1; omega⟩, h.nd, by have := h.len; omega⟩
theorem name_pos {s : Str} (h : isNameS s = true) : s.length ≠ 0 := by
  unfold isNameS at h
  simp at h
  omega
theorem BookOk.good {ns : List Str} {kds : List Kd} {ls os : List Str} {m : Int} (h : BookOk ns kds ls os m) (hm : m ≤ 20) : BkOk ns kds := by
  obtain ⟨k, k0, k1, hn⟩ := h.n
  obtain ⟨j, j0, j1, hk⟩ := h.k
  have n1 := hn.len
  have n2 := hk.len
  rw [List.length_map] at n2
  have kx : ∀ x ∈ kds, x.1 ∈ kds.map (·.1) := fun x hx => List.mem_map_of_mem hx
  refine ⟨⟨by omega, by omega, fun x hx => (hn.ok x hx).2.2.1, fun x hx => (hk.ok _ (kx x hx)).2.2.1, fun x hx => by rw [(h.t x hx).1]; omega, fun x hx o ho s e => ?_⟩, hn.good (by omega), by omega, hk.good (by omega), fun x hx => (hn.ok x hx).2.1, fun x hx => (hk.ok _ (kx x hx)).2.1, fun x hx => (h.t x hx).1, fun x hx => (h.t x hx).2⟩
  have hs := hn.ok s ((h.t x hx).2 o ho s e)
  exact ⟨hs.2.2.1, name_pos hs.1⟩
theorem nodup_len {l : List Str} : ∀ {m : List Str}, l.Nodup → (∀ x ∈ l, x ∈ m) → l.length ≤ m.length := by
  induction l with
  | nil => intro m _ _; simp
  | cons x l ih =>
    intro m nd h
    have hx := h x List.mem_cons_self
    have n2 := List.nodup_cons.mp nd
    have := ih (m := m.erase x) n2.2 fun y hy => (List.mem_erase_of_ne (show y ≠ x from fun e => n2.1 (e ▸ hy))).mpr (h y (List.mem_cons_of_mem _ hy))
    rw [List.length_erase_of_mem hx] at this
    have := List.length_pos_of_mem hx
    rw [List.length_cons]
    omega
theorem BookOk.goodL {ns : List Str} {kds : List Kd} {ls os : List Str} {m : Int} (h : BookOk ns kds ls os m) (hm : m ≤ 20) : NamesOk ls ∧ NamesOk os := by
  obtain ⟨j, j0, j1, hk⟩ := h.k
  have n2 := hk.len
  obtain ⟨a, ha, h1⟩ := h.l
  obtain ⟨b, hb, h2⟩ := h.o
  have l1 := nodup_len ha.nd h1
  have l2 := nodup_len hb.nd h2
  have := ha.len
  have := hb.len
  exact ⟨ha.good (by omega), hb.good (by omega)⟩
theorem BkOk.args {C : Cells} {b : Bool} {d1 d2 d3 d4 : D} {ns : List Str} {ps : List (Kd × D)} {kds : List Kd} {ls os : List Str} (g : BkOk ns kds) (e : ps.map (·.1) = kds) (gl : NamesOk ls) (go : NamesOk os) (ml : ∀ x ∈ ls, x ∈ kds.map (·.1)) (mo : ∀ x ∈ os, x ∈ kds.map (·.1))
    (ch : ChOk C b d1 ns) (s2 : SeqD C d2 (ps.map kx)) (s3 : SeqD C d3 (ls.map D.str)) (s4 : SeqD C d4 (os.map D.str)) (st : ∀ p ∈ ps, SeqD C p.2 (p.1.2.map oD)) : BkArgs C b d1 d2 d3 d4 ns ps ls os := by
  subst e
  have e2 : (ps.map (·.1)).map (·.1) = ps.map fun p => p.1.1 := by rw [List.map_map]; rfl
  rw [e2] at ml mo
  have kn := g.kn
  rw [e2] at kn
  exact ⟨ch, s2, s3, s4, g.n, g.p, ⟨st, fun p hp => g.tn p.1 (List.mem_map_of_mem hp), fun p hp => g.tm p.1 (List.mem_map_of_mem hp)⟩, kn, gl, go, ml, mo⟩
theorem mk_BookL (T : Tp P K mg) {b : Bool} {d1 d2 d3 d4 : D} {ns : List Str} {kds : List Kd} {ls os : List Str} {C : Cells} {Q : QE} {Xq : QX} (g : BkOk ns kds) (gl : NamesOk ls) (go : NamesOk os) (ml : ∀ x ∈ ls, x ∈ kds.map (·.1)) (mo : ∀ x ∈ os, x ∈ kds.map (·.1))
    (ch : ChOk C b d1 ns) (s2 : SeqD C d2 (kds.map kdD)) (s3 : SeqD C d3 (ls.map D.str)) (s4 : SeqD C d4 (os.map D.str)) (q : Q (bookD T.c_Book b ns kds ls os) C) : pMkF (fw_Book_init T) Xq T.c_Book [d1, d2, d3, d4] C Q := by
  have e : (kds.map fun k => (k, D.lst (k.2.map oD))).map (·.1) = kds := by rw [List.map_map]; exact List.map_id _
  refine mk_Book T (g.args (ps := kds.map fun k => (k, D.lst (k.2.map oD))) e gl go ml mo ch (by rw [List.map_map]; exact s2) s3 s4 fun p hp => ?_) (by rw [e]; exact q)
  obtain ⟨k, _, rfl⟩ := List.mem_map.mp hp
  exact .inl (.inl rfl)
section
variable {b : Bool} {ns : List Str} {kds : List Kd} {ls os : List Str} {C : Cells} {Q : QE}
theorem f_choices (T : Tp P K mg) (q : Q (.tup (ns.map D.str)) C) : pFldW K "choices" (bookD T.c_Book b ns kds ls os) C Q := s_fldW (.inl rfl) T.i_Book.c T.na_Book_choices (by rfl) (by rw [wk_chD]; exact q)
theorem f_choicesN (T : Tp P K mg) (q : Q (chD b ns) C) : pFld K "choices" (bookD T.c_Book b ns kds ls os) C Q := s_fld (.inl rfl) T.i_Book.c T.na_Book_choices (by rfl) q
theorem f_kinds (T : Tp P K mg) (q : Q (.tup ((kds.map (·.1)).map D.str)) C) : pFld K "kinds" (bookD T.c_Book b ns kds ls os) C Q := s_fld (.inl rfl) T.i_Book.c T.na_Book_kinds (by rfl) (by rw [List.map_map] at q; exact q)
theorem f_targets (T : Tp P K mg) (q : Q (.dic (kds.map fun k => .inr k.1) (kds.map fun k => D.tup (k.2.map oD))) C) : pFld K "targets" (bookD T.c_Book b ns kds ls os) C Q := s_fld (.inl rfl) T.i_Book.c T.na_Book_targets (by rfl) q
theorem f_loose (T : Tp P K mg) (q : Q (.tup ((inB kds ls).map D.str)) C) : pFld K "loose" (bookD T.c_Book b ns kds ls os) C Q := s_fld (.inl rfl) T.i_Book.c T.na_Book_loose (by rfl) q
theorem f_others (T : Tp P K mg) (q : Q (.tup ((inB kds os).map D.str)) C) : pFld K "others" (bookD T.c_Book b ns kds ls os) C Q := s_fld (.inl rfl) T.i_Book.c T.na_Book_others (by rfl) q
end
theorem mk_BookT (T : Tp P K mg) {b : Bool} {d1 d2 d3 d4 : D} {ns : List Str} {kds : List Kd} {ls os : List Str} {C : Cells} {Q : QE} {Xq : QX} (g : BkOk ns kds) (gl : NamesOk ls) (go : NamesOk os) (ml : ∀ x ∈ ls, x ∈ kds.map (·.1)) (mo : ∀ x ∈ os, x ∈ kds.map (·.1))
    (ch : ChOk C b d1 ns) (s2 : SeqD C d2 (kds.map fun k => D.tup [.str k.1, .tup (k.2.map oD)])) (s3 : SeqD C d3 (ls.map D.str)) (s4 : SeqD C d4 (os.map D.str)) (q : Q (bookD T.c_Book b ns kds ls os) C) : pMkF (fw_Book_init T) Xq T.c_Book [d1, d2, d3, d4] C Q := by
  have e : (kds.map fun k => (k, D.tup (k.2.map oD))).map (·.1) = kds := by rw [List.map_map]; exact List.map_id _
  refine mk_Book T (g.args (ps := kds.map fun k => (k, D.tup (k.2.map oD))) e gl go ml mo ch (by rw [List.map_map]; exact s2) s3 s4 fun p hp => ?_) (by rw [e]; exact q)
  obtain ⟨k, _, rfl⟩ := List.mem_map.mp hp
  exact .t
theorem NamesOk.nil : NamesOk [] := ⟨fun _ h => (by cases h), .nil, by decide⟩

local macro_rules | `(tactic| walk_at "c") => `(tactic| first
  | ((with_reducible show pFldW _ "choices" (bookD _ _ _ _ _ _) _ _); refine f_choices T ?_)
  | ((with_reducible show pFld _ "choices" (bookD _ _ _ _ _ _) _ _); refine f_choicesN T ?_)
  | ((with_reducible show pFld _ "kinds" (bookD _ _ _ _ _ _) _ _); refine f_kinds T ?_)
  | ((with_reducible show pFld _ "targets" (bookD _ _ _ _ _ _) _ _); refine f_targets T ?_)
  | ((with_reducible show pFld _ "loose" (bookD _ _ _ _ _ _) _ _); refine f_loose T ?_)
  | ((with_reducible show pFld _ "others" (bookD _ _ _ _ _ _) _ _); refine f_others T ?_))

theorem free_join {c : Nat} {y : Str} (hy : c ∉ TL.tl y) : ∀ {ws : List Str}, (∀ w ∈ ws, c ∉ TL.tl w) → c ∉ TL.tl (Txt.join y ws) := by
  intro ws h
  rw [TL.join_eq, TL.tl_join]
  induction ws with
  | nil => simp [TL.joinL]
  | cons a l ih =>
    cases l with
    | nil => exact h a List.mem_cons_self
    | cons b l =>
      show c ∉ TL.tl a ++ (TL.tl y ++ TL.joinL (TL.tl y) ((b :: l).map TL.tl))
      intro hm
      rcases List.mem_append.mp hm with hm | hm
      · exact h a List.mem_cons_self hm
      · rcases List.mem_append.mp hm with hm | hm
        · exact hy hm
        · exact ih (fun w hw => h w (List.mem_cons_of_mem _ hw)) hm
theorem small_ge : ∀ c ∈ small.cps.toList, 97 ≤ c := by decide +kernel
theorem name_free {s : Str} (h : isNameS s = true) {c : Nat} (hc : c < 97) : c ∉ TL.tl s := by
  unfold isNameS at h
  rw [Bool.and_eq_true] at h
  intro hm
  have h2 := List.all_eq_true.mp h.2 c hm
  have := small_ge c (of_decide_eq_true h2)
  omega
def WordOk (w : Str) : Prop := isNameS w = true ∨ w ∈ (["values", "kind", "loose", "others", "no"] : List Str)
theorem WordOk.free {w : Str} (h : WordOk w) : (10 : Nat) ∉ TL.tl w ∧ (32 : Nat) ∉ TL.tl w := by
  rcases h with h | h
  · exact ⟨name_free h (by decide), name_free h (by decide)⟩
  · have all : ∀ w ∈ (["values", "kind", "loose", "others", "no"] : List Str), (10 : Nat) ∉ TL.tl w ∧ (32 : Nat) ∉ TL.tl w := by decide +kernel
    exact all w h
theorem split_words {ws : List Str} (hne : ws ≠ []) (h : ∀ w ∈ ws, WordOk w) : Txt.split (Txt.join kSp ws) kSp = ws :=
  TL.split_join (s := 32) (S := []) (by decide +kernel) (by decide +kernel) hne fun p hp => (h p hp).free.2
theorem split_lines {L : List (List Str)} (hne : L ≠ []) (h : ∀ ws ∈ L, ∀ w ∈ ws, WordOk w) : Txt.split (Txt.join kNl (L.map (Txt.join kSp))) kNl = L.map (Txt.join kSp) :=
  TL.split_join (s := 10) (S := []) (by decide +kernel) (by decide +kernel) (by simpa using hne) fun p hp => by
    obtain ⟨ws, hw, rfl⟩ := List.mem_map.mp hp
    exact free_join (by decide +kernel) fun w hx => (h ws hw w hx).free.1
def wordsL (w : Str) (xs : List Str) : List (List Str) := if xs = [] then [] else [w :: xs]
def bookWs (ns : List Str) (kds : List Kd) (l1 l2 : List Str) : List (List Str) := (("values" : Str) :: ns) :: (kds.map wordsK ++ (wordsL "loose" l1 ++ wordsL "others" l2))
theorem bookLs_ws (ns : List Str) (kds : List Kd) (l1 l2 : List Str) : bookLs ns kds l1 l2 = (bookWs ns kds l1 l2).map (Txt.join kSp) := by
  have e : ∀ (w : Str) xs, lineL w xs = (wordsL w xs).map (Txt.join kSp) := fun w xs => by
    unfold lineL wordsL
    by_cases h : xs = []
    · rw [if_pos h, if_pos h]; rfl
    · rw [if_neg h, if_neg h]; rfl
  unfold bookLs bookWs
  rw [e, e, List.map_cons, List.map_append, List.map_append, List.map_map, List.append_assoc]
  rfl
theorem BkOk.words {ns : List Str} {kds : List Kd} {l1 l2 : List Str} (g : BkOk ns kds) (h1 : NamesOk l1) (h2 : NamesOk l2) : ∀ ws ∈ bookWs ns kds l1 l2, ∀ w ∈ ws, WordOk w := by
  have nm : ∀ {xs : List Str}, NamesOk xs → ∀ x ∈ xs, WordOk x := fun h x hx => .inl (h.o x hx).1
  have wl : ∀ {w : Str} {xs : List Str}, NamesOk xs → w ∈ (["values", "kind", "loose", "others", "no"] : List Str) → ∀ ws ∈ wordsL w xs, ∀ x ∈ ws, WordOk x := fun {w xs} h hw ws hm x hx => by
    unfold wordsL at hm
    by_cases e : xs = []
    · rw [if_pos e] at hm; cases hm
    · rw [if_neg e] at hm
      rw [List.mem_singleton.mp hm] at hx
      rcases List.mem_cons.mp hx with rfl | hx
      · exact .inr hw
      · exact nm h x hx
  intro ws hm w hw
  rcases List.mem_cons.mp hm with rfl | hm
  · rcases List.mem_cons.mp hw with rfl | hw
    · exact .inr (by decide +kernel)
    · exact nm g.n w hw
  rcases List.mem_append.mp hm with hm | hm
  · obtain ⟨k, hk, rfl⟩ := List.mem_map.mp hm
    rcases List.mem_cons.mp hw with rfl | hw
    · exact .inr (by decide +kernel)
    rcases List.mem_cons.mp hw with rfl | hw
    · exact nm g.kn _ (List.mem_map_of_mem hk)
    obtain ⟨o, ho, rfl⟩ := List.mem_map.mp hw
    cases o with
    | none => exact .inr (by decide +kernel)
    | some s => exact nm g.n s (g.tm k hk _ ho s rfl)
  rcases List.mem_append.mp hm with hm | hm
  · exact wl h1 (by decide +kernel) ws hm w hw
  · exact wl h2 (by decide +kernel) ws hm w hw
theorem atI_0 {α : Type} {a : α} {l : List α} : atI (a :: l) 0 = some a := atI_head rfl
theorem atI_1 {α : Type} {a b : α} {l : List α} : atI (a :: b :: l) 1 = some b := by
  unfold atI ixN
  rw [if_pos (by decide), if_pos (by simp only [List.length_cons]; omega)]
  rfl
theorem cut_1 {a : D} {l : List D} : cutD (a :: l) (some 1) none = l := cutD_from (by decide)
theorem cut_2 {a b : D} {l : List D} : cutD (a :: b :: l) (some 2) none = l := cutD_from (by decide)
theorem p_bline_kind (T : Tp P K mg) {n : Str} {ws : List Str} {C : Cells} {Q : QE} {Qx : QX} (hn : isNameS n = true) (nl : n.length ≤ 1000) (hw : ws ≠ []) (hl : ws.length ≤ 1000) (h : ∀ w ∈ ws, (w = "no" ∨ isNameS w = true) ∧ w.length ≤ 1000) (q : Q (.bl true) C) : callW (fw_is_book_line T) Qx [.lst (.str "kind" :: .str n :: ws.map D.str)] C Q := by
  refine call_all (show w_is_book_line T (.lst (.str "kind" :: .str n :: ws.map D.str)) Qx Q C from ?_)
  have hp := List.length_pos_iff.mpr hw
  unfold w_is_book_line
  walk_at "g"
  refine s_ix_lst atI_0 ?_
  walk_at "g"
  refine ifPos (by decide +kernel) ?_
  walk_at "g"
  refine s_ix_lst atI_1 ?_
  walk_at "g"
  rw [hn]
  walk_at "g"
  rw [cut_2]
  refine lcB_map D.str (fun _ => D.bl true) trivial (fun w hm k hk => ?_) (by omega) ?_
  · obtain ⟨h1, h2⟩ := h w hm
    generalize he : decide (w = "no") = e
    walk_at "g"
    rw [he]
    refine ite2M (fun h3 => ?_) (fun h3 => ?_)
    · exact hk
    · walk_at "g"
      rcases h1 with h1 | h1
      · exact absurd (he ▸ decide_eq_true h1) h3
      · rw [h1]; exact hk
  walk_at "g"
  rw [show (ws.all fun _ => true) = true from List.all_eq_true.mpr fun _ _ => rfl]
  exact q
theorem p_bline_names (T : Tp P K mg) {w : Str} {xs : List Str} {C : Cells} {Q : QE} {Qx : QX} (hw : w ∈ (["values", "loose", "others"] : List Str)) (hx : xs ≠ []) (hl : xs.length ≤ 1000) (h : ∀ x ∈ xs, isNameS x = true ∧ x.length ≤ 1000) (q : Q (.bl true) C) : callW (fw_is_book_line T) Qx [.lst (.str w :: xs.map D.str)] C Q := by
  refine call_all (show w_is_book_line T (.lst (.str w :: xs.map D.str)) Qx Q C from ?_)
  have hp := List.length_pos_iff.mpr hx
  have nk : ∀ w ∈ (["values", "loose", "others"] : List Str), decide (w = "kind") = false := by decide +kernel
  unfold w_is_book_line
  walk_at "g"
  refine s_ix_lst atI_0 ?_
  walk_at "g"
  refine ifNeg (nk w hw) ?_
  walk_at "g"
  refine s_ix_lst atI_0 ?_
  walk_at "g"
  rw [show decide (w ∈ (["values", "loose", "others"] : List Str)) = true from decide_eq_true hw]
  walk_at "g"
  rw [cut_1]
  refine lcB_map D.str (fun _ => D.bl true) trivial (fun x hm k hk => ?_) (by omega) ?_
  · obtain ⟨h1, h2⟩ := h x hm
    walk_at "g"
    rw [h1]; exact hk
  walk_at "g"
  rw [show (xs.all fun _ => true) = true from List.all_eq_true.mpr fun _ _ => rfl]
  exact q
def F5 : List Key := [.inr "", .inr "values", .inr "kind", .inr "loose", .inr "others"]
def V5 : List D := [.int 0, .int 1, .int 2, .int 3, .int 4]
theorem p_may_follow (T : Tp P K mg) {w l : Str} {a b : Int} {C : Cells} {Q : QE} {Qx : QX} (ha : lookD F5 V5 (.inr w) = some (.int a)) (hb : lookD F5 V5 (.inr l) = some (.int b))
    (q : Q (.bl (if (decide (w = "values") || decide (l = "")) = true then decide (w = "values") && decide (l = "") else decide (b < a) || (decide (w = "kind") && decide (l = "kind")))) C) : callW (fw_may_follow T) Qx [.str w, .str l] C Q := by
  refine call_none (show w_may_follow T (.str w) (.str l) Qx (fun d μ => Q d (μ ++ C)) [] from ?_)
  unfold w_may_follow
  generalize h1 : decide (w = "values") = b1 at q
  generalize h2 : decide (l = "") = b2 at q
  generalize h3 : decide (w = "kind") = b3 at q
  generalize h4 : decide (l = "kind") = b4 at q
  refine ⟨by decide +kernel, by decide, fun z => ?_⟩
  walk_at "g"
  refine ⟨0, rfl, ?_⟩
  walk_at "g"
  rw [h1]
  cases b1 with
  | true =>
    refine ifT ?_
    walk_at "g"
    rw [h1]
    refine ifT ?_
    walk_at "g"
    rw [h2]
    exact ⟨[], [_], List.Perm.refl _, q⟩
  | false =>
    refine ifF ?_
    walk_at "g"
    rw [h2]
    cases b2 with
    | true =>
      refine ifT ?_
      walk_at "g"
      rw [h1]
      refine ifF ?_
      exact ⟨[], [_], List.Perm.refl _, q⟩
    | false =>
      refine ifF ?_
      walk_at "g"
      refine .inr ⟨_, _, .inr w, _, .inr ⟨z, rfl, List.mem_cons_self⟩, rfl, ha, ?_⟩
      walk_at "g"
      refine .inr ⟨_, _, .inr l, _, .inr ⟨z, rfl, List.mem_cons_self⟩, rfl, hb, ?_⟩
      walk_at "g"
      generalize decide (b < a) = b5 at q ⊢
      cases b5 with
      | true => exact ifT ⟨[], [_], List.Perm.refl _, q⟩
      | false =>
        refine ifF ?_
        walk_at "g"
        rw [h3]
        cases b3 with
        | true =>
          refine ifT ?_
          walk_at "g"
          rw [h4]
          exact ⟨[], [_], List.Perm.refl _, q⟩
        | false => exact ifF ⟨[], [_], List.Perm.refl _, q⟩
theorem look5 : lookD F5 V5 (.inr "") = some (.int 0) ∧ lookD F5 V5 (.inr "values") = some (.int 1) ∧ lookD F5 V5 (.inr "kind") = some (.int 2) ∧ lookD F5 V5 (.inr "loose") = some (.int 3) ∧ lookD F5 V5 (.inr "others") = some (.int 4) := by
  refine ⟨?_, ?_, ?_, ?_, ?_⟩
  all_goals (unfold F5 V5)
  all_goals (repeat (unfold lookD; first | rw [if_pos rfl] | rw [if_neg (by decide +kernel)]))
inductive Fol : Str → Str → Prop
  | v : Fol "values" ""
  | kv : Fol "kind" "values"
  | kk : Fol "kind" "kind"
  | lv : Fol "loose" "values"
  | lk : Fol "loose" "kind"
  | ov : Fol "others" "values"
  | ok : Fol "others" "kind"
  | ol : Fol "others" "loose"
theorem p_fol (T : Tp P K mg) {w l : Str} {C : Cells} {Q : QE} {Qx : QX} (h : Fol w l) (q : Q (.bl true) C) : callW (fw_may_follow T) Qx [.str w, .str l] C Q := by
  obtain ⟨k0, k1, k2, k3, k4⟩ := look5
  cases h with
  | v => exact p_may_follow T k1 k0 (q_bl q (by decide +kernel))
  | kv => exact p_may_follow T k2 k1 (q_bl q (by decide +kernel))
  | kk => exact p_may_follow T k2 k2 (q_bl q (by decide +kernel))
  | lv => exact p_may_follow T k3 k1 (q_bl q (by decide +kernel))
  | lk => exact p_may_follow T k3 k2 (q_bl q (by decide +kernel))
  | ov => exact p_may_follow T k4 k1 (q_bl q (by decide +kernel))
  | ok => exact p_may_follow T k4 k2 (q_bl q (by decide +kernel))
  | ol => exact p_may_follow T k4 k3 (q_bl q (by decide +kernel))

local macro_rules | `(tactic| walk_at "c") => `(tactic| first
  | ((with_reducible show pIx (.lst (_ :: _)) (.int 0) _ _); refine s_ix_lst atI_0 ?_)
  | ((with_reducible show pIx (.lst (_ :: _ :: _)) (.int 1) _ _); refine s_ix_lst atI_1 ?_))

theorem loop_part {α : Type} {f : D → α → (α → MB) → (α → MB) → MB} {after : α → MB} {P : Cells → Prop} {ys : List D} : ∀ {xs : List D} {s : α} {C : Cells} (I : Nat → α → Cells → Prop), I 0 s C →
    (∀ i d s C (nx : α → MB), xs[i]? = some d → I i s C → (∀ s' C', I (i + 1) s' C' → nx s' C') → P C ∧ f d s nx after C) → (∀ s C, I xs.length s C → mLoop f after P ys s C) → mLoop f after P (xs ++ ys) s C
  | [], s, C, I, h0, step, last => last s C h0
  | x :: xs, s, C, I, h0, step, last => by
    refine step 0 x s C _ rfl h0 fun s' C' h' => ?_
    exact loop_part (fun i => I (i + 1)) h' (fun i d s C nx hi h hn => step (i + 1) d s C nx hi h hn) last
def F4 : List Key := [.inr "values", .inr "kind", .inr "loose", .inr "others"]
def RC (f a0 a1 a2 a3 : Addr) (vd ld od : D) (kl : List D) : Cells := [(a3, .lst []), (a2, .lst []), (a1, .lst kl), (a0, .lst []), (f, .dK F4 [vd, .raw (.ref a1), ld, od])]
theorem look4 {a b c d : D} : lookD F4 [a, b, c, d] (.inr "values") = some a ∧ lookD F4 [a, b, c, d] (.inr "kind") = some b ∧ lookD F4 [a, b, c, d] (.inr "loose") = some c ∧ lookD F4 [a, b, c, d] (.inr "others") = some d := by
  refine ⟨?_, ?_, ?_, ?_⟩
  all_goals (unfold F4)
  all_goals (repeat (unfold lookD; first | rw [if_pos rfl] | rw [if_neg (by decide +kernel)]))
theorem put4 {a b c d x : D} : putKs F4 (.inr "values") = F4 ∧ putD F4 [a, b, c, d] (.inr "values") x = [x, b, c, d] ∧ putKs F4 (.inr "loose") = F4 ∧ putD F4 [a, b, c, d] (.inr "loose") x = [a, b, x, d] ∧ putKs F4 (.inr "others") = F4 ∧ putD F4 [a, b, c, d] (.inr "others") x = [a, b, c, x] := by
  have a1 : (F4.any fun k => decide (k = .inr "values")) = true := by decide +kernel
  have a2 : (F4.any fun k => decide (k = .inr "loose")) = true := by decide +kernel
  have a3 : (F4.any fun k => decide (k = .inr "others")) = true := by decide +kernel
  refine ⟨by unfold putKs; rw [if_pos a1], ?_, by unfold putKs; rw [if_pos a2], ?_, by unfold putKs; rw [if_pos a3], ?_⟩
  · unfold putD
    rw [if_pos a1]
    unfold F4
    simp only [List.zip_cons_cons, List.zip_nil_right, List.map_cons, List.map_nil]
    rw [if_pos trivial, if_neg (by decide +kernel), if_neg (by decide +kernel), if_neg (by decide +kernel)]
  · unfold putD
    rw [if_pos a2]
    unfold F4
    simp only [List.zip_cons_cons, List.zip_nil_right, List.map_cons, List.map_nil]
    rw [if_neg (by decide +kernel), if_neg (by decide +kernel), if_pos trivial, if_neg (by decide +kernel)]
  · unfold putD
    rw [if_pos a3]
    unfold F4
    simp only [List.zip_cons_cons, List.zip_nil_right, List.map_cons, List.map_nil]
    rw [if_neg (by decide +kernel), if_neg (by decide +kernel), if_neg (by decide +kernel), if_pos trivial]
theorem pk4 : putKs F4 (.inr "values") = F4 ∧ putKs F4 (.inr "loose") = F4 ∧ putKs F4 (.inr "others") = F4 :=
  let h := @put4 .non .non .non .non .non
  ⟨h.1, h.2.2.1, h.2.2.2.2.1⟩
section
variable {f a0 a1 a2 a3 : Addr} {vd ld od : D} {kl : List D} {Q : QE} {at_ : D} {l : Str} {nx bk : D → MB} {Qx : QX}
theorem ixR {e : D} {key : Str} {C : Cells} (h : (f, Cell.dK F4 [vd, .raw (.ref a1), ld, od]) ∈ C) (hl : lookD F4 [vd, .raw (.ref a1), ld, od] (.inr key) = some e) (q : Q e C) : pIxD (.raw (.ref f)) (.str key) C Q := .inr ⟨_, _, _, _, .inr ⟨f, rfl, h⟩, rfl, hl, q⟩
theorem f_in : (f, Cell.dK F4 [vd, .raw (.ref a1), ld, od]) ∈ RC f a0 a1 a2 a3 vd ld od kl := by unfold RC; simp
theorem p_rd_kind (T : Tp P K mg) {k : Kd} (hf : Fol "kind" l) (hn : isNameS k.1 = true) (hl : k.1.length ≤ 1000) (ht : 0 < k.2.length) (ht2 : k.2.length ≤ 1000) (hm : ∀ o ∈ k.2, ∀ s, o = some s → isNameS s = true ∧ s.length ≤ 1000 ∧ s ≠ "no") (hk : kl.length ≤ 1000) (wl : (lineK k).length ≤ 1000)
    (h : nx (.str "kind") (RC f a0 a1 a2 a3 vd ld od (kl ++ [kdD k]))) : w_Book_read_l1 T (.raw (.ref f)) Qx Q (.tup [at_, .str (lineK k)]) (.str l) nx bk (RC f a0 a1 a2 a3 vd ld od kl) := by
  have sp : Txt.split (lineK k) (" " : Str) = wordsK k := split_words (by unfold wordsK; simp) fun w hw => by
    rcases List.mem_cons.mp hw with rfl | hw
    · exact .inr (by decide +kernel)
    rcases List.mem_cons.mp hw with rfl | hw
    · exact .inl hn
    obtain ⟨o, ho, rfl⟩ := List.mem_map.mp hw
    cases o with
    | none => exact .inr (by decide +kernel)
    | some s => exact .inl (hm _ ho s rfl).1
  unfold w_Book_read_l1
  walk_at "g"
  rw [sp]
  have e : (wordsK k).map D.str = .str "kind" :: .str k.1 :: (k.2.map fun o => o.getD "no").map D.str := rfl
  rw [e]
  refine p_bline_kind T hn hl (by rw [Ne, List.map_eq_nil_iff]; exact List.length_pos_iff.mp ht) (by rw [List.length_map]; exact ht2) (fun w hw => ?_) ?_
  · obtain ⟨o, ho, rfl⟩ := List.mem_map.mp hw
    cases o with
    | none => exact ⟨.inl rfl, by decide⟩
    | some s => exact ⟨.inr (hm _ ho s rfl).1, (hm _ ho s rfl).2.1⟩
  walk_at "g"
  refine p_fol T hf ?_
  walk_at "g"
  refine ifPos (by decide +kernel) ?_
  walk_at "g"
  refine ixR f_in look4.2.1 ?_
  refine ⟨⟨a1, kl, rfl, by unfold RC; simp⟩, ?_⟩
  walk_at "g"
  rw [cut_2, List.map_map]
  refine lcB_map (l := k.2) (D.str ∘ fun o => o.getD "no") oD trivial (fun o ho kk hk => ?_) (by omega) ?_
  · cases o with
    | none =>
      dsimp only [Function.comp, Option.getD]
      walk_at "g"
      exact ifPos (b := decide (("no" : Str) = "no")) (by decide +kernel) hk
    | some s =>
      have := (hm _ ho s rfl).2.2
      dsimp only [Function.comp, Option.getD]
      walk_at "g"
      refine ifNeg (decide_eq_false this) ?_
      exact hk
  walk_at "g"
  exact part_id h
theorem p_rd_names (T : Tp P K mg) {w : Str} {xs : List Str} {F' : List D} (hw : w ∈ (["values", "loose", "others"] : List Str)) (hf : Fol w l) (hx : xs ≠ []) (hl : xs.length ≤ 1000) (hn : ∀ x ∈ xs, isNameS x = true ∧ x.length ≤ 1000) (wl : (Txt.join kSp (w :: xs)).length ≤ 1000)
    (p1 : putKs F4 (.inr w) = F4) (p2 : putD F4 [vd, .raw (.ref a1), ld, od] (.inr w) (.lst (xs.map D.str)) = F')
    (h : nx (.str w) [(a3, .lst []), (a2, .lst []), (a1, .lst kl), (a0, .lst []), (f, .dK F4 F')]) : w_Book_read_l1 T (.raw (.ref f)) Qx Q (.tup [at_, .str (Txt.join kSp (w :: xs))]) (.str l) nx bk (RC f a0 a1 a2 a3 vd ld od kl) := by
  have nk : ∀ w ∈ (["values", "loose", "others"] : List Str), decide (w = "kind") = false := by decide +kernel
  have sp : Txt.split (Txt.join kSp (w :: xs)) (" " : Str) = w :: xs := split_words (by simp) fun x hx => by
    rcases List.mem_cons.mp hx with rfl | hx
    · simp only [List.mem_cons, List.not_mem_nil, or_false] at hw
      rcases hw with rfl | rfl | rfl <;> exact .inr (by decide +kernel)
    · exact .inl (hn x hx).1
  generalize Txt.join kSp (w :: xs) = line at *
  unfold w_Book_read_l1
  walk_at "g"
  rw [sp, List.map_cons]
  refine p_bline_names T hw hx hl hn ?_
  walk_at "g"
  refine p_fol T hf ?_
  walk_at "g"
  refine ifNeg (nk w hw) ?_
  walk_at "g"
  rw [cut_1]
  refine ⟨4, f, F4, _, .inr w, rfl, rfl, rfl, by decide, ?_⟩
  rw [p1, p2]
  exact part_id h
end
theorem enum_app {α : Type} (f : α → D) : ∀ (xs ys : List α) (k : Nat), enumD k ((xs ++ ys).map f) = enumD k (xs.map f) ++ enumD (k + xs.length) (ys.map f) := fun xs ys k => by
  rw [enumE_zip, enumE_zip, enumE_zip, List.zipIdx_append, List.map_append, Nat.add_comm]
theorem enum_get {α : Type} {f : α → D} {l : List α} {k i : Nat} {d : D} (h : (enumD k (l.map f))[i]? = some d) : ∃ a j, l[i]? = some a ∧ d = .tup [.int j, f a] := by
  rw [enumE_zip, List.getElem?_map, List.getElem?_zipIdx] at h
  cases e : l[i]? with
  | none => rw [e] at h; cases h
  | some a => rw [e] at h; cases h; exact ⟨a, _, rfl, rfl⟩
theorem BkLen.lines2 {ns : List Str} {kds : List Kd} (h : BkLen ns kds) {l1 l2 : List Str} (n1 : l1.length ≤ 50 ∧ ∀ x ∈ l1, x.length ≤ 4) (n2 : l2.length ≤ 50 ∧ ∀ x ∈ l2, x.length ≤ 4) : (bookLs ns kds l1 l2).length ≤ 60 ∧ ∀ x ∈ bookLs ns kds l1 l2, x.length ≤ 300 := by
  have a := lineL_len (w := "loose") (by decide) n1.1 n1.2
  have b := lineL_len (w := "others") (by decide) n2.1 n2.2
  have k := h.k
  unfold bookLs
  refine ⟨?_, fun x hx => ?_⟩
  · rw [List.length_append, List.length_append, List.length_cons, List.length_map]
    omega
  · rcases List.mem_append.mp hx with hx | hx
    · rcases List.mem_append.mp hx with hx | hx
      · rcases List.mem_cons.mp hx with rfl | hx
        · exact (words_len (by decide) (by have := h.n; omega) h.nl).2
        · obtain ⟨k, hk, rfl⟩ := List.mem_map.mp hx
          exact (h.lineK hk).2
      · exact a.2 x hx
    · exact b.2 x hx
theorem p_Book_read (T : Tp P K mg) {ns : List Str} {kds : List Kd} {l1 l2 : List Str} {s : Str} {Q : QE} {Qx : QX} (g : BkOk ns kds) (g1 : NamesOk l1) (g2 : NamesOk l2) (n1 : l1.length ≤ 50 ∧ ∀ x ∈ l1, x.length ≤ 4) (n2 : l2.length ≤ 50 ∧ ∀ x ∈ l2, x.length ≤ 4) (m1 : ∀ x ∈ l1, x ∈ kds.map (·.1)) (m2 : ∀ x ∈ l2, x ∈ kds.map (·.1)) (hs : s = Txt.join kNl (bookLs ns kds l1 l2)) (nn : ∀ x ∈ ns, x ≠ "no")
    (q : Q (bookD T.c_Book true ns kds l1 l2) []) : w_Book_read T (.raw (.ref T.c_Book)) (.str s) Qx Q [] := by
  have hk := g.len.k
  have hn := g.len.n
  have hp := g.p
  have wk := g.words g1 g2
  have sp : Txt.split s ("\n" : Str) = (bookWs ns kds l1 l2).map (Txt.join kSp) := by
    rw [hs, bookLs_ws]
    exact split_lines (by unfold bookWs; simp) wk
  have ln := g.len.lines2 n1 n2
  have sl : s.length ≤ 100000 := by
    have := (lines_len ln.1 ln.2).2
    rw [hs]
    omega
  unfold w_Book_read
  walk_at "g"
  refine ⟨by decide +kernel, by decide, fun f => ?_⟩
  walk_at "g"
  intro a0
  walk_at "g"
  intro a1
  walk_at "g"
  intro a2
  walk_at "g"
  intro a3
  walk_at "g"
  refine ⟨4, rfl, ?_⟩
  walk_at "g"
  have fin : ∀ (lw : Str) (ld od : D), (∀ C, (a2, Cell.lst []) ∈ C → SeqD C ld (l1.map D.str)) → (∀ C, (a3, Cell.lst []) ∈ C → SeqD C od (l2.map D.str)) → w_Book_read_a2 T (.raw (.ref f)) Qx Q (.str lw) (RC f a0 a1 a2 a3 (.lst (ns.map D.str)) ld od (kds.map kdD)) := by
    intro lw ld od h1 h2
    unfold w_Book_read_a2
    walk_at "g"
    refine ixR f_in look4.1 ?_
    walk_at "g"
    refine ixR f_in look4.2.1 ?_
    walk_at "g"
    refine ixR f_in look4.2.2.1 ?_
    walk_at "g"
    refine ixR f_in look4.2.2.2 ?_
    walk_at "g"
    refine mk_BookL T (b := true) g g1 g2 m1 m2 (.inl ⟨.l, fun _ => .l⟩) (.inl (.inr ⟨a1, rfl, by unfold RC; simp⟩)) (h1 _ (by unfold RC; simp)) (h2 _ (by unfold RC; simp)) ?_
    exact ⟨[], _, List.Perm.refl _, q⟩
  rw [sp, List.map_map]
  have ne : ∀ {ws : List (List Str)} {k : Nat}, enumD k (ws.map (D.str ∘ Txt.join kSp)) = enumD k (ws.map fun w => D.str (Txt.join kSp w)) := rfl
  have lne : ∀ {w : Str} {xs : List Str} {k : Nat}, xs ≠ [] → enumD k ((wordsL w xs).map (D.str ∘ Txt.join kSp)) = [.tup [.int k, .str (Txt.join kSp (w :: xs))]] := fun h => by unfold wordsL; rw [if_neg h]; rfl
  have le : ∀ {w : Str} {xs : List Str} {k : Nat}, xs = [] → enumD k ((wordsL w xs).map (D.str ∘ Txt.join kSp)) = [] := fun h => by unfold wordsL; rw [if_pos h]; rfl
  have nl : ∀ {xs : List Str}, NamesOk xs → ∀ x ∈ xs, isNameS x = true ∧ x.length ≤ 1000 := fun h => h.o
  have w1 := words_len (w := "loose") (by decide) (show l1.length ≤ 51 by omega) n1.2
  have w2 := words_len (w := "others") (by decide) (show l2.length ≤ 51 by omega) n2.2
  have w0 := words_len (w := "values") (by decide) (show ns.length ≤ 51 by omega) g.len.nl
  have stO : ∀ (k : Nat) (lw : Str) (ld : D), Fol "others" lw → (∀ C, (a2, Cell.lst []) ∈ C → SeqD C ld (l1.map D.str)) → mLoop (w_Book_read_l1 T (.raw (.ref f)) Qx Q) (w_Book_read_a2 T (.raw (.ref f)) Qx Q) (fun _ => True) (enumD k ((wordsL "others" l2).map (D.str ∘ Txt.join kSp))) (.str lw) (RC f a0 a1 a2 a3 (.lst (ns.map D.str)) ld (.raw (.ref a3)) (kds.map kdD)) := by
    intro k lw ld hf h1
    by_cases e : l2 = []
    · rw [le e]
      refine ⟨trivial, fin lw ld _ h1 fun C hm => ?_⟩
      rw [e]
      exact .inl (.inr ⟨a3, rfl, hm⟩)
    · rw [lne e]
      exact ⟨trivial, p_rd_names T (by decide +kernel) hf e g2.l (nl g2) (by omega) pk4.2.2 put4.2.2.2.2.2 ⟨trivial, fin "others" ld _ h1 fun C hm => .inl (.inl rfl)⟩⟩
  have stL : ∀ (k : Nat) (lw : Str), Fol "loose" lw → Fol "others" lw → mLoop (w_Book_read_l1 T (.raw (.ref f)) Qx Q) (w_Book_read_a2 T (.raw (.ref f)) Qx Q) (fun _ => True) (enumD k ((wordsL "loose" l1 ++ wordsL "others" l2).map (D.str ∘ Txt.join kSp))) (.str lw) (RC f a0 a1 a2 a3 (.lst (ns.map D.str)) (.raw (.ref a2)) (.raw (.ref a3)) (kds.map kdD)) := by
    intro k lw hf ho
    rw [enum_app]
    by_cases e : l1 = []
    · rw [le e]
      refine stO _ lw _ ho fun C hm => ?_
      rw [e]
      exact .inl (.inr ⟨a2, rfl, hm⟩)
    · rw [lne e]
      exact ⟨trivial, p_rd_names T (by decide +kernel) hf e g1.l (nl g1) (by omega) pk4.2.1 put4.2.2.2.1 (stO _ "loose" _ .ol fun C hm => .inl (.inl rfl))⟩
  unfold bookWs
  rw [List.map_cons]
  refine ⟨trivial, p_rd_names T (w := "values") (xs := ns) (by decide +kernel) .v (List.length_pos_iff.mp hp) (by omega) (nl g.n) (by omega) pk4.1 put4.2.1 ?_⟩
  rw [enum_app]
  refine loop_part (fun i s C => s = .str (if i = 0 then "values" else "kind") ∧ C = RC f a0 a1 a2 a3 (.lst (ns.map D.str)) (.raw (.ref a2)) (.raw (.ref a3)) ((kds.take i).map kdD)) ⟨rfl, rfl⟩ ?_ ?_
  · rintro i d s C nx hi ⟨rfl, rfl⟩ hx
    refine ⟨trivial, ?_⟩
    obtain ⟨w, j, hw, rfl⟩ := enum_get hi
    rw [List.getElem?_map] at hw
    obtain ⟨k, hk2, rfl⟩ := Option.map_eq_some_iff.mp hw
    have hm := List.mem_of_getElem? hk2
    have hlt := (List.getElem?_eq_some_iff.mp hk2).1
    have tl := g.len.tl k hm
    refine p_rd_kind T (k := k) (by split; exact .kv; exact .kk) (g.kn.o _ (List.mem_map_of_mem hm)).1 (g.kn.o _ (List.mem_map_of_mem hm)).2 (by rw [g.tn k hm]; exact hp) (by rw [g.tn k hm]; omega) (fun o ho s e => ?_) (by rw [List.length_map, List.length_take]; omega) (by have := (g.len.lineK hm).2; omega) (hx _ _ ⟨?_, ?_⟩)
    · have hs := g.tm k hm o ho s e
      exact ⟨(g.n.o s hs).1, (g.n.o s hs).2, nn s hs⟩
    · rw [if_neg (by omega)]
    · rw [List.take_succ, hk2]
      simp only [Option.toList_some, List.map_append, List.map_cons, List.map_nil]
  · rintro s C ⟨rfl, rfl⟩
    simp only [enumD_len, List.length_map, List.take_length]
    refine stL _ _ ?_ ?_
    · split; exact .lv; exact .lk
    · split; exact .ov; exact .ok
theorem c_Book_read (T : Tp P K mg) {ns : List Str} {kds : List Kd} {l1 l2 : List Str} {s : Str} {C : Cells} {Q : QE} {Xq : QX} (g : BkOk ns kds) (g1 : NamesOk l1) (g2 : NamesOk l2) (n1 : l1.length ≤ 50 ∧ ∀ x ∈ l1, x.length ≤ 4) (n2 : l2.length ≤ 50 ∧ ∀ x ∈ l2, x.length ≤ 4) (m1 : ∀ x ∈ l1, x ∈ kds.map (·.1)) (m2 : ∀ x ∈ l2, x ∈ kds.map (·.1)) (hs : s = Txt.join kNl (bookLs ns kds l1 l2)) (nn : ∀ x ∈ ns, x ≠ "no")
    (q : Q (bookD T.c_Book true ns kds l1 l2) C) : callW (fw_Book_read T) Xq [.raw (.ref T.c_Book), .str s] C Q := call_none (p_Book_read T g g1 g2 n1 n2 m1 m2 hs nn q)


theorem p_need_kind (T : Tp P K mg) {b : Bool} {ns : List Str} {kds : List Kd} {ls os : List Str} {k : Str} {C : Cells} {Q : QE} {Qx : QX} (g : BkOk ns kds) (hk : k ∈ kds.map (·.1)) (q : Q .non C) : callW (fw_Book_need_kind T) Qx [bookD T.c_Book b ns kds ls os, .str k] C Q := by
  have hn := g.kn.o k hk
  refine call_all (show w_Book_need_kind T (bookD T.c_Book b ns kds ls os) (.str k) Qx Q C from ?_)
  unfold w_Book_need_kind
  walk_at "g"
  rw [hn.1]
  walk_at "g"
  rw [show decide (k ∈ kds.map (·.1)) = true from decide_eq_true hk]
  walk_at "g"
  exact q
theorem p_target (T : Tp P K mg) {ns : List Str} {kds : List Kd} {ls os : List Str} {k : Kd} {j : Nat} {v : Str} {o : Option Str} {C : Cells} {Q : QE} {Qx : QX} (g : BkOk ns kds) (hk : k ∈ kds) (hj : ns[j]? = some v) (ho : k.2[j]? = some o) (q : Q (oD o) C) : callW (fw_Book_target T) Qx [bookD T.c_Book true ns kds ls os, .str k.1, .str v] C Q := by
  have hv := List.mem_of_getElem? hj
  have hn := g.n.o v hv
  refine call_all (show w_Book_target T (bookD T.c_Book true ns kds ls os) (.str k.1) (.str v) Qx Q C from ?_)
  unfold w_Book_target
  walk_at "g"
  refine p_need_kind T g (List.mem_map_of_mem hk) ?_
  walk_at "g"
  rw [hn.1]
  walk_at "g"
  rw [show decide (v ∈ ns) = true from decide_eq_true hv]
  walk_at "g"
  refine .inr ⟨_, _, .inr k.1, _, .inl rfl, rfl, look_map (fun k : Kd => k.1) (fun k => D.tup (k.2.map oD)) g.kn.d hk, ?_⟩
  walk_at "g"
  refine ⟨⟨_, rfl⟩, ?_⟩
  walk_at "g"
  refine s_indexT hj (fun m hm e => ?_) ?_
  · obtain ⟨h1, e1⟩ := List.getElem?_eq_some_iff.mp e
    obtain ⟨h2, e2⟩ := List.getElem?_eq_some_iff.mp hj
    have := (List.getElem_inj g.n.d).mp (e1.trans e2.symm)
    omega
  have h1 := (List.getElem?_eq_some_iff.mp ho).1
  refine s_ix_tup (d := oD o) ?_ q
  unfold atI ixN
  rw [if_pos (by omega), if_pos (by rw [List.length_map]; omega)]
  show (k.2.map oD)[((j : Nat) : Int).toNat]? = _
  rw [Int.toNat_natCast, List.getElem?_map, ho]
  rfl


theorem inB_of {kds : List Kd} {ls ms : List Str} (h : ∀ x, x ∈ ms ↔ x ∈ inB kds ls) : inB kds ms = inB kds ls := by
  unfold inB at h ⊢
  refine List.filter_congr fun n hn => ?_
  rw [decide_eq_decide, h n, List.mem_filter, decide_eq_true_iff]
  exact ⟨fun z => z.2, fun z => ⟨hn, z⟩⟩
theorem inB_inB (kds : List Kd) (ls : List Str) : inB kds (inB kds ls) = inB kds ls := inB_of fun _ => Iff.rfl
theorem Names.sub {xs ys : List Str} {k : Int} (h : Names xs k) (s : ys.Sublist xs) : Names ys ys.length := ⟨rfl, h.nd.sublist s, fun x hx => h.mem x (s.subset hx)⟩
theorem BookOk.names {ns : List Str} {kds : List Kd} {ls os : List Str} {m : Int} (h : BookOk ns kds ls os m) (xs : List Str) : Names (inB kds xs) (inB kds xs).length := by
  obtain ⟨j, _, _, hk⟩ := h.k
  exact hk.sub List.filter_sublist
theorem inB_mem {kds : List Kd} {ls : List Str} {x : Str} (h : x ∈ inB kds ls) : x ∈ kds.map (·.1) := (List.mem_filter.mp h).1
def outK (k : Str) (kds : List Kd) : List Kd := kds.filter fun x => decide (x.1 ≠ k)
theorem outK_names (k : Str) (kds : List Kd) : (outK k kds).map (·.1) = (kds.map (·.1)).filter fun x => decide (x ≠ k) := by
  unfold outK
  rw [List.filter_map]
  rfl
theorem BkOk.out {ns : List Str} {kds : List Kd} (g : BkOk ns kds) (k : Str) : BkOk ns (outK k kds) := by
  have sub : ∀ x ∈ outK k kds, x ∈ kds := fun x hx => (List.mem_filter.mp hx).1
  have le : (outK k kds).length ≤ kds.length := List.length_filter_le _ _
  have sl : ((outK k kds).map (·.1)).Sublist (kds.map (·.1)) := List.Sublist.map _ List.filter_sublist
  exact ⟨⟨g.len.n, Nat.le_trans le g.len.k, g.len.nl, fun x hx => g.len.kl x (sub x hx), fun x hx => g.len.tn x (sub x hx), fun x hx => g.len.tl x (sub x hx)⟩, g.n, g.p, ⟨fun x hx => g.kn.o x (sl.subset hx), g.kn.d.sublist sl, Nat.le_trans sl.length_le g.kn.l⟩, g.so, fun x hx => g.ko x (sub x hx), fun x hx => g.tn x (sub x hx), fun x hx => g.tm x (sub x hx)⟩
def outN (k : Str) (xs : List Str) : List Str := xs.filter fun x => decide (x ≠ k)
theorem outN_in {k x : Str} {xs : List Str} (h : x ∈ outN k xs) : x ∈ xs ∧ x ≠ k := ⟨(List.mem_filter.mp h).1, of_decide_eq_true (List.mem_filter.mp h).2⟩
theorem NamesOk.sub {xs ys : List Str} (h : NamesOk xs) (s : ys.Sublist xs) : NamesOk ys := ⟨fun x hx => h.o x (s.subset hx), h.d.sublist s, Nat.le_trans s.length_le h.l⟩
theorem p_without (T : Tp P K mg) {ns : List Str} {kds : List Kd} {ls os : List Str} {k : Str} {C : Cells} {Q : QE} {Qx : QX} (g : BkOk ns kds) (hk : k ∈ kds.map (·.1)) (q : Q (bookD T.c_Book true ns (outK k kds) (outN k (inB kds ls)) (outN k (inB kds os))) C) :
    callW (fw_Book_without T) Qx [bookD T.c_Book true ns kds ls os, .str k] C Q := by
  have kl := g.len.k
  have i1 := g.len.inB ls
  have i2 := g.len.inB os
  have kin : ∀ ls, NamesOk (inB kds ls) := fun ls => g.kn.sub List.filter_sublist
  refine call_all (show w_Book_without T (bookD T.c_Book true ns kds ls os) (.str k) Qx Q C from ?_)
  unfold w_Book_without
  walk_at "g"
  refine p_need_kind T g hk ?_
  walk_at "g"
  rw [show (kds.map (·.1)).map D.str = kds.map fun k => D.str k.1 by rw [List.map_map]; rfl]
  refine lcB1_map (P := fun _ => True) (l := kds) (fun k => D.str k.1) (fun k => D.tup [.str k.1, .tup (k.2.map oD)]) (fun x => decide (x.1 ≠ k)) trivial (fun x hx kk h => ?_) (fun x hx _ kk h => ?_) (by omega) ?_
  · walk_at "g"
    rw [show (!decide (x.1 = k)) = decide (x.1 ≠ k) from (decide_not).symm]
    exact h
  · walk_at "g"
    refine .inr ⟨_, _, .inr x.1, _, .inl rfl, rfl, look_map (fun k : Kd => k.1) (fun k => D.tup (k.2.map oD)) g.kn.d hx, ?_⟩
    walk_at "g"
    exact h
  walk_at "g"
  refine lcB1_map (P := fun _ => True) (l := inB kds ls) D.str D.str (fun x => decide (x ≠ k)) trivial (fun x hx kk h => ?_) (fun x hx _ kk h => ?_) (by omega) ?_
  · walk_at "g"
    rw [show (!decide (x = k)) = decide (x ≠ k) from (decide_not).symm]
    exact h
  · exact h
  walk_at "g"
  refine lcB1_map (P := fun _ => True) (l := inB kds os) D.str D.str (fun x => decide (x ≠ k)) trivial (fun x hx kk h => ?_) (fun x hx _ kk h => ?_) (by omega) ?_
  · walk_at "g"
    rw [show (!decide (x = k)) = decide (x ≠ k) from (decide_not).symm]
    exact h
  · exact h
  walk_at "g"
  have mem : ∀ ls, ∀ x ∈ outN k (inB kds ls), x ∈ (outK k kds).map (·.1) := fun ls x hx => by
    rw [outK_names]
    exact List.mem_filter.mpr ⟨inB_mem (outN_in hx).1, decide_eq_true (outN_in hx).2⟩
  exact mk_BookT T (g.out k) ((kin ls).sub List.filter_sublist) ((kin os).sub List.filter_sublist) (mem ls) (mem os) (.inr ⟨rfl, rfl⟩) .l .l .l q


theorem BkOk.inN {ns : List Str} {kds : List Kd} (g : BkOk ns kds) (ls : List Str) : NamesOk (inB kds ls) :=
  let s : (inB kds ls).Sublist (kds.map (·.1)) := List.filter_sublist
  ⟨fun x hx => g.kn.o x (s.subset hx), g.kn.d.sublist s, Nat.le_trans s.length_le g.kn.l⟩
theorem text_ws {ns : List Str} {kds : List Kd} {ls os : List Str} (g : BkOk ns kds) : (Txt.split (bookT ns kds ls os) kNl).map (fun l => Txt.split l kSp) = bookWs ns kds (inB kds ls) (inB kds os) := by
  have wk := g.words (g.inN ls) (g.inN os)
  unfold bookT
  rw [bookLs_ws, split_lines (by unfold bookWs; simp) wk, List.map_map]
  refine (List.map_congr_left fun ws hw => ?_).trans (List.map_id _)
  refine split_words (fun e => ?_) (wk ws hw)
  subst e
  unfold bookWs wordsL at hw
  rcases List.mem_cons.mp hw with h | h
  · cases h
  rcases List.mem_append.mp h with h | h
  · obtain ⟨k, _, h⟩ := List.mem_map.mp h
    cases h
  rcases List.mem_append.mp h with h | h
  · split at h
    · cases h
    · cases List.mem_singleton.mp h
  · split at h
    · cases h
    · cases List.mem_singleton.mp h
theorem p_lbt_l3 (T : Tp P K mg) {z : Addr} {kds : List Kd} {ls L : List Str} {w : Str} {Qx : QX} {Q : QE} {nx bk : Unit → MB} {ns : List Str} (h : BkLen ns kds) (hL : L.length ≤ 60) (hw : w.length ≤ 6) (ho : ∀ x ∈ kds, PyData.strOk x.1 = true)
    (hn : nx () [(z, .lst ((L ++ lineL w (inB kds ls)).map D.str))]) : w__law_book_text_l3 T (.lst (kds.map kdD)) (.raw (.ref z)) Qx Q (.tup [.str w, .lst (ls.map D.str)]) () nx bk [(z, .lst (L.map D.str))] := by
  have a := h.inB ls
  have hk := h.k
  have ok : ∀ x ∈ inB kds ls, PyData.strOk x = true := fun x hx => by
    obtain ⟨k, hk, rfl⟩ := List.mem_map.mp (List.mem_filter.mp hx).1
    exact ho k hk
  have e0 : (kds.filter fun k => decide (k.1 ∈ ls)).map (fun k => D.str k.1) = (inB kds ls).map D.str := by
    unfold inB
    simp only [List.filter_map, List.map_map]
    rfl
  unfold w__law_book_text_l3
  walk_at "g"
  refine lcB1_map (l := kds) kdD (fun k => D.str k.1) (fun k => decide (k.1 ∈ ls)) trivial (fun k hm kk hk => ?_) (fun k hm _ kk hk => ?_) (by omega) ?_
  · unfold kdD
    walk_at "g"
    exact hk
  · exact hk
  rw [e0]
  have wl := words_len (w := w) hw (by omega) a.2
  generalize inB kds ls = xs at *
  walk_at "g"
  refine s_neD (.inl rfl) (eqd_lstS (xs := xs) (ys := []) .l .l ok (by simp)) ?_
  walk_at "g"
  refine ite2M (fun h1 => ?_) (fun h1 => ?_)
  · have e : ¬ xs = [] := by simpa using h1
    walk_at "g"
    refine s_join (zs := w :: xs) .l ?_
    refine ⟨Nat.le_trans wl.1 (by decide), ?_⟩
    refine s_app 0 rfl ⟨by rw [List.length_map]; omega, part_id ?_⟩
    rw [show lineL w xs = [Txt.join kSp (w :: xs)] from if_neg e, List.map_append] at hn
    exact hn
  · have e : xs = [] := by simpa using h1
    rw [show lineL w xs = [] from if_pos e, List.append_nil] at hn
    exact part_id hn
theorem p_lbook_text (T : Tp P K mg) {ns : List Str} {kds : List Kd} {ls os : List Str} {Q : QE} {Qx : QX} (h : BkLen ns kds) (ho : ∀ x ∈ kds, PyData.strOk x.1 = true) (q : ∀ r, r = bookT ns kds ls os → Q (.str r) []) : w__law_book_text T (formD ns kds ls os) Qx Q [] := by
  have hk := h.k
  unfold w__law_book_text formD
  have w0 := words_len (w := "values") (by decide) (by have := h.n; omega) h.nl
  walk_at "g"
  refine ⟨by rw [List.length_map, List.length_singleton]; have := h.n; omega, ?_⟩
  refine s_join (zs := "values" :: ns) .l ?_
  refine ⟨Nat.le_trans w0.1 (by decide), ?_⟩
  walk_at "g"
  intro z
  walk_at "g"
  refine loop_inv (fun i _ C => C = [(z, .lst ((lineV ns :: (kds.take i).map lineK).map D.str))]) rfl ?_ ?_
  · rintro i d u C nx hi rfl hn
    refine ⟨trivial, ?_⟩
    rw [List.getElem?_map] at hi
    obtain ⟨k, hx, rfl⟩ := Option.map_eq_some_iff.mp hi
    have hm := List.mem_of_getElem? hx
    have hlt := (List.getElem?_eq_some_iff.mp hx).1
    have wk := h.lineK hm
    have htn := h.tn k hm
    unfold w__law_book_text_l1 kdD
    walk_at "g"
    refine lcB_map oD (fun o => D.str (o.getD "no")) trivial (fun o ho kk hk => ?_) (by omega) ?_
    · cases o with
      | none =>
        dsimp only [oD]
        walk_at "g"
        first | exact hk | (refine ifT ?_; exact hk)
      | some s =>
        dsimp only [oD]
        walk_at "g"
        first | exact hk | (refine ifF ?_; exact hk)
    have ew : [D.str "kind", D.str k.1] ++ (k.2.map fun o => D.str (o.getD "no")) = (wordsK k).map D.str := by unfold wordsK; rw [List.map_cons, List.map_cons, List.map_map]; rfl
    refine ⟨by rw [List.length_map, List.length_cons, List.length_singleton]; omega, ?_⟩
    rw [ew]
    refine s_join (zs := wordsK k) .l ?_
    refine ⟨Nat.le_trans wk.1 (by decide), ?_⟩
    refine s_app 0 rfl ⟨by rw [List.length_map, List.length_cons, List.length_map, List.length_take]; omega, part_id (hn _ _ ?_)⟩
    rw [List.take_succ, hx]
    simp only [Option.toList_some, List.map_append, List.map_cons, List.map_nil, List.cons_append]
    rfl
  · rintro u C rfl
    refine ⟨trivial, ?_⟩
    rw [List.length_map, List.take_length]
    have hb := lines_len (h.lines ls os).1 (h.lines ls os).2
    have l1 := (lineL_len (w := "loose") (by decide) (h.inB ls).1 (h.inB ls).2).1
    unfold w__law_book_text_a2
    walk_at "g"
    refine ⟨trivial, p_lbt_l3 T h (by rw [List.length_cons, List.length_map]; omega) (by decide) ho ⟨trivial, p_lbt_l3 T h (by rw [List.length_append, List.length_cons, List.length_map]; omega) (by decide) ho ⟨trivial, ?_⟩⟩⟩
    unfold w__law_book_text_a4
    walk_at "g"
    refine ⟨Nat.le_trans hb.1 (by decide), ?_⟩
    exact ⟨[], [_], List.Perm.refl _, q _ rfl⟩
theorem c_lbook_text (T : Tp P K mg) {ns : List Str} {kds : List Kd} {ls os : List Str} {C : Cells} {Q : QE} {Xq : QX} (h : BkLen ns kds) (ho : ∀ x ∈ kds, PyData.strOk x.1 = true) (q : ∀ r, r = bookT ns kds ls os → Q (.str r) C) : callW (fw__law_book_text T) Xq [formD ns kds ls os] C Q :=
  call_none (p_lbook_text T h ho q)


def renK (f h : Str → Str) (k : Kd) : Kd := (h k.1, k.2.map (Option.map f))
def frW (w : Str) : Str := if decide ((w.length : Int) < 4) = true then w ++ "q" else "q" ++ cutS w (some 1) none
def fresh22 : List Str := words22.map frW
theorem fresh22_ok : fresh22.Nodup ∧ ∀ x ∈ fresh22, isNameS x = true ∧ PyData.strOk x = true ∧ x.length ≤ 4 := by decide +kernel
def nmW (ys : List Str) (w : Str) : Str := (ys[words22.idxOf w]?).getD ""
abbrev ledD (ys : List Str) : D := .dic (words22.map .inr) (ys.map D.str)
theorem look_idx : ∀ {ks ys : List Str} {w : Str}, w ∈ ks → ks.length = ys.length → lookD (ks.map Sum.inr) (ys.map D.str) (.inr w) = some (.str ((ys[ks.idxOf w]?).getD ""))
  | k :: ks, [], w, _, h => by cases h
  | k :: ks, y :: ys, w, hm, hl => by
    rw [List.map_cons, List.map_cons]
    unfold lookD
    by_cases e : k = w
    · subst e
      rw [if_pos rfl, List.idxOf_cons_self]
      rfl
    · rw [if_neg (fun h => e (Sum.inr.inj h)), look_idx ((List.mem_cons.mp hm).resolve_left fun z => e z.symm) (by simpa using hl), List.idxOf_cons, beq_eq_false_iff_ne.mpr e]
      rfl
section
variable {ys : List Str} {a b w : Str} {ns : List Str} {kds : List Kd} {ls os : List Str} {v : Str} {C R : Cells} {Q : QE} {Qx : QX} {m : Int}
theorem led_len (p : ys.Perm fresh22) : words22.length = ys.length := by rw [p.length_eq]; rfl
theorem nm_get (p : ys.Perm fresh22) (h : w ∈ words22) : ys[words22.idxOf w]? = some (nmW ys w) ∧ nmW ys w ∈ ys := by
  have hl : words22.idxOf w < ys.length := by rw [← led_len p]; exact List.idxOf_lt_length_iff.mpr h
  have e : ys[words22.idxOf w]? = some (ys[words22.idxOf w]) := List.getElem?_eq_getElem hl
  have e2 : nmW ys w = ys[words22.idxOf w] := by unfold nmW; rw [e]; rfl
  exact ⟨by rw [e2]; exact e, by rw [e2]; exact List.getElem_mem hl⟩
theorem nm_inj (p : ys.Perm fresh22) (ha : a ∈ words22) (hb : b ∈ words22) (e : nmW ys a = nmW ys b) : a = b := by
  have h1 := (nm_get p ha).1
  have h2 := (nm_get p hb).1
  rw [← e] at h2
  obtain ⟨l1, e1⟩ := List.getElem?_eq_some_iff.mp h1
  obtain ⟨l2, e2⟩ := List.getElem?_eq_some_iff.mp h2
  have e3 := (List.getElem_inj (p.nodup_iff.mpr fresh22_ok.1)).mp (e1.trans e2.symm)
  have i1 : words22.idxOf a < words22.length := List.idxOf_lt_length_iff.mpr ha
  have i2 : words22.idxOf b < words22.length := List.idxOf_lt_length_iff.mpr hb
  rw [← List.getElem_idxOf i1, ← List.getElem_idxOf i2]
  congr 1
theorem nm_ok (p : ys.Perm fresh22) (h : w ∈ words22) : isNameS (nmW ys w) = true ∧ PyData.strOk (nmW ys w) = true ∧ (nmW ys w).length ≤ 4 := fresh22_ok.2 _ (p.subset (nm_get p h).2)
theorem ix_led (p : ys.Perm fresh22) (h : w ∈ words22) (q : Q (.str (nmW ys w)) C) : pIxD (ledD ys) (.str w) C Q :=
  .inr ⟨_, _, .inr w, _, .inl rfl, rfl, look_idx h (led_len p), q⟩
structure InW (ns : List Str) (kds : List Kd) : Prop where
  n : ∀ x ∈ ns, x ∈ words22
  k : ∀ x ∈ kds.map (·.1), x ∈ words22
theorem BookOk.inW (h : BookOk ns kds ls os m) : InW ns kds := by
  obtain ⟨k, _, _, hn⟩ := h.n
  obtain ⟨j, _, _, hk⟩ := h.k
  exact ⟨hn.mem, hk.mem⟩
theorem nodup_by {f : Str → Str} : ∀ {l : List Str}, (∀ a ∈ l, ∀ b ∈ l, f a = f b → a = b) → l.Nodup → (l.map f).Nodup
  | [], _, _ => .nil
  | a :: l, h, nd => by
    rw [List.map_cons, List.nodup_cons]
    rw [List.nodup_cons] at nd
    refine ⟨fun hm => ?_, nodup_by (fun x hx y hy e => h x (List.mem_cons_of_mem _ hx) y (List.mem_cons_of_mem _ hy) e) nd.2⟩
    obtain ⟨b, hb, e⟩ := List.mem_map.mp hm
    exact nd.1 (h b (List.mem_cons_of_mem _ hb) a List.mem_cons_self e ▸ hb)
theorem names_ren (p : ys.Perm fresh22) (hw : ∀ x ∈ ns, x ∈ words22) (g : NamesOk ns) : NamesOk (ns.map (nmW ys)) := by
  refine ⟨fun x hx => ?_, nodup_by (fun a ha b hb e => nm_inj p (hw a ha) (hw b hb) e) g.d, by rw [List.length_map]; exact g.l⟩
  obtain ⟨y, hy, rfl⟩ := List.mem_map.mp hx
  have := nm_ok p (hw y hy)
  exact ⟨this.1, by have := this.2.2; omega⟩
theorem keys_ren (f h : Str → Str) : (kds.map (renK f h)).map (·.1) = (kds.map (·.1)).map h := by rw [List.map_map, List.map_map]; rfl
theorem bk_ren (p : ys.Perm fresh22) (w : InW ns kds) (g : BkOk ns kds) : BkOk (ns.map (nmW ys)) (kds.map (renK (nmW ys) (nmW ys))) := by
  have kx : ∀ k ∈ kds, k.1 ∈ words22 := fun k hk => w.k _ (List.mem_map_of_mem hk)
  refine ⟨⟨by rw [List.length_map]; exact g.len.n, by rw [List.length_map]; exact g.len.k, fun x hx => ?_, fun x hx => ?_, fun x hx => ?_, fun x hx o ho s e => ?_⟩, names_ren p w.n g.n, by rw [List.length_map]; exact g.p, ?_, fun x hx => ?_, fun x hx => ?_, fun x hx => ?_, fun x hx o ho s e => ?_⟩
  · obtain ⟨v, hv, rfl⟩ := List.mem_map.mp hx
    exact (nm_ok p (w.n v hv)).2.2
  · obtain ⟨k, hk, rfl⟩ := List.mem_map.mp hx
    exact (nm_ok p (kx k hk)).2.2
  · obtain ⟨k, hk, rfl⟩ := List.mem_map.mp hx
    show (k.2.map _).length ≤ 50
    rw [List.length_map]; exact g.len.tn k hk
  · obtain ⟨k, hk, rfl⟩ := List.mem_map.mp hx
    obtain ⟨o', ho', rfl⟩ := List.mem_map.mp ho
    obtain ⟨t, rfl, rfl⟩ := Option.map_eq_some_iff.mp e
    have := nm_ok p (w.n t (g.tm k hk _ ho' t rfl))
    exact ⟨this.2.2, name_pos this.1⟩
  · rw [keys_ren]
    exact names_ren p w.k g.kn
  · obtain ⟨v, hv, rfl⟩ := List.mem_map.mp hx
    exact (nm_ok p (w.n v hv)).2.1
  · obtain ⟨k, hk, rfl⟩ := List.mem_map.mp hx
    exact (nm_ok p (kx k hk)).2.1
  · obtain ⟨k, hk, rfl⟩ := List.mem_map.mp hx
    show (k.2.map _).length = _
    rw [List.length_map, List.length_map]; exact g.tn k hk
  · obtain ⟨k, hk, rfl⟩ := List.mem_map.mp hx
    obtain ⟨o', ho', rfl⟩ := List.mem_map.mp ho
    obtain ⟨t, rfl, rfl⟩ := Option.map_eq_some_iff.mp e
    exact List.mem_map_of_mem (g.tm k hk _ ho' t rfl)
theorem mem_ren (f h : Str → Str) (hl : ∀ x ∈ ls, x ∈ kds.map (·.1)) : ∀ x ∈ ls.map h, x ∈ (kds.map (renK f h)).map (·.1) := fun x hx => by
  obtain ⟨y, hy, rfl⟩ := List.mem_map.mp hx
  rw [keys_ren]
  exact List.mem_map_of_mem (hl y hy)
theorem c_led9 (T : Tp P K mg) (p : ys.Perm fresh22) (w : InW ns kds) (g : BkOk ns kds) (hl : ∀ x ∈ ls, x ∈ words22) (ho : ∀ x ∈ os, x ∈ words22) (l1 : ls.length ≤ 1000) (l2 : os.length ≤ 1000) (q : Q (formD (ns.map (nmW ys)) (kds.map (renK (nmW ys) (nmW ys))) (ls.map (nmW ys)) (os.map (nmW ys))) C) :
    callW (fw__law_led T) Qx [formD ns kds ls os, ledD ys] C Q := by
  have nl := g.len.n
  have kl := g.len.k
  refine cl__law_led T ?_
  unfold w__law_led formD
  generalize hled : ledD ys = led
  walk_at "g"
  refine lcB_map (P := fun _ => True) (l := kds) kdD (fun k => kdD (renK (nmW ys) (nmW ys) k)) trivial (fun k hk c hc => ?_) (by omega) ?_
  · dsimp only [kdD]
    walk_at "g"
    subst hled
    refine ix_led p (w.k _ (List.mem_map_of_mem hk)) ?_
    walk_at "g"
    refine lcB_map (P := fun _ => True) (l := k.2) oD (fun o => oD (o.map (nmW ys))) trivial (fun o ho c hc => ?_) (by have := g.len.tn k hk; omega) ?_
    · cases o with
      | none =>
        dsimp only [oD] at hc ⊢
        walk_at "g"
        exact hc
      | some t =>
        dsimp only [oD] at hc ⊢
        walk_at "g"
        exact ix_led p (w.n _ (g.tm k hk _ ho t rfl)) hc
    walk_at "g"
    rw [show (k.2.map fun o => oD (o.map (nmW ys))) = (k.2.map (Option.map (nmW ys))).map oD by rw [List.map_map]; rfl]
    exact hc
  walk_at "g"
  have ns1 : ∀ {xs : List Str} {K2 : QE} {F : D → ME}, (∀ x ∈ xs, x ∈ words22) → xs.length ≤ 1000 → (F = fun x => eBin (eVal led) (eVal x) pIxD) → K2 (.lst ((xs.map (nmW ys)).map D.str)) C → lcB (fun _ => True) F K2 (xs.map D.str) [] C := by
    intro xs K2 F hx hl hF hk
    subst hF
    refine lcB_map (P := fun _ => True) (l := xs) D.str (fun x => .str (nmW ys x)) trivial (fun x hx2 c hc => ?_) (by omega) (by rw [List.map_map] at hk; exact hk)
    walk_at "g"
    subst hled
    exact ix_led p (hx x hx2) hc
  refine ns1 w.n (by omega) rfl ?_
  walk_at "g"
  refine ns1 hl l1 rfl ?_
  walk_at "g"
  refine ns1 ho l2 rfl ?_
  walk_at "g"
  rw [show (kds.map fun k => kdD (renK (nmW ys) (nmW ys) k)) = (kds.map (renK (nmW ys) (nmW ys))).map kdD by rw [List.map_map]; rfl]
  exact q
theorem led_new (p : ys.Perm fresh22) (h : w ∈ words22) : nmW ys w ∉ words22 := by
  have d : ∀ x ∈ fresh22, x ∉ words22 := by decide +kernel
  exact d _ (p.subset (nm_get p h).2)
theorem text_vals {ns ns2 : List Str} {kds kds2 : List Kd} {ls os ls2 os2 : List Str} (g : BkOk ns kds) (g2 : BkOk ns2 kds2) (e : bookT ns kds ls os = bookT ns2 kds2 ls2 os2) : ns = ns2 := by
  have h1 := text_ws (ls := ls) (os := os) g
  rw [e, text_ws g2] at h1
  unfold bookWs at h1
  have h2 := congrArg List.head? h1
  rw [List.head?_cons, List.head?_cons] at h2
  have h3 := Option.some.inj h2
  injection h3 with _ h4
  exact h4.symm
end


section
variable {ys : List Str} {ns : List Str} {kds : List Kd} {ls os : List Str} {C R : Cells} {Q : QE} {Qx : QX} {p q : Addr} {s : St4} {d : D}
theorem ifP93 {c : Prop} [Decidable c] {A B : Prop} (h : c) (a : A) : if c then A else B := by rw [if_pos h]; exact a
theorem ifN93 {c : Prop} [Decidable c] {A B : Prop} (h : ¬ c) (b : B) : if c then A else B := by rw [if_neg h]; exact b
theorem ne_oD {own : D → D → ME} {o : Option Str} {C : Cells} {Q : QE} (q : Q (.bl false) C) : oNe own (oD o) (oD o) C Q := by
  cases o with
  | none => exact s_neD (b := true) (.inl rfl) ⟨.none, .none, .inl ⟨rfl, rfl⟩, .inl ⟨rfl, rfl⟩, by decide +kernel, by decide +kernel, rfl⟩ q
  | some s =>
    refine s_ne_str ?_
    rw [show (!decide (s = s)) = false by simp]
    exact q
theorem no_fresh : ∀ x ∈ fresh22, x ≠ "no" := by decide +kernel
theorem p_law_l5 (T : Tp P K mg) {u : Unit} {nx bk : Unit → MB} (py : ys.Perm fresh22) (w : InW ns kds) (g : BkOk ns kds) {ls' os' : List Str} {k : Kd} {j : Nat} {v : Str} (hk : k ∈ kds) (hj : ns[j]? = some v) (hn : nx () C) :
    w_law_l5 T (ledD ys) (bookD T.c_Book true ns kds ls os) (bookD T.c_Book true (ns.map (nmW ys)) (kds.map (renK (nmW ys) (nmW ys))) ls' os') (.str k.1) Qx Q (.str v) u nx bk C := by
  obtain ⟨o, ho⟩ : ∃ o, k.2[j]? = some o := by
    have := (List.getElem?_eq_some_iff.mp hj).1
    exact ⟨k.2[j]'(by rw [g.tn k hk]; exact this), List.getElem?_eq_getElem _⟩
  have hv := List.mem_of_getElem? hj
  have hj2 : (ns.map (nmW ys))[j]? = some (nmW ys v) := by rw [List.getElem?_map, hj]; rfl
  have ho2 : (renK (nmW ys) (nmW ys) k).2[j]? = some (o.map (nmW ys)) := by
    show (k.2.map _)[j]? = _
    rw [List.getElem?_map, ho]; rfl
  have hk2 : renK (nmW ys) (nmW ys) k ∈ kds.map (renK (nmW ys) (nmW ys)) := List.mem_map_of_mem hk
  have g2 := bk_ren py w g
  generalize hled : ledD ys = led
  unfold w_law_l5
  walk_at "g"
  refine p_target T g hk hj ho ?_
  cases o with
  | none =>
    walk_at "g"
    subst hled
    refine ix_led py (w.k _ (List.mem_map_of_mem hk)) ?_
    walk_at "g"
    refine ix_led py (w.n _ hv) ?_
    walk_at "g"
    refine p_target T (ls := ls') (os := os') g2 hk2 hj2 ho2 ?_
    walk_at "g"
    refine ne_oD (o := none) ?_
    walk_at "g"
    exact part_id hn
  | some t =>
    walk_at "g"
    subst hled
    refine ix_led py (w.k _ (List.mem_map_of_mem hk)) ?_
    walk_at "g"
    refine ix_led py (w.n _ hv) ?_
    walk_at "g"
    refine p_target T (ls := ls') (os := os') g2 hk2 hj2 ho2 ?_
    walk_at "g"
    refine ix_led py (w.n _ (g.tm k hk _ (List.mem_of_getElem? ho) t rfl)) ?_
    walk_at "g"
    refine ne_oD (o := some (nmW ys t)) ?_
    walk_at "g"
    exact part_id hn
theorem out_ren (py : ys.Perm fresh22) (w : InW ns kds) {k : Kd} (hk : k ∈ kds) : (outK k.1 kds).map (renK (nmW ys) (nmW ys)) = outK (nmW ys k.1) (kds.map (renK (nmW ys) (nmW ys))) := by
  unfold outK
  rw [List.filter_map]
  congr 1
  refine List.filter_congr fun x hx => ?_
  show decide (x.1 ≠ k.1) = decide (nmW ys x.1 ≠ nmW ys k.1)
  rw [decide_eq_decide]
  exact ⟨fun h e => h (nm_inj py (w.k _ (List.mem_map_of_mem hx)) (w.k _ (List.mem_map_of_mem hk)) e), fun h e => h (by rw [e])⟩
theorem InW.out (w : InW ns kds) (k : Str) : InW ns (outK k kds) := ⟨w.n, fun x hx => w.k x (by
  rw [outK_names] at hx
  exact (List.mem_filter.mp hx).1)⟩
theorem p_law_a6 (T : Tp P K mg) {u : Unit} {nx : Unit → MB} (py : ys.Perm fresh22) (w : InW ns kds) (g : BkOk ns kds) {ls' os' : List Str} {k : Kd} (hk : k ∈ kds) (hn : nx () C) :
    w_law_a6 T (formD ns kds ls os) (ledD ys) (bookD T.c_Book true ns kds ls os) (bookD T.c_Book true (ns.map (nmW ys)) (kds.map (renK (nmW ys) (nmW ys))) ls' os') (.str k.1) nx Qx Q u C := by
  have g2 := bk_ren py w g
  have kl := g.len.k
  have hk1 : k.1 ∈ kds.map (·.1) := List.mem_map_of_mem hk
  have hk2 : nmW ys k.1 ∈ (kds.map (renK (nmW ys) (nmW ys))).map (·.1) := by rw [keys_ren]; exact List.mem_map_of_mem hk1
  have g3 := g2.out (nmW ys k.1)
  generalize hled : ledD ys = led
  unfold w_law_a6 formD
  walk_at "g"
  refine lcB1_map (P := fun _ => True) (l := kds) kdD kdD (fun x => decide (x.1 ≠ k.1)) trivial (fun x hx kk h => ?_) (fun x hx _ kk h => ?_) (by omega) ?_
  · unfold kdD
    walk_at "g"
    rw [show (!decide (x.1 = k.1)) = decide (x.1 ≠ k.1) from (decide_not).symm]
    exact h
  · exact h
  walk_at "g"
  subst hled
  refine c_led9 T (kds := outK k.1 kds) (ls := []) (os := []) py (w.out k.1) (g.out k.1) (by simp) (by simp) (by decide) (by decide) ?_
  rw [out_ren py w hk]
  generalize hled : ledD ys = led
  unfold formD
  walk_at "g"
  subst hled
  refine ix_led py (w.k _ hk1) ?_
  walk_at "g"
  refine p_without T g2 hk2 ?_
  walk_at "g"
  refine mk_BookL T (b := true) g3 (g3.inN _) (g3.inN _) (fun x hx => inB_mem hx) (fun x hx => inB_mem hx) (.inl ⟨.l, fun _ => .l⟩) .l .t .t ?_
  walk_at "g"
  refine ne_Book T g3 g3 fun b hb => ?_
  rw [show b = true by rw [hb]; unfold bookT; rw [inB_inB, inB_inB]; simp]
  clear hb b
  walk_at "g"
  refine p_without T g hk1 ?_
  generalize hled : ledD ys = led
  walk_at "g"
  refine lcB_map (P := fun _ => True) (l := (outK k.1 kds).map (·.1)) D.str (fun x => .str (nmW ys x)) trivial (fun x hx c hc => ?_) (by rw [List.length_map]; have := (g.out k.1).len.k; omega) ?_
  · walk_at "g"
    subst hled
    exact ix_led py ((w.out k.1).k x hx) hc
  walk_at "g"
  rw [show ((outK k.1 kds).map (·.1)).map (fun x => D.str (nmW ys x)) = (((outK k.1 kds).map (·.1)).map (nmW ys)).map D.str by rw [List.map_map, List.map_map, List.map_map]; rfl]
  rw [← out_ren py w hk, keys_ren]
  have so : ∀ x ∈ ((outK k.1 kds).map (·.1)).map (nmW ys), PyData.strOk x = true := fun x hx => by
    obtain ⟨y, hy, rfl⟩ := List.mem_map.mp hx
    exact (nm_ok py ((w.out k.1).k y hy)).2.1
  refine s_neD (.inl rfl) (eqd_lstS .l .l so so) ?_
  rw [decide_eq_true rfl]
  exact part_id hn
theorem p_law_l1 (T : Tp P K mg) {u : Unit} {nx bk : Unit → MB} (hd : DkOk s) (hn : ∀ s, DkOk s → nx () (dk p q s)) : w_law_l1 T (.raw (.ref p)) (.lst (words22.map D.str)) (.lst (fresh22.map D.str)) Qx Q d u nx bk (dk p q s) := by
  generalize hws : D.lst (words22.map D.str) = ws
  generalize hfs : D.lst (fresh22.map D.str) = fs
  unfold w_law_l1
  walk_at "g"
  refine c_lbook T (r := []) (by rw [List.append_nil]) hd (by decide) (by decide) fun ns kds ls os s1 hb hd1 => ?_
  rw [List.append_nil]
  have g := hb.good (by decide)
  have gl := hb.goodL (by decide)
  obtain ⟨_, _, ml⟩ := hb.l
  obtain ⟨_, _, mo⟩ := hb.o
  have w := hb.inW
  walk_at "g"
  subst hws hfs
  refine ⟨dk p q s1, [], by rw [List.append_nil], p_mixed T hd1 (fun x hx => (fresh22_ok.2 x hx).2.1) (by decide) fun ys s2 py hd2 => ?_⟩
  rw [List.append_nil]
  refine ⟨words22, ys.map D.str, .l, .l, words22_ok.1, by rw [List.length_map]; exact led_len py, by rw [List.length_map, ← led_len py]; decide, ?_⟩
  show aNil _ _
  have g2 := bk_ren py w g
  have gl2 := names_ren py (fun x hx => w.k _ (ml x hx)) gl.1
  have go2 := names_ren py (fun x hx => w.k _ (mo x hx)) gl.2
  have ml2 := mem_ren (nmW ys) (nmW ys) ml
  have mo2 := mem_ren (nmW ys) (nmW ys) mo
  have l1 := g2.len.inB (ls.map (nmW ys))
  have l2 := g2.len.inB (os.map (nmW ys))
  have nn : ∀ x ∈ ns.map (nmW ys), x ≠ "no" := fun x hx => by
    obtain ⟨y, hy, rfl⟩ := List.mem_map.mp hx
    exact no_fresh _ (py.subset (nm_get py (w.n y hy)).2)
  generalize hled : ledD ys = led
  generalize hfm : formD ns kds ls os = fm
  walk_at "g"
  subst hfm
  unfold formD
  walk_at "g"
  refine mk_BookL T (b := true) g gl.1 gl.2 ml mo (.inl ⟨.l, fun _ => .l⟩) .l .l .l ?_
  walk_at "g"
  subst hled
  refine c_led9 T (ls := ls) (os := os) py w g (fun x hx => w.k _ (ml x hx)) (fun x hx => w.k _ (mo x hx)) gl.1.l gl.2.l ?_
  generalize hled : ledD ys = led
  generalize hfm2 : formD (ns.map (nmW ys)) (kds.map (renK (nmW ys) (nmW ys))) (ls.map (nmW ys)) (os.map (nmW ys)) = fm2
  walk_at "g"
  rw [← hfm2]
  unfold formD
  walk_at "g"
  refine mk_BookL T (b := true) g2 gl2 go2 ml2 mo2 (.inl ⟨.l, fun _ => .l⟩) .l .l .l ?_
  walk_at "g"
  refine c_lbook_text T (ls := ls.map (nmW ys)) (os := os.map (nmW ys)) g2.len g2.ko fun r1 h1 => ?_
  walk_at "g"
  refine c_Book_read T g2 (g2.inN _) (g2.inN _) l1 l2 (fun x hx => inB_mem hx) (fun x hx => inB_mem hx) h1 nn ?_
  clear h1 r1
  walk_at "g"
  refine ne_Book T g2 g2 fun b hb => ?_
  rw [show b = true by rw [hb]; unfold bookT; rw [inB_inB, inB_inB]; simp]
  clear hb b
  walk_at "g"
  refine eq_Book T g2 g fun b hb => ?_
  rw [show b = false by
    rw [hb]
    refine decide_eq_false fun e => ?_
    have e2 := text_vals g2 g e
    have hp := g.p
    rcases ns with _ | ⟨v, r⟩
    · exact absurd hp (by simp)
    · rw [List.map_cons] at e2
      injection e2 with e3 _
      have hv := w.n v List.mem_cons_self
      exact led_new py hv (by rw [e3]; exact hv)]
  clear hb b
  walk_at "g"
  refine s_str_own (o_Book_str T g2.len g2.kn.d fun r1 h1 => ?_)
  walk_at "g"
  refine c_lbook_text T (ls := ls.map (nmW ys)) (os := os.map (nmW ys)) g2.len g2.ko fun r2 h2 => ?_
  walk_at "g"
  refine iteN (by rw [h1, h2]; simp) ?_
  clear h1 h2 r1 r2
  walk_at "g"
  refine loop_inv (fun i _ C => C = dk p q s2) rfl ?_ ?_
  · rintro i d u C nx1 hi rfl hx
    obtain ⟨k, hk, rfl⟩ := List.mem_map.mp (List.mem_of_getElem? hi)
    refine ⟨trivial, ?_⟩
    unfold w_law_l3 kdD
    walk_at "g"
    refine loop_inv (fun i _ C => C = dk p q s2) rfl ?_ ?_
    · rintro i d u C nx2 hi rfl hx2
      rw [List.getElem?_map] at hi
      obtain ⟨v, hv, rfl⟩ := Option.map_eq_some_iff.mp hi
      subst hled
      exact ⟨trivial, p_law_l5 T py w g hk hv (hx2 _ _ rfl)⟩
    · rintro u C rfl
      subst hled
      exact ⟨trivial, p_law_a6 T py w g hk (hx _ _ rfl)⟩
  · rintro u C rfl
    refine ⟨trivial, ?_⟩
    unfold w_law_a4
    exact part_id (hn s2 hd2)
theorem p_law (T : Tp P K mg) {ns : List Int} {Qx : QX} {Q : QE} (hl : ns.length ≤ 63) (hq : ∀ C', Q (.bl true) C') : w_law T (.lst (ns.map .int)) Qx Q [] := by
  unfold w_law
  walk_at "g"
  refine c_dealS T hl (by decide) (by decide) fun p q s hd => ?_
  rw [List.append_nil]
  walk_at "g"
  refine lcB_map (P := fun _ => True) (l := words22) D.str (fun w => .str (frW w)) trivial (fun w hw k hk => ?_) (by decide) ?_
  · have hl4 := (words22_ok.2 w hw).2.2.1
    unfold frW at hk
    walk_at "g"
    by_cases h : decide ((w.length : Int) < 4) = true
    · rw [if_pos h] at hk
      refine ifP93 h ?_
      walk_at "g"
      exact ⟨by have : ("q" : Str).length = 1 := rfl; omega, hk⟩
    · rw [if_neg h] at hk
      refine ifN93 h ?_
      walk_at "g"
      exact ⟨by have : ("q" : Str).length = 1 := rfl; have := cutS_length w (some 1) none; omega, hk⟩
  rw [show (words22.map fun w => D.str (frW w)) = fresh22.map D.str by unfold fresh22; rw [List.map_map]; rfl]
  walk_at "g"
  refine loop_inv (fun _ _ C => ∃ s, DkOk s ∧ C = dk p q s) ⟨s, hd, rfl⟩ ?_ ?_
  · rintro i d u C nx hi ⟨s, hd, rfl⟩ hn
    exact ⟨trivial, p_law_l1 T hd fun s hs => hn _ _ ⟨s, hs, rfl⟩⟩
  · rintro u C ⟨s, hd, rfl⟩
    refine ⟨trivial, ?_⟩
    unfold w_law_a2
    exact hq _
theorem law_ok (T : Tp P K mg) : FnG P w K mg base 14 T.f_law T.d_law ["_law_script"] lawFS :=
  ((ok_law T).imp (F' := lawFS) fun ds C Q Qx ⟨ns, e, hl, hC, hq⟩ => by subst e; subst hC; exact p_law T hl hq).mono (by decide)
end


end
set_option hygiene true
end Kk

theorem PySem.Challenge.cw_hastypage_k09_whole_other_names_holds : PySem.Challenge.rw_hastypage_k09_whole_other_names.Holds := by
  exact Kk.law_of Kk.law_ok

