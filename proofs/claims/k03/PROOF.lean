import PyProof.Rows.All
import Wide.All
import OpenK.AllK
import Wide.FinOn
import HandS.ForMost
import HandS.Exc
import HandS.TryOnly
import HandS.ExcOwn
import HandS.WordsExc
import HandS.Defaults
import HandS.CallSlots
import HandS.Style
import HandS.TupAny
import HandS.IsInst
import HandS.FStr
import HandS.RaiseMore
import HandS.Ends
import HandS.Codes
import HandS.Iter
import HandS.Walk
import KE.GoesMore
import PyProof.EnumMake
import HandS.Conv
import KE.KSuper
import KE.KExcSuper
import HandS.ExcInit
import HandS.ExcField
import HandS.ExcIs
import KE.KExcIs
import HandS.ClsMeth
import HandS.Text
import HandS.Dict
import HandS.DictComp
import KE.KStar
import HandS.Flow
import HandS.Strs
import PyProof.FactsAll.tuple_0
import PyProof.FactsAll.tuple_2
import HandS.OwnEq
import KE.KOpsOwn
import PyProof.RulesMatch
import PyProof.DictUpdate
import PyProof.NeKinds
import HandS.Property
import HandS.SortInts
import KE.KDictZip
import HandS.Head2
import HandS.HeadHook2
import PySem.Challenge.RW_hastypage_k03_books_refused
set_option Elab.async false
set_option linter.all false
set_option maxRecDepth 100000
set_option maxHeartbeats 2000000
namespace Tr
open PySem L2

inductive D where
  | non
  | bl (b : Bool)
  | int (i : Int)
  | str (s : Str)
  | lst (ds : List D)
  | tup (ds : List D)
  | dic (ks : List Key) (ds : List D)
  | ins (C : Addr) (ns : List Str) (ds : List D)
  | raw (v : V)
  | tpn (ds : List D)

def NdT (H : Hp) (a : Addr) (vs : List V) : Prop := ∃ o, H a = some (.frz o (.tup vs)) ∧ o.dict = none

mutual
/-- the value v is the datum d -/
def Rep (K : W.Frag) (H : Hp) : D → V → Prop
  | .non, v => v = .non
  | .bl b, v => v = .bl b
  | .int i, v => v = .int i
  | .str s, v => v = .str s
  | .lst ds, v => ∃ a vs, v = .ref a ∧ SqL K H a vs ∧ Reps K H ds vs
  | .tup ds, v => ∃ a vs, v = .ref a ∧ SqT K H a vs ∧ Reps K H ds vs
  | .dic ks ds, v => ∃ a vs, v = .ref a ∧ Rd H a (.dK (ks.zip vs)) ∧ ks.length = vs.length ∧ Reps K H ds vs
  | .ins C ns ds, v => ∃ a dx vs, v = .ref a ∧ H a = some (.ins C dx (ns.zip vs)) ∧ ns.length = vs.length ∧ Reps K H ds vs
  | .raw w, v => v = w
  | .tpn ds, v => ∃ a vs, v = .ref a ∧ NdT H a vs ∧ Reps K H ds vs
def Reps (K : W.Frag) (H : Hp) : List D → List V → Prop
  | [], vs => vs = []
  | d :: ds, vs => ∃ v r, vs = v :: r ∧ Rep K H d v ∧ Reps K H ds r
end

theorem Same.rd {H H' : Hp} {a : Addr} {u : HO} (e : Same H H') (h : Rd H a u) : Rd H' a u := by
  rcases h with h | ⟨o, h⟩
  · exact .inl (e _ _ h)
  · exact .inr ⟨o, e _ _ h⟩
theorem Same.sqL {K : W.Frag} {H H' : Hp} {a : Addr} {xs : List V} (e : Same H H') (h : SqL K H a xs) : SqL K H' a xs := e.seq h
theorem Same.sqT {K : W.Frag} {H H' : Hp} {a : Addr} {xs : List V} (e : Same H H') (h : SqT K H a xs) : SqT K H' a xs := by
  rcases h with h | h
  · exact .inl (Same.rd e h)
  · exact .inr h

mutual
theorem Rep.mono {K : W.Frag} {H H' : Hp} (e : Same H H') : ∀ {d : D} {v : V}, Rep K H d v → Rep K H' d v
  | .non, _, h => h
  | .bl _, _, h => h
  | .int _, _, h => h
  | .str _, _, h => h
  | .lst _, _, ⟨a, vs, h1, h2, h3⟩ => ⟨a, vs, h1, Same.sqL e h2, Reps.mono e h3⟩
  | .tup _, _, ⟨a, vs, h1, h2, h3⟩ => ⟨a, vs, h1, Same.sqT e h2, Reps.mono e h3⟩
  | .dic _ _, _, ⟨a, vs, h1, h2, h4, h3⟩ => ⟨a, vs, h1, Same.rd e h2, h4, Reps.mono e h3⟩
  | .ins _ _ _, _, ⟨a, dx, vs, h1, h2, h4, h3⟩ => ⟨a, dx, vs, h1, e _ _ h2, h4, Reps.mono e h3⟩
  | .raw _, _, h => h
  | .tpn _, _, ⟨a, vs, h1, ⟨o, h2, h4⟩, h3⟩ => ⟨a, vs, h1, ⟨o, e _ _ h2, h4⟩, Reps.mono e h3⟩
theorem Reps.mono {K : W.Frag} {H H' : Hp} (e : Same H H') : ∀ {ds : List D} {vs : List V}, Reps K H ds vs → Reps K H' ds vs
  | [], _, h => h
  | _ :: _, _, ⟨v, r, h1, h2, h3⟩ => ⟨v, r, h1, Rep.mono e h2, Reps.mono e h3⟩
end

section
variable {K : W.Frag} {H H' : Hp}
theorem Reps.nil : Reps K H [] [] := rfl
theorem Reps.cons {d : D} {v : V} {ds : List D} {vs : List V} (h : Rep K H d v) (t : Reps K H ds vs) : Reps K H (d :: ds) (v :: vs) := ⟨v, vs, rfl, h, t⟩
theorem Reps.length : ∀ {ds : List D} {vs : List V}, Reps K H ds vs → ds.length = vs.length
  | [], _, h => by cases h; rfl
  | _ :: _, _, ⟨_, _, h1, _, h3⟩ => by subst h1; simp [Reps.length h3]
theorem Reps.append : ∀ {ds es : List D} {vs ws : List V}, Reps K H ds vs → Reps K H es ws → Reps K H (ds ++ es) (vs ++ ws)
  | [], _, _, _, h, t => by cases h; exact t
  | _ :: _, _, _, _, ⟨v, r, h1, h2, h3⟩, t => by subst h1; exact ⟨v, _, rfl, h2, Reps.append h3 t⟩
theorem Reps.get : ∀ {ds : List D} {vs : List V} {i : Nat} {d : D}, Reps K H ds vs → ds[i]? = some d → ∃ v, vs[i]? = some v ∧ Rep K H d v
  | [], _, _, _, _, e => by simp at e
  | _ :: _, _, 0, _, ⟨v, r, h1, h2, h3⟩, e => by subst h1; simp at e; subst e; exact ⟨v, rfl, h2⟩
  | _ :: _, _, i + 1, _, ⟨v, r, h1, h2, h3⟩, e => by
    subst h1
    obtain ⟨u, q1, q2⟩ := Reps.get (i := i) h3 (by simpa using e)
    exact ⟨u, by simpa using q1, q2⟩
theorem Reps.take : ∀ {ds : List D} {vs : List V} (n : Nat), Reps K H ds vs → Reps K H (ds.take n) (vs.take n)
  | _, _, 0, _ => by simp; exact Reps.nil
  | [], _, n + 1, h => by cases h; exact Reps.nil
  | _ :: _, _, n + 1, ⟨v, r, h1, h2, h3⟩ => by subst h1; exact ⟨v, _, rfl, h2, Reps.take n h3⟩
theorem Reps.drop : ∀ {ds : List D} {vs : List V} (n : Nat), Reps K H ds vs → Reps K H (ds.drop n) (vs.drop n)
  | _, _, 0, h => by simpa using h
  | [], _, n + 1, h => by cases h; exact Reps.nil
  | _ :: _, _, n + 1, ⟨v, r, h1, h2, h3⟩ => by subst h1; exact Reps.drop n h3
theorem Reps.set {d : D} {v : V} (h : Rep K H d v) : ∀ {ds : List D} {vs : List V} (i : Nat), Reps K H ds vs → Reps K H (ds.set i d) (vs.set i v)
  | [], _, _, q => by cases q; exact Reps.nil
  | _ :: _, _, 0, ⟨_, _, h1, _, h3⟩ => by subst h1; exact ⟨_, _, rfl, h, h3⟩
  | _ :: _, _, i + 1, ⟨_, _, h1, h2, h3⟩ => by subst h1; exact ⟨_, _, rfl, h2, Reps.set h i h3⟩
theorem Reps.one {d : D} {vs : List V} (h : Reps K H [d] vs) : ∃ v, vs = [v] ∧ Rep K H d v := by
  obtain ⟨v, r, h1, h2, h3⟩ := h
  cases h3; exact ⟨v, h1, h2⟩
theorem Reps.two {d e : D} {vs : List V} (h : Reps K H [d, e] vs) : ∃ v w, vs = [v, w] ∧ Rep K H d v ∧ Rep K H e w := by
  obtain ⟨v, r, h1, h2, w, r2, h3, h4, h5⟩ := h
  cases h5; subst h3; exact ⟨v, w, h1, h2, h4⟩
theorem Reps.split : ∀ {ds es : List D} {ws : List V}, Reps K H (ds ++ es) ws → ∃ a b, ws = a ++ b ∧ Reps K H ds a ∧ Reps K H es b
  | [], _, ws, h => ⟨[], ws, rfl, Reps.nil, h⟩
  | _ :: _, _, _, ⟨v, r, h1, h2, h3⟩ => by
    obtain ⟨a, b, e1, e2, e3⟩ := Reps.split h3
    exact ⟨v :: a, b, by rw [h1, e1]; rfl, Reps.cons h2 e2, e3⟩
theorem Reps.ints : ∀ (xs : List Int), Reps K H (xs.map D.int) (xs.map V.int)
  | [] => rfl
  | x :: r => ⟨_, _, rfl, rfl, Reps.ints r⟩
theorem Reps.strs : ∀ (xs : List Str), Reps K H (xs.map D.str) (xs.map V.str)
  | [] => rfl
  | x :: r => ⟨_, _, rfl, rfl, Reps.strs r⟩
end

inductive Cell where
  | lst (ds : List D)
  | dK (ks : List Key) (ds : List D)
  | ins (C : Addr) (ns : List Str) (ds : List D)
abbrev Cells := List (Addr × Cell)
def CellOk (K : W.Frag) (H0 H : Hp) (a : Addr) : Cell → Prop
  | .lst ds => ∃ vs, H a = some (.lst vs) ∧ Reps K H0 ds vs
  | .dK ks ds => ∃ vs, H a = some (.dK (ks.zip vs)) ∧ ks.length = vs.length ∧ Reps K H0 ds vs
  | .ins C ns ds => ∃ dx vs, H a = some (.ins C dx (ns.zip vs)) ∧ ns.length = vs.length ∧ Reps K H0 ds vs
def Dom (C : Cells) (a : Addr) : Prop := ∃ c, (a, c) ∈ C
structure CellsR (K : W.Frag) (H0 : Hp) (C : Cells) (H : Hp) : Prop where
  same : Same H0 H
  free : ∀ a, Dom C a → H0 a = none
  ok : ∀ a c, (a, c) ∈ C → CellOk K H0 H a c
  nd : (C.map (·.1)).Nodup
theorem CellOk.some {K : W.Frag} {H0 H : Hp} {a : Addr} {c : Cell} (h : CellOk K H0 H a c) : H a ≠ none := by
  cases c with
  | lst ds => obtain ⟨_, e, _⟩ := h; rw [e]; simp
  | dK ks ds => obtain ⟨_, e, _⟩ := h; rw [e]; simp
  | ins C ns ds => obtain ⟨_, _, e, _⟩ := h; rw [e]; simp
theorem CellOk.mono {K : W.Frag} {H0 H0' H H' : Hp} {a : Addr} {c : Cell} (h : CellOk K H0 H a c) (e : Same H0 H0') (ha : H' a = H a) : CellOk K H0' H' a c := by
  cases c with
  | lst ds => obtain ⟨vs, q, r⟩ := h; exact ⟨vs, ha.trans q, r.mono e⟩
  | dK ks ds => obtain ⟨vs, q, l, r⟩ := h; exact ⟨vs, ha.trans q, l, r.mono e⟩
  | ins C ns ds => obtain ⟨dx, vs, q, l, r⟩ := h; exact ⟨dx, vs, ha.trans q, l, r.mono e⟩
structure Stp (H0 : Hp) (C : Cells) (H : Hp) (H0' : Hp) (C' : Cells) (H' : Hp) : Prop where
  base : Same H0 H0'
  fr : ∀ a o, H a = some o → ¬ Dom C a → H' a = some o
  own : ∀ a, H a ≠ none → H0 a = none → ¬ Dom C a → H0' a = none ∧ ¬ Dom C' a
theorem Stp.refl (H0 : Hp) (C : Cells) (H : Hp) : Stp H0 C H H0 C H := ⟨Same.refl _, fun _ _ h _ => h, fun _ _ h n => ⟨h, n⟩⟩
theorem Stp.trans {K : W.Frag} {H0 H1 H2 HA HB HC : Hp} {C0 C1 C2 : Cells} (a : Stp H0 C0 HA H1 C1 HB) (r : CellsR K H1 C1 HB) (b : Stp H1 C1 HB H2 C2 HC) : Stp H0 C0 HA H2 C2 HC where
  base := a.base.trans b.base
  fr := fun x o h n => by
    have h1 := a.fr x o h n
    refine b.fr x o h1 fun d => ?_
    by_cases e : H0 x = none
    · exact (a.own x (by rw [h]; simp) e n).2 d
    · obtain ⟨u, hu⟩ := Option.ne_none_iff_exists'.mp e
      have := r.free x d
      rw [a.base x u hu] at this; cases this
  own := fun x h e n => by
    obtain ⟨q1, q2⟩ := a.own x h e n
    obtain ⟨o, ho⟩ := Option.ne_none_iff_exists'.mp h
    exact b.own x (by rw [a.fr x o ho n]; simp) q1 q2

section
variable {K : W.Frag} {H0 H : Hp} {C : Cells} {p : Addr} {o : HO}
theorem CellsR.nn (r : CellsR K H0 C H) (hp : H p = Option.none) : H0 p = Option.none := r.same.free hp
theorem CellsR.notDom (r : CellsR K H0 C H) (hp : H p = none) : ¬ Dom C p := fun ⟨c, hc⟩ => (r.ok p c hc).some hp
theorem stp_new (r : CellsR K H0 C H) (hp : H p = none) : Stp H0 C H (upd H0 p o) C (upd H p o) ∧ CellsR K (upd H0 p o) C (upd H p o) := by
  have n0 := r.nn hp
  have s0 : Same H0 (upd H0 p o) := fun a u h => by rw [upd_ne (ne_of_none h n0)]; exact h
  refine ⟨⟨s0, fun a u h _ => by rw [upd_ne (ne_of_none h hp)]; exact h, fun a h e n => ⟨?_, n⟩⟩, ⟨fun a u h => ?_, fun a d => ?_, fun a c hc => ?_, r.nd⟩⟩
  · rw [upd_ne (show a ≠ p from fun z => h (by rw [z]; exact hp))]; exact e
  · by_cases q : a = p
    · subst q; rw [upd_same] at h ⊢; exact h
    · rw [upd_ne q] at h ⊢; exact r.same a u h
  · rw [upd_ne (show a ≠ p from fun z => r.notDom hp (by rw [← z]; exact d))]; exact r.free a d
  · exact (r.ok a c hc).mono s0 (upd_ne fun z => (r.ok a c hc).some (z ▸ hp))
theorem stp_cell {c : Cell} (r : CellsR K H0 C H) (hp : H p = none) (ok : CellOk K H0 (upd H p o) p c) : Stp H0 C H H0 ((p, c) :: C) (upd H p o) ∧ CellsR K H0 ((p, c) :: C) (upd H p o) := by
  have n0 := r.nn hp
  refine ⟨⟨Same.refl _, fun a u h _ => by rw [upd_ne (ne_of_none h hp)]; exact h, fun a h e n => ⟨e, fun ⟨c', hc⟩ => ?_⟩⟩, ⟨fun a u h => ?_, fun a d => ?_, fun a c' hc => ?_, ?_⟩⟩
  · rcases List.mem_cons.mp hc with z | z
    · injection z with z1 _; exact h (z1 ▸ hp)
    · exact n ⟨c', z⟩
  · rw [upd_ne (ne_of_none h n0)]; exact r.same a u h
  · obtain ⟨c', hc⟩ := d
    rcases List.mem_cons.mp hc with z | z
    · injection z with z1 _; subst z1; exact n0
    · exact r.free a ⟨c', z⟩
  · rcases List.mem_cons.mp hc with z | z
    · injection z with z1 z2; subst z1; subst z2; exact ok
    · exact (r.ok a c' z).mono (Same.refl _) (upd_ne fun q => (r.ok a c' z).some (q ▸ hp))
  · rw [List.map_cons, List.nodup_cons]
    refine ⟨fun hm => ?_, r.nd⟩
    obtain ⟨⟨a, c'⟩, h1, h2⟩ := List.mem_map.mp hm
    simp only at h2; subst h2
    exact r.notDom hp ⟨c', h1⟩
theorem dom_set {i : Nat} {c c' : Cell} {a : Addr} (hi : C[i]? = some (p, c)) : Dom (C.set i (p, c')) a ↔ Dom C a := by
  constructor
  · rintro ⟨x, hx⟩
    obtain ⟨j, hj⟩ := List.mem_iff_getElem?.mp hx
    rw [List.getElem?_set] at hj
    split at hj
    · split at hj
      · cases hj; exact ⟨c, List.mem_iff_getElem?.mpr ⟨i, hi⟩⟩
      · cases hj
    · exact ⟨x, List.mem_iff_getElem?.mpr ⟨j, hj⟩⟩
  · rintro ⟨x, hx⟩
    obtain ⟨j, hj⟩ := List.mem_iff_getElem?.mp hx
    by_cases e : i = j
    · subst e; rw [hi] at hj; cases hj
      exact ⟨c', List.mem_iff_getElem?.mpr ⟨i, by rw [List.getElem?_set_self (List.getElem?_eq_some_iff.mp hi).1]⟩⟩
    · exact ⟨x, List.mem_iff_getElem?.mpr ⟨j, by rw [List.getElem?_set_ne e]; exact hj⟩⟩
theorem stp_write {i : Nat} {c c' : Cell} (r : CellsR K H0 C H) (hi : C[i]? = some (p, c)) (ok : CellOk K H0 (upd H p o) p c') :
    Stp H0 C H H0 (C.set i (p, c')) (upd H p o) ∧ CellsR K H0 (C.set i (p, c')) (upd H p o) := by
  have hm : (p, c) ∈ C := List.mem_iff_getElem?.mpr ⟨i, hi⟩
  have n0 := r.free p ⟨c, hm⟩
  refine ⟨⟨Same.refl _, fun a u h n => by rw [upd_ne (show a ≠ p from fun z => n ⟨c, by rw [z]; exact hm⟩)]; exact h, fun a h e n => ⟨e, fun d => n ((dom_set hi).mp d)⟩⟩, ⟨fun a u h => ?_, fun a d => r.free a ((dom_set hi).mp d), fun a c2 hc => ?_, ?_⟩⟩
  · rw [upd_ne (ne_of_none h n0)]; exact r.same a u h
  · obtain ⟨j, hj⟩ := List.mem_iff_getElem?.mp hc
    rw [List.getElem?_set] at hj
    split at hj
    · split at hj
      · cases hj; exact ok
      · cases hj
    · rename_i hne
      have hc2 : (a, c2) ∈ C := List.mem_iff_getElem?.mpr ⟨j, hj⟩
      refine (r.ok a c2 hc2).mono (Same.refl _) (upd_ne fun z => hne ?_)
      subst z
      have h1 : (C.map (·.1))[i]? = some a := by rw [List.getElem?_map, hi]; rfl
      have h2 : (C.map (·.1))[j]? = some a := by rw [List.getElem?_map, hj]; rfl
      obtain ⟨l1, e1⟩ := List.getElem?_eq_some_iff.mp h1
      obtain ⟨l2, e2⟩ := List.getElem?_eq_some_iff.mp h2
      exact (List.getElem_inj r.nd).mp (e1.trans e2.symm)
  · have : (C.set i (p, c')).map (·.1) = C.map (·.1) := by
      rw [List.map_set]
      apply List.ext_getElem?
      intro j
      rw [List.getElem?_set]
      split
      · rename_i e; subst e
        rw [List.getElem?_map, hi]
        have := (List.getElem?_eq_some_iff.mp hi).1
        simp [this]
      · rfl
    rw [this]; exact r.nd
end
end Tr

set_option maxHeartbeats 2000000
namespace Tr
open PySem L2 PySem.Spec PyProof.Rows

abbrev Rho := List (Option D)
abbrev SlotsR (K : W.Frag) (H0 : Hp) (ρ : Rho) (σ : L2.St) : Prop := ∀ (i : Nat) (d : D), ρ[i]? = some (some d) → ∃ v, σ[i]? = some (some v) ∧ Rep K H0 d v
theorem SlotsR.mono {K : W.Frag} {H0 H0' : Hp} {ρ : Rho} {σ : L2.St} (h : SlotsR K H0 ρ σ) (e : Same H0 H0') : SlotsR K H0' ρ σ := fun i d q => let ⟨v, a, b⟩ := h i d q; ⟨v, a, b.mono e⟩
theorem SlotsR.set {K : W.Frag} {H0 : Hp} {ρ : Rho} {σ : L2.St} {d : D} {v : V} (i : Nat) (h : SlotsR K H0 ρ σ) (r : Rep K H0 d v) (hl : ρ.length = σ.length) : SlotsR K H0 (ρ.set i (some d)) (σ.set i (some v)) := fun j e q => by
  rw [List.getElem?_set] at q
  split at q
  · rename_i hij; subst hij
    split at q
    · cases q
      rename_i hlt
      refine ⟨v, ?_, r⟩
      rw [List.getElem?_set_self (by omega)]
    · cases q
  · rename_i hij
    rw [List.getElem?_set_ne hij]
    exact h j e q
theorem SlotsR.unset {K : W.Frag} {H0 : Hp} {ρ : Rho} {σ : L2.St} (i : Nat) (h : SlotsR K H0 ρ σ) : SlotsR K H0 (ρ.set i none) (σ.set i none) := fun j e q => by
  rw [List.getElem?_set] at q
  split at q
  · split at q <;> cases q
  · rename_i hij
    rw [List.getElem?_set_ne hij]
    exact h j e q

abbrev XF := Option (List Str × List D)
def ExcR (K : W.Frag) (H0 H : Hp) : Option Addr → XF → Prop
  | none, none => True
  | some dd, some (ns, ds) => ∃ vs, H dd = some (.xd (ns.zip vs)) ∧ ns.length = vs.length ∧ Reps K H0 ds vs
  | _, _ => False

structure TX (X : Cx) where
  A : Hp → Cells → Hp → Prop
  up : ∀ {H0 C H H0' C' H'}, A H0 C H → CellsR X.K H0 C H → Stp H0 C H H0' C' H' → CellsR X.K H0' C' H' → A H0' C' H'
  XQ : Value → XF → Rho → Cells → Prop
  tk : Takes X (fun cls d σ H => ∃ fs ρ C H0, A H0 C H ∧ CellsR X.K H0 C H ∧ SlotsR X.K H0 ρ σ ∧ ρ.length = σ.length ∧ ExcR X.K H0 H d fs ∧ XQ cls fs ρ C)
  pass : PassesOwn (model X.prog X.w) X.A X.env X.xe

section
variable {X : Cx}
structure At (T : TX X) (H0 : Hp) (ρ : Rho) (C : Cells) (σ : L2.St) (H : Hp) : Prop where
  a : T.A H0 C H
  c : CellsR X.K H0 C H
  s : SlotsR X.K H0 ρ σ
  l : ρ.length = σ.length
theorem At.step {T : TX X} {H0 H0' H H' : Hp} {ρ : Rho} {C C' : Cells} {σ : L2.St} (h : At T H0 ρ C σ H) (p : Stp H0 C H H0' C' H') (c : CellsR X.K H0' C' H') : At T H0' ρ C' σ H' :=
  ⟨T.up h.a h.c p c, c, h.s.mono p.base, h.l⟩
abbrev QE := D → Cells → Prop
abbrev QA := List D → Cells → Prop
abbrev QT := Bool → Cells → Prop
abbrev Cont (X : Cx) (H0 : Hp) (C : Cells) (H : Hp) (Q : QE) (R : VK) : Prop := ∀ v d C' H' H0', Stp H0 C H H0' C' H' → CellsR X.K H0' C' H' → Rep X.K H0' d v → Q d C' → R v H'
abbrev ContA (X : Cx) (H0 : Hp) (C : Cells) (H : Hp) (Q : QA) (R : List V → Hp → Prop) : Prop := ∀ vs ds C' H' H0', Stp H0 C H H0' C' H' → CellsR X.K H0' C' H' → Reps X.K H0' ds vs → Q ds C' → R vs H'
abbrev ContT (X : Cx) (H0 : Hp) (C : Cells) (H : Hp) (Q : QT) (R : Bool → Hp → Prop) : Prop := ∀ b C' H' H0', Stp H0 C H H0' C' H' → CellsR X.K H0' C' H' → Q b C' → R b H'
theorem Cont.here {H0 H : Hp} {C : Cells} {Q : QE} {R : VK} (k : Cont X H0 C H Q R) (c : CellsR X.K H0 C H) {d : D} {v : V} (r : Rep X.K H0 d v) (q : Q d C) : R v H := k v d C H H0 (Stp.refl _ _ _) c r q
theorem Cont.after {H0 H0' H H' : Hp} {C C' : Cells} {Q Q' : QE} {R : VK} (k : Cont X H0 C H Q R) (p : Stp H0 C H H0' C' H') (c : CellsR X.K H0' C' H') (e : ∀ d C2, Q' d C2 → Q d C2) : Cont X H0' C' H' Q' R :=
  fun v d C2 H2 H02 p2 c2 r q => k v d C2 H2 H02 (p.trans c p2) c2 r (e d C2 q)

def TEx (T : TX X) (ρ : Rho) (C : Cells) (Q : QE) : TE := fun σ H R => ∃ H0, At T H0 ρ C σ H ∧ Cont X H0 C H Q R
def TAx (T : TX X) (ρ : Rho) (C : Cells) (Q : QA) : TA := fun σ H R => ∃ H0, At T H0 ρ C σ H ∧ ContA X H0 C H Q R
def TTx (T : TX X) (ρ : Rho) (C : Cells) (Q : QT) : TT := fun σ H R => ∃ H0, At T H0 ρ C σ H ∧ ContT X H0 C H Q R
def WE (T : TX X) (e : Expr) (ρ : Rho) (C : Cells) (Q : QE) : Prop := PE X e (TEx T ρ C Q)
def WA (T : TX X) (es : List Expr) (ρ : Rho) (C : Cells) (Q : QA) : Prop := PA X es (TAx T ρ C Q)
def WT (T : TX X) (e : Expr) (ρ : Rho) (C : Cells) (Q : QT) : Prop := PT X e (TTx T ρ C Q)
def WP (T : TX X) (e : Expr) (ρ : Rho) (C : Cells) (Q : QT) : Prop := PW X e (TTx T ρ C Q)

theorem PE.imp {e : Expr} {t t' : TE} (h : PE X e t) (i : ∀ σ H R, t' σ H R → t σ H R) : PE X e t' := ⟨fun pins s σ H Q I q => h.run pins s σ H Q I (i σ H Q q)⟩
theorem PA.imp {e : List Expr} {t t' : TA} (h : PA X e t) (i : ∀ σ H R, t' σ H R → t σ H R) : PA X e t' := ⟨fun pos pins s σ H Q I q => h.run pos pins s σ H Q I (i σ H Q q)⟩
theorem PT.imp {e : Expr} {t t' : TT} (h : PT X e t) (i : ∀ σ H R, t' σ H R → t σ H R) : PT X e t' := ⟨fun pins s σ H Q I q => h.run pins s σ H Q I (i σ H Q q)⟩
theorem PW.imp {e : Expr} {t t' : TT} (h : PW X e t) (i : ∀ σ H R, t' σ H R → t σ H R) : PW X e t' := ⟨fun wh pins s σ H Q I q => h.run wh pins s σ H Q I (i σ H Q q)⟩
theorem PS.imp {e : Stmt} {t t' : TS} (h : PS X e t) (i : ∀ D σ H, t' D σ H → t D σ H) : PS X e t' := ⟨fun pins s σ H Q I q => h.run pins s σ H Q I (i Q σ H q)⟩
theorem PSs.imp {e : List Stmt} {t t' : TS} (h : PSs X e t) (i : ∀ D σ H, t' D σ H → t D σ H) : PSs X e t' := ⟨fun pins s σ H Q I q => h.run pins s σ H Q I (i Q σ H q)⟩
theorem OpR.imp {f : Value → Value → Sem Value} {r r' : R2} (h : OpR X f r) (i : ∀ x y H R, r' x y H R → r x y H R) : OpR X f r' := fun pins s σ H x y v u Q I rx ry q => h pins s σ H x y v u Q I rx ry (i _ _ _ _ q)

def someE (T : TX X) (ρ : Rho) (e : Expr) : TE := fun σ H R => ∃ C Q, WE T e ρ C Q ∧ TEx T ρ C Q σ H R
theorem pe_some (T : TX X) (ρ : Rho) (e : Expr) : PE X e (someE T ρ e) := ⟨fun pins s σ H Q I ⟨C, q, h, t⟩ => h.run pins s σ H Q I t⟩
def someA (T : TX X) (ρ : Rho) (e : List Expr) : TA := fun σ H R => ∃ C Q, WA T e ρ C Q ∧ TAx T ρ C Q σ H R
theorem pa_some (T : TX X) (ρ : Rho) (e : List Expr) : PA X e (someA T ρ e) := ⟨fun pos pins s σ H Q I ⟨C, q, h, t⟩ => h.run pos pins s σ H Q I t⟩
def someP (T : TX X) (ρ : Rho) (e : Expr) : TT := fun σ H R => ∃ C Q, WP T e ρ C Q ∧ TTx T ρ C Q σ H R
theorem pw_some (T : TX X) (ρ : Rho) (e : Expr) : PW X e (someP T ρ e) := ⟨fun wh pins s σ H Q I ⟨C, q, h, t⟩ => h.run wh pins s σ H Q I t⟩

variable {T : TX X} {ρ : Rho} {C : Cells} {Q : QE} {e a b c : Expr} {pos : Pos} {es : List Expr}
theorem WE.mono {Q' : QE} (h : WE T e ρ C Q) (i : ∀ d C', Q d C' → Q' d C') : WE T e ρ C Q' :=
  PE.imp h fun σ H R ⟨H0, a, k⟩ => ⟨H0, a, fun v d C' H' H0' p c r q => k v d C' H' H0' p c r (i d C' q)⟩
theorem WT.mono {Q Q' : QT} (h : WT T e ρ C Q) (i : ∀ d C', Q d C' → Q' d C') : WT T e ρ C Q' :=
  PT.imp h fun σ H R ⟨H0, a, k⟩ => ⟨H0, a, fun v C' H' H0' p c q => k v C' H' H0' p c (i v C' q)⟩

theorem we_look {t : TE} {d : D} (h : PE X e t) (i : ∀ σ H H0, At T H0 ρ C σ H → ∃ v, Rep X.K H0 d v ∧ ∀ R : VK, R v H → t σ H R) (q : Q d C) : WE T e ρ C Q :=
  PE.imp h fun σ H R ⟨H0, a, k⟩ => let ⟨v, r, j⟩ := i σ H H0 a; j R (k.here a.c r q)
theorem we_int {i j} (q : Q (.int i) C) : WE T (.Constant (.int i) j pos) ρ C Q := we_look (d := .int i) pe_int (fun _ _ _ _ => ⟨.int i, rfl, fun _ r => r⟩) q
theorem we_bl {i j} (q : Q (.bl i) C) : WE T (.Constant (.bool i) j pos) ρ C Q := we_look (d := .bl i) pe_bl (fun _ _ _ _ => ⟨.bl i, rfl, fun _ r => r⟩) q
theorem we_non {j} (q : Q .non C) : WE T (.Constant .none j pos) ρ C Q := we_look (d := .non) pe_non (fun _ _ _ _ => ⟨.non, rfl, fun _ r => r⟩) q
theorem we_str {i j} (q : Q (.str i) C) : WE T (.Constant (.str i) j pos) ρ C Q := we_look (d := .str i) pe_str (fun _ _ _ _ => ⟨.str i, rfl, fun _ r => r⟩) q
theorem we_var (i : Nat) {x : Str} {d : D} (hd : ρ[i]? = some (some d)) (q : Q d C) (h : PE X (.Name x pos) (tVar i)) : WE T (.Name x pos) ρ C Q :=
  we_look h (fun σ H H0 a => let ⟨v, e, r⟩ := a.s i d hd; ⟨v, r, fun R k => ⟨v, e, k⟩⟩) q
theorem we_glob {x : Str} {v : V} {d : D} (h : PE X (.Name x pos) (tC v)) (r : ∀ H0 : Hp, Rep X.K H0 d v) (q : Q d C) : WE T (.Name x pos) ρ C Q :=
  we_look h (fun σ H H0 a => ⟨v, r H0, fun R k => k⟩) q

def OW (T : TX X) (f : Value → Value → Sem Value) (d1 d2 : D) (C : Cells) (Q : QE) : Prop :=
  OpR X f fun x y H R => ∃ H0, CellsR X.K H0 C H ∧ Rep X.K H0 d1 x ∧ Rep X.K H0 d2 y ∧ Cont X H0 C H Q R
def someO (T : TX X) (f : Value → Value → Sem Value) : R2 := fun x y H R => ∃ d1 d2 C Q, OW T f d1 d2 C Q ∧ ∃ H0, CellsR X.K H0 C H ∧ Rep X.K H0 d1 x ∧ Rep X.K H0 d2 y ∧ Cont X H0 C H Q R
theorem op_some (T : TX X) (f : Value → Value → Sem Value) : OpR X f (someO T f) := fun pins s σ H x y v u Q I rx ry ⟨d1, d2, C, q, h, k⟩ => h pins s σ H x y v u Q I rx ry k
theorem ow_look {f : Value → Value → Sem Value} {r : R2} {d1 d2 d : D} (h : OpR X f r) (i : ∀ x y H H0, CellsR X.K H0 C H → Rep X.K H0 d1 x → Rep X.K H0 d2 y → ∃ v, Rep X.K H0 d v ∧ ∀ R : VK, R v H → r x y H R) (q : Q d C) : OW T f d1 d2 C Q :=
  OpR.imp h fun x y H R ⟨H0, c, r1, r2, k⟩ => let ⟨v, rr, j⟩ := i x y H H0 c r1 r2; j R (k.here c rr q)
theorem both {r : R2} {f : Value → Value → Sem Value} (h : WE T a ρ C fun d1 C1 => WE T b ρ C1 fun d2 C2 => OW T f d1 d2 C2 Q) (hr : ∀ x y H R, someO T f x y H R → r x y H R) :
    ∀ σ H R, TEx T ρ C Q σ H R → tOp r (TEx T ρ C fun d1 C1 => WE T b ρ C1 fun d2 C2 => OW T f d1 d2 C2 Q) (someE T ρ b) σ H R := fun σ H R ⟨H0, at_, k⟩ => by
  refine ⟨H0, at_, fun v1 d1 C1 H1 H01 p1 c1 r1 q1 => ?_⟩
  have at1 := at_.step p1 c1
  refine ⟨C1, _, q1, H01, at1, fun v2 d2 C2 H2 H02 p2 c2 r2 q2 => ?_⟩
  exact hr _ _ _ _ ⟨d1, d2, C2, Q, q2, H02, c2, r1.mono p2.base, r2, k.after (p1.trans c1 p2) c2 fun _ _ z => z⟩
theorem we_bin {op : Operator} (h : WE T a ρ C fun d1 C1 => WE T b ρ C1 fun d2 C2 => OW T (binaryOp op) d1 d2 C2 Q) : WE T (.BinOp a op b pos) ρ C Q :=
  PE.imp (pe_op (op_some T (binaryOp op)) h (pe_some T ρ b)) (both h fun _ _ _ _ z => z)
theorem we_cmp {op : CmpOp} (h : WE T a ρ C fun d1 C1 => WE T b ρ C1 fun d2 C2 => OW T (compareOp op) d1 d2 C2 Q) (hm : behindInMarks op b = false) : WE T (.Compare a [op] [b] pos) ρ C Q :=
  PE.imp (pe_cmpR (op_some T (compareOp op)) h (pe_some T ρ b) hm) (both h fun _ _ _ _ z => z)
theorem wt_cmp {op : CmpOp} {Q : QT} (h : WE T a ρ C fun d1 C1 => WE T b ρ C1 fun d2 C2 => OW T (compareOp op) d1 d2 C2 fun d C3 => ∃ k, d = .bl k ∧ Q k C3) (hm : behindInMarks op b = false) : WT T (.Compare a [op] [b] pos) ρ C Q :=
  PT.imp (pt_cmpR (op_some T (compareOp op)) h (pe_some T ρ b) hm) fun σ H R ⟨H0, at_, k⟩ => both (Q := fun d C3 => ∃ k, d = .bl k ∧ Q k C3) h (fun _ _ _ _ z => z) σ H _ ⟨H0, at_, fun v d C' H' H0' p c r ⟨j, e, q⟩ => by
    subst e; cases r; exact ⟨j, rfl, k j C' H' H0' p c q⟩⟩

theorem wt_tB {Q : QT} {t : TE → TT} (ht : ∀ ta, PE X e ta → PT X e (t ta)) (hm : ∀ ta σ H R, tTest ta σ H R → t ta σ H R) (h : WE T e ρ C fun d C1 => ∃ k, d = .bl k ∧ Q k C1) : WT T e ρ C Q :=
  PT.imp (ht _ h) fun σ H R ⟨H0, at_, k⟩ => hm _ σ H R ⟨H0, at_, fun v d C' H' H0' p c r ⟨j, e, q⟩ => by subst e; cases r; exact ⟨j, rfl, k j C' H' H0' p c q⟩⟩
theorem wt_val {Q : QT} (h : WE T e ρ C fun d C1 => ∃ k, d = .bl k ∧ Q k C1) (he : ∀ whole, isTrue e X.env whole = (do let v ← whole; standAt e.pos; holding [v] (truthy v)) := by intro _; rfl) : WT T e ρ C Q :=
  wt_tB (t := tB) (fun _ z => pt_val z he) (fun _ _ _ _ z => z) h
theorem wt_not {Q : QT} (h : WT T a ρ C fun k C1 => Q (!k) C1) : WT T (.UnaryOp .Not a pos) ρ C Q :=
  PT.imp (pt_not h) fun σ H R ⟨H0, at_, k⟩ => ⟨H0, at_, fun j C' H' H0' p c q => k _ C' H' H0' p c q⟩
theorem wt_p {Q : QT} (h : WP T a ρ C Q) : WT T a ρ C Q := PW.pt h
theorem wp_and1 {Q : QT} (h : WT T a ρ C Q) : WP T (.BoolOp .And [a] pos) ρ C Q := pw_and1 h
theorem wp_or1 {Q : QT} (h : WT T a ρ C Q) : WP T (.BoolOp .Or [a] pos) ρ C Q := pw_or1 h
theorem wp_and {Q : QT} (h : WT T a ρ C fun k C1 => if k = true then WP T (.BoolOp .And (b :: es) pos) ρ C1 Q else Q false C1) : WP T (.BoolOp .And (a :: b :: es) pos) ρ C Q :=
  PW.imp (pw_and h (pw_some T ρ _)) fun σ H R ⟨H0, at_, k⟩ => ⟨H0, at_, fun j C' H' H0' p c q => by
    cases j with
    | true => exact ⟨C', Q, q, H0', at_.step p c, fun j C2 H2 H02 p2 c2 q2 => k j C2 H2 H02 (p.trans c p2) c2 q2⟩
    | false => exact k false C' H' H0' p c q⟩
theorem wp_or {Q : QT} (h : WT T a ρ C fun k C1 => if k = true then Q true C1 else WP T (.BoolOp .Or (b :: es) pos) ρ C1 Q) : WP T (.BoolOp .Or (a :: b :: es) pos) ρ C Q :=
  PW.imp (pw_or h (pw_some T ρ _)) fun σ H R ⟨H0, at_, k⟩ => ⟨H0, at_, fun j C' H' H0' p c q => by
    cases j with
    | false => exact ⟨C', Q, q, H0', at_.step p c, fun j C2 H2 H02 p2 c2 q2 => k j C2 H2 H02 (p.trans c p2) c2 q2⟩
    | true => exact k true C' H' H0' p c q⟩
theorem we_one {op} (h : WE T a ρ C Q) : WE T (.BoolOp op [a] pos) ρ C Q := pe_one h
theorem we_and (h : WE T a ρ C fun d C1 => ∃ k, d = .bl k ∧ if k = true then WE T (.BoolOp .And (b :: es) pos) ρ C1 Q else Q (.bl false) C1) : WE T (.BoolOp .And (a :: b :: es) pos) ρ C Q :=
  PE.imp (pe_and h (pe_some T ρ _)) fun σ H R ⟨H0, at_, k⟩ => ⟨H0, at_, fun v d C' H' H0' p c r ⟨j, e, q⟩ => by
    subst e; cases r
    refine ⟨j, rfl, ?_⟩
    cases j with
    | true => exact ⟨C', Q, q, H0', at_.step p c, k.after p c fun _ _ z => z⟩
    | false => exact k _ (.bl false) C' H' H0' p c rfl q⟩
theorem we_or (h : WE T a ρ C fun d C1 => ∃ k, d = .bl k ∧ if k = true then Q (.bl true) C1 else WE T (.BoolOp .Or (b :: es) pos) ρ C1 Q) : WE T (.BoolOp .Or (a :: b :: es) pos) ρ C Q :=
  PE.imp (pe_or h (pe_some T ρ _)) fun σ H R ⟨H0, at_, k⟩ => ⟨H0, at_, fun v d C' H' H0' p c r ⟨j, e, q⟩ => by
    subst e; cases r
    refine ⟨j, rfl, ?_⟩
    cases j with
    | false => exact ⟨C', Q, q, H0', at_.step p c, k.after p c fun _ _ z => z⟩
    | true => exact k _ (.bl true) C' H' H0' p c rfl q⟩
theorem we_ifExp (h : WT T c ρ C fun k C1 => if k = true then WE T a ρ C1 Q else WE T b ρ C1 Q) : WE T (.IfExp c a b pos) ρ C Q :=
  PE.imp (pe_ifExp h (pe_some T ρ a) (pe_some T ρ b)) fun σ H R ⟨H0, at_, k⟩ => ⟨H0, at_, fun j C' H' H0' p c q => by
    cases j with
    | true => exact ⟨C', Q, q, H0', at_.step p c, k.after p c fun _ _ z => z⟩
    | false => exact ⟨C', Q, q, H0', at_.step p c, k.after p c fun _ _ z => z⟩⟩

theorem wa_nil {Q : QA} (q : Q [] C) : WA T [] ρ C Q := PA.imp pa_nil fun σ H R ⟨H0, at_, k⟩ => k [] [] C H H0 (Stp.refl _ _ _) at_.c Reps.nil q
theorem wa_cons {Q : QA} (h : WE T a ρ C fun d C1 => WA T es ρ C1 fun ds C2 => Q (d :: ds) C2) (hs : starEach (a :: es) X.env = (false, eval a X.env) :: starEach es X.env := by rfl) : WA T (a :: es) ρ C Q :=
  PA.imp (pa_cons h (pa_some T ρ es) hs) fun σ H R ⟨H0, at_, k⟩ => ⟨H0, at_, fun v d C1 H1 H01 p1 c1 r1 q1 => ⟨C1, _, q1, H01, at_.step p1 c1, fun vs ds C2 H2 H02 p2 c2 r2 q2 =>
    k _ _ C2 H2 H02 (p1.trans c1 p2) c2 (Reps.cons (r1.mono p2.base) r2) q2⟩⟩
theorem we_tup {x1} (h : WA T es ρ C fun ds C1 => ds.length ≤ 100000 ∧ Q (.tup ds) C1) : WE T (.Tuple es x1 pos) ρ C Q :=
  PE.imp (pe_tup h) fun σ H R ⟨H0, at_, k⟩ => ⟨H0, at_, fun vs ds C1 H1 H01 p1 c1 r1 ⟨z, q⟩ => ⟨Nat.le_trans (by rw [← r1.length]; exact z) (by decide), fun p hp => by
    obtain ⟨p2, c2⟩ := stp_new (o := .tup vs) c1 hp
    exact k _ (.tup ds) C1 _ _ (p1.trans c1 p2) c2 ⟨p, vs, rfl, .inl (.inl upd_same), r1.mono p2.base⟩ q⟩⟩
theorem we_lst (h : WA T es ρ C fun ds C1 => ds.length ≤ 100000 ∧ Q (.lst ds) C1) : WE T (.List es pos) ρ C Q :=
  PE.imp (pe_lst h) fun σ H R ⟨H0, at_, k⟩ => ⟨H0, at_, fun vs ds C1 H1 H01 p1 c1 r1 ⟨z, q⟩ => ⟨Nat.le_trans (by rw [← r1.length]; exact z) (by decide), fun p hp => by
    obtain ⟨p2, c2⟩ := stp_new (o := .lst vs) c1 hp
    exact k _ (.lst ds) C1 _ _ (p1.trans c1 p2) c2 ⟨p, vs, rfl, .inl (.inl upd_same), r1.mono p2.base⟩ q⟩⟩
theorem we_lstC (h : WA T es ρ C fun ds C1 => ds.length ≤ 100000 ∧ ∀ p, Q (.raw (.ref p)) ((p, .lst ds) :: C1)) : WE T (.List es pos) ρ C Q :=
  PE.imp (pe_lst h) fun σ H R ⟨H0, at_, k⟩ => ⟨H0, at_, fun vs ds C1 H1 H01 p1 c1 r1 ⟨z, q⟩ => ⟨Nat.le_trans (by rw [← r1.length]; exact z) (by decide), fun p hp => by
    obtain ⟨p2, c2⟩ := stp_cell (o := .lst vs) (c := .lst ds) c1 hp ⟨vs, upd_same, r1⟩
    exact k _ (.raw (.ref p)) _ _ _ (p1.trans c1 p2) c2 rfl (q p)⟩⟩

def CW (T : TX X) (f : Value) (ds : List D) (C : Cells) (Q : QE) : Prop := CallR X f fun xs H R => ∃ H0, CellsR X.K H0 C H ∧ Reps X.K H0 ds xs ∧ Cont X H0 C H Q R
def someC (T : TX X) (f : Value) : List V → Hp → VK → Prop := fun xs H R => ∃ ds C Q, CW T f ds C Q ∧ ∃ H0, CellsR X.K H0 C H ∧ Reps X.K H0 ds xs ∧ Cont X H0 C H Q R
theorem call_some (T : TX X) (f : Value) : CallR X f (someC T f) := fun pins s σ H vs us Q I r ⟨ds, C, q, h, k⟩ => h pins s σ H vs us Q I r k
theorem CallR.imp {f : Value} {r r' : List V → Hp → VK → Prop} (h : CallR X f r) (i : ∀ xs H R, r' xs H R → r xs H R) : CallR X f r' := fun pins s σ H vs us Q I rv q => h pins s σ H vs us Q I rv (i _ _ _ q)
theorem cw_look {f : Value} {r : List V → Hp → VK → Prop} {ds : List D} {d : D} (h : CallR X f r) (i : ∀ xs H H0, CellsR X.K H0 C H → Reps X.K H0 ds xs → ∃ v, Rep X.K H0 d v ∧ ∀ R : VK, R v H → r xs H R) (q : Q d C) : CW T f ds C Q :=
  CallR.imp h fun xs H R ⟨H0, c, r1, k⟩ => let ⟨v, rr, j⟩ := i xs H H0 c r1; j R (k.here c rr q)
theorem args_some {t : List V → Hp → VK → Prop} {es : List Expr} {f : Value} (i : ∀ xs H R, someC T f xs H R → t xs H R) : ∀ σ H R, TEx T ρ C Q σ H R → tCB t (TAx T ρ C fun ds C1 => CW T f ds C1 Q) σ H R :=
  fun σ H R ⟨H0, at_, k⟩ => ⟨H0, at_, fun vs ds C1 H1 H01 p1 c1 r1 q1 => i _ _ _ ⟨ds, C1, Q, q1, H01, c1, r1, k.after p1 c1 fun _ _ z => z⟩⟩
theorem we_callB {x : Str} {p : Pos} {id : String} (hg : Gl X x) (hm : X.mg x = none) (hv : bootBuiltins x = some (.builtin id)) (h : WA T (a :: es) ρ C fun ds C1 => CW T (.builtin id) ds C1 Q)
    (hn : x ≠ "__name__" := by decide) (hdb : (x == ("__debug__" : Str)) = false := by decide) (he : starEach (a :: es) X.env = (false, eval a X.env) :: starEach es X.env := by rfl) (hpl : (backTo pos (starEach es X.env)).any (·.1) = false := by rfl) :
    WE T (.Call (.Name x p) (a :: es) [] pos) ρ C Q := PE.imp (pe_callB (call_some T _) hg hm hv h hn hdb he hpl) (args_some (es := es) fun _ _ _ z => z)
theorem we_callTy {x : Str} {p : Pos} {id : String} (hg : Gl X x) (hm : X.mg x = none) (hv : bootBuiltins x = some (.type id)) (h : WA T (a :: es) ρ C fun ds C1 => CW T (.type id) ds C1 Q)
    (hn : x ≠ "__name__" := by decide) (hdb : (x == ("__debug__" : Str)) = false := by decide) (he : starEach (a :: es) X.env = (false, eval a X.env) :: starEach es X.env := by rfl) (hpl : (backTo pos (starEach es X.env)).any (·.1) = false := by rfl) :
    WE T (.Call (.Name x p) (a :: es) [] pos) ρ C Q := PE.imp (pe_callTy (call_some T _) hg hm hv h hn hdb he hpl) (args_some (es := es) fun _ _ _ z => z)
end
end Tr

set_option maxHeartbeats 2000000
namespace Tr
open PySem L2 PySem.Spec PyProof.Rows
section
variable {X : Cx}
abbrev QS := Rho → Cells → Prop
structure TEnds where
  nx : QS
  rt : QE
  bk : QS := fun _ _ => False
  ct : QS := fun _ _ => False
abbrev ContS (X : Cx) (H0 : Hp) (C : Cells) (H : Hp) (Q : QS) (R : L2.St → Hp → Prop) : Prop :=
  ∀ (ρ' : Rho) (σ' : L2.St) C' H' H0', Stp H0 C H H0' C' H' → CellsR X.K H0' C' H' → SlotsR X.K H0' ρ' σ' → ρ'.length = σ'.length → Q ρ' C' → R σ' H'
structure Tail (X : Cx) (H0 : Hp) (C : Cells) (H : Hp) (N : TEnds) (Dn : Ends) : Prop where
  nx : ContS X H0 C H N.nx Dn.nx
  rt : Cont X H0 C H N.rt Dn.rt
  bk : ContS X H0 C H N.bk Dn.bk
  ct : ContS X H0 C H N.ct Dn.ct
theorem ContS.after {H0 H0' H H' : Hp} {C C' : Cells} {Q : QS} {R : L2.St → Hp → Prop} (k : ContS X H0 C H Q R) (p : Stp H0 C H H0' C' H') (c : CellsR X.K H0' C' H') : ContS X H0' C' H' Q R :=
  fun ρ σ C2 H2 H02 p2 c2 s l q => k ρ σ C2 H2 H02 (p.trans c p2) c2 s l q
theorem Tail.after {H0 H0' H H' : Hp} {C C' : Cells} {N : TEnds} {Dn : Ends} (k : Tail X H0 C H N Dn) (p : Stp H0 C H H0' C' H') (c : CellsR X.K H0' C' H') : Tail X H0' C' H' N Dn :=
  ⟨ContS.after k.nx p c, k.rt.after p c fun _ _ z => z, ContS.after k.bk p c, ContS.after k.ct p c⟩
def TSx (T : TX X) (ρ : Rho) (C : Cells) (N : TEnds) : TS := fun Dn σ H => ∃ H0, At T H0 ρ C σ H ∧ Tail X H0 C H N Dn
def WS (T : TX X) (st : Stmt) (ρ : Rho) (C : Cells) (N : TEnds) : Prop := PS X st (TSx T ρ C N)
def WSs (T : TX X) (st : List Stmt) (ρ : Rho) (C : Cells) (N : TEnds) : Prop := PSs X st (TSx T ρ C N)
def someS (T : TX X) (st : List Stmt) : TS := fun Dn σ H => ∃ ρ C N, WSs T st ρ C N ∧ TSx T ρ C N Dn σ H
theorem pss_some (T : TX X) (st : List Stmt) : PSs X st (someS T st) := ⟨fun pins s σ H D I ⟨ρ, C, N, h, t⟩ => h.run pins s σ H D I t⟩

variable {T : TX X} {ρ : Rho} {C : Cells} {N : TEnds} {e a b c : Expr} {pos : Pos} {es : List Expr} {st : Stmt} {rest body : List Stmt}
theorem ContS.here {H0 H : Hp} {Q : QS} {R : L2.St → Hp → Prop} {σ : L2.St} (k : ContS X H0 C H Q R) (at_ : At T H0 ρ C σ H) (q : Q ρ C) : R σ H := k ρ σ C H H0 (Stp.refl _ _ _) at_.c at_.s at_.l q

theorem wss_nil (h : N.nx ρ C) : WSs T [] ρ C N := PSs.imp pss_nil fun Dn σ H ⟨H0, at_, k⟩ => ContS.here k.nx at_ h
theorem wss_cons (h : WS T st ρ C { N with nx := fun ρ1 C1 => WSs T rest ρ1 C1 N }) : WSs T (st :: rest) ρ C N :=
  PSs.imp (pss_cons h (pss_some T rest)) fun Dn σ H ⟨H0, at_, k⟩ => ⟨H0, at_, ⟨fun ρ' σ' C' H' H0' p c s l q => ⟨ρ', C', N, q, H0', ⟨T.up at_.a at_.c p c, c, s, l⟩, k.after p c⟩, k.rt, k.bk, k.ct⟩⟩
theorem ws_expr (h : WE T e ρ C fun _ C1 => N.nx ρ C1) (hs : swapsWith e none pos.line X.env = pure false := by rfl) : WS T (.Expr e pos) ρ C N :=
  PS.imp (ps_expr h hs) fun Dn σ H ⟨H0, at_, k⟩ => ⟨H0, at_, fun v d C1 H1 H01 p c r q => ContS.here (k.after p c).nx (at_.step p c) q⟩
theorem ws_ret (h : WE T e ρ C N.rt) : WS T (.Return (some e) pos) ρ C N := PS.imp (ps_ret h) fun Dn σ H ⟨H0, at_, k⟩ => ⟨H0, at_, k.rt⟩
theorem ws_if {tb fb : List Stmt} (h : WT T c ρ C fun k C1 => if k = true then WSs T tb ρ C1 N else WSs T fb ρ C1 N) : WS T (.If c tb fb pos) ρ C N :=
  PS.imp (ps_if h (pss_some T tb) (pss_some T fb)) fun Dn σ H ⟨H0, at_, k⟩ => ⟨H0, at_, fun b C1 H1 H01 p c q => by
    cases b with
    | true => exact ⟨ρ, C1, N, q, H01, at_.step p c, k.after p c⟩
    | false => exact ⟨ρ, C1, N, q, H01, at_.step p c, k.after p c⟩⟩

def TGx (T : TX X) (d : D) (ρ : Rho) (C : Cells) (Q : QS) : TG := fun v σ H R => ∃ H0, At T H0 ρ C σ H ∧ Rep X.K H0 d v ∧ ContS X H0 C H Q R
def TGsx (T : TX X) (ds : List D) (ρ : Rho) (C : Cells) (Q : QS) : TGs := fun vs σ H R => ∃ H0, At T H0 ρ C σ H ∧ Reps X.K H0 ds vs ∧ ContS X H0 C H Q R
def WG (T : TX X) (tg : Expr) (d : D) (ρ : Rho) (C : Cells) (Q : QS) : Prop := PG X tg (TGx T d ρ C Q)
def WGs (T : TX X) (tg : List Expr) (ds : List D) (ρ : Rho) (C : Cells) (Q : QS) : Prop := PGs X tg (TGsx T ds ρ C Q)
theorem PG.imp {e : Expr} {t t' : TG} (h : PG X e t) (i : ∀ v σ H R, t' v σ H R → t v σ H R) : PG X e t' := ⟨fun pins s σ H v u Q I r q => h.run pins s σ H v u Q I r (i v σ H Q q)⟩
theorem PGs.imp {e : List Expr} {t t' : TGs} (h : PGs X e t) (i : ∀ v σ H R, t' v σ H R → t v σ H R) : PGs X e t' := ⟨fun pins s σ H v u Q I r q => h.run pins s σ H v u Q I r (i v σ H Q q)⟩
def someG (T : TX X) (tg : Expr) : TG := fun v σ H R => ∃ d ρ C Q, WG T tg d ρ C Q ∧ TGx T d ρ C Q v σ H R
theorem pg_some (T : TX X) (tg : Expr) : PG X tg (someG T tg) := ⟨fun pins s σ H v u Q I r ⟨d, ρ, C, q, h, t⟩ => h.run pins s σ H v u Q I r t⟩
def someGs (T : TX X) (tg : List Expr) : TGs := fun v σ H R => ∃ d ρ C Q, WGs T tg d ρ C Q ∧ TGsx T d ρ C Q v σ H R
theorem pgs_some (T : TX X) (tg : List Expr) : PGs X tg (someGs T tg) := ⟨fun pins s σ H v u Q I r ⟨d, ρ, C, q, h, t⟩ => h.run pins s σ H v u Q I r t⟩
theorem wg_name {d : D} {Q : QS} (i : Nat) {x : Str} (q : Q (ρ.set i (some d)) C) (h : PG X (.Name x pos) (gName i)) : WG T (.Name x pos) d ρ C Q :=
  PG.imp h fun v σ H R ⟨H0, at_, r, k⟩ => k _ _ C H H0 (Stp.refl _ _ _) at_.c (SlotsR.set i at_.s r at_.l) (by rw [List.length_set, List.length_set]; exact at_.l) q
theorem wgs_nil {Q : QS} (q : Q ρ C) : WGs T [] [] ρ C Q := PGs.imp pgs_nil fun v σ H R ⟨H0, at_, r, k⟩ => ⟨r, ContS.here k at_ q⟩
theorem wgs_cons {tg : Expr} {tgs : List Expr} {d : D} {ds : List D} {Q : QS} (h : WG T tg d ρ C fun ρ1 C1 => WGs T tgs ds ρ1 C1 Q)
    (hs : (assignEach (tg :: tgs) X.env).map (·.2) = assign tg X.env :: (assignEach tgs X.env).map (·.2) := by rfl) : WGs T (tg :: tgs) (d :: ds) ρ C Q :=
  PGs.imp (pgs_cons h (pgs_some T tgs) hs) fun v σ H R ⟨H0, at_, ⟨v1, r, e1, r1, r2⟩, k⟩ => ⟨v1, r, e1, H0, at_, r1, fun ρ' σ' C' H' H0' p c s l q =>
    ⟨ds, ρ', C', Q, q, H0', ⟨T.up at_.a at_.c p c, c, s, l⟩, r2.mono p.base, ContS.after k p c⟩⟩
theorem wg_tup {tgs : List Expr} {k : Nat} {ds : List D} {Q : QS} {n : Nat} (hc : X.calm = true) (h : WGs T tgs ds ρ C Q) (hl : ds.length = n)
    (hn : (assignEach tgs X.env).length = n := by rfl) (hst : (assignEach tgs X.env).findIdx? (·.1) = none := by rfl) : WG T (.Tuple tgs k pos) (.tup ds) ρ C Q :=
  PG.imp (pg_tup hc h hn hst) fun v σ H R ⟨H0, at_, ⟨a, vs, e1, q1, r1⟩, k⟩ => ⟨a, vs, e1, Same.sqT at_.c.same q1, by rw [← r1.length]; exact hl, H0, at_, r1, k⟩
theorem ws_asg {tg : Expr} (h : WE T e ρ C fun d C1 => WG T tg d ρ C1 N.nx) (hs : swapsWithSole [tg] e pos.line X.env = pure false := by rfl) (hw : swappedStores [tg] e X.env = pure none := by rfl)
    (h1 : (assignEach [tg] X.env).map (·.2) = [assign tg X.env] := by rfl) : WS T (.Assign [tg] e pos) ρ C N :=
  PS.imp (ps_asg h (pg_some T tg) hs hw h1) fun Dn σ H ⟨H0, at_, k⟩ => ⟨H0, at_, fun v d C1 H1 H01 p c r q => ⟨d, ρ, C1, N.nx, q, H01, at_.step p c, r, (k.after p c).nx⟩⟩
theorem ws_set (i : Nat) {x : Str} {pos' : Pos} (hN : X.N.Nodup) (hi : X.N[i]? = some x) (hx : Loc X.env.scope x) (h : WE T e ρ C fun d C1 => N.nx (ρ.set i (some d)) C1) (hs : swapsWith e (some (.Name x pos')) pos.line X.env = pure false := by rfl)
    (hf : X.fn x = true ∨ X.env.scope.names.lookup x = some .local := by first | exact .inl rfl | exact .inr rfl | assumption) : WS T (.Assign [.Name x pos'] e pos) ρ C N :=
  PS.imp (ps_set hN hi hx h hs hf) fun Dn σ H ⟨H0, at_, k⟩ => ⟨H0, at_, fun v d C1 H1 H01 p c r q =>
    (k.after p c).nx _ _ C1 H1 H01 (Stp.refl _ _ _) c (SlotsR.set i (at_.step p c).s r at_.l) (by rw [List.length_set, List.length_set]; exact at_.l) q⟩

structure Yields (K : W.Frag) (J : It) (H0 : Hp) (P : Cells → Prop) (ds : List D) : Prop where
  go : ∀ (i : Nat) H0' C H, Same H0 H0' → CellsR K H0' C H → P C → i < ds.length → J.go i H
  stop : ∀ (i : Nat) H0' C H, Same H0 H0' → CellsR K H0' C H → P C → ds.length ≤ i → J.stop i H
  yld : ∀ (i : Nat) H0' C H x H' d, Same H0 H0' → CellsR K H0' C H → P C → ds[i]? = some d → J.yld i H x H' → ∃ H0'', Stp H0' C H H0'' C H' ∧ CellsR K H0'' C H' ∧ Rep K H0'' d x
abbrev QI := List D → (Cells → Prop) → Cells → Prop
def TIx (T : TX X) (ρ : Rho) (C : Cells) (Q : QI) : TI := fun σ H R => ∃ H0, At T H0 ρ C σ H ∧ ∀ J ds P C' H' H0', Stp H0 C H H0' C' H' → CellsR X.K H0' C' H' → Yields X.K J H0' P ds → Q ds P C' → R J H'
def WI (T : TX X) (tg iter : Expr) (ρ : Rho) (C : Cells) (Q : QI) : Prop := PI X tg iter (TIx T ρ C Q)
theorem PI.imp {tg e : Expr} {t t' : TI} (h : PI X tg e t) (i : ∀ σ H R, t' σ H R → t σ H R) : PI X tg e t' := ⟨fun pins s σ H R I q => h.run pins s σ H R I (i σ H R q)⟩
theorem yields_list {K : W.Frag} {H0 : Hp} {a : Addr} {vs : List V} {ds : List D} (hs : SqL K H0 a vs) (r : Reps K H0 ds vs) : Yields K (Itl K a) H0 (fun _ => True) ds where
  go := fun i H0' C H e c _ hi => ⟨vs, vs[i]'(by rw [← r.length]; exact hi), Same.sqL (e.trans c.same) hs, by simp⟩
  stop := fun i H0' C H e c _ hi => ⟨vs, Same.sqL (e.trans c.same) hs, by rw [← r.length]; exact hi⟩
  yld := fun i H0' C H x H' d e c _ hd ⟨e1, y⟩ => by
    subst e1
    refine ⟨H0', Stp.refl _ _ _, c, ?_⟩
    have := y vs (Same.sqL (e.trans c.same) hs)
    obtain ⟨v, h1, h2⟩ := r.get hd
    rw [this] at h1; cases h1
    exact h2.mono e
def ForW (T : TX X) (tg : Expr) (body : List Stmt) (P : Cells → Prop) (N : TEnds) : List D → Rho → Cells → Prop
  | [], ρ, C => P C ∧ N.nx ρ C
  | d :: r, ρ, C => P C ∧ WG T tg d ρ C fun ρ1 C1 => WSs T body ρ1 C1 { nx := ForW T tg body P N r, ct := ForW T tg body P N r, bk := N.nx, rt := N.rt }
theorem ForW.p {tg : Expr} {P : Cells → Prop} {ds : List D} (h : ForW T tg body P N ds ρ C) : P C := by
  cases ds with
  | nil => exact h.1
  | cons d r => exact h.1
theorem ws_for {tg iter : Expr} (hc : X.calm = true) (h : WI T tg iter ρ C fun ds P C1 => ForW T tg body P N ds ρ C1) (hs : ∀ x, foldedSetIterable iter X.env x = pure x := by intro _; rfl) : WS T (.For tg iter body [] pos) ρ C N := by
  refine PS.imp (ps_for T.pass hc h (pg_some T tg) (pss_some T body) hs) fun Dn σ H ⟨H0, at_, k⟩ => ⟨H0, at_, fun J ds P C1 H1 H01 p1 c1 y1 q1 => ?_⟩
  refine ⟨fun i m σ2 H2 => m = ds.length - i ∧ i ≤ ds.length ∧ ∃ ρ2 C2 H02, At T H02 ρ2 C2 σ2 H2 ∧ Stp H01 C1 H1 H02 C2 H2 ∧ ForW T tg body P N (ds.drop i) ρ2 C2, ⟨_, rfl, Nat.zero_le _, ρ, C1, H01, at_.step p1 c1, Stp.refl _ _ _, q1⟩, ?_⟩
  rintro i m σ2 H2 ⟨rfl, hi, ρ2, C2, H02, at2, p2, q2⟩
  have hP : P C2 := ForW.p q2
  by_cases hlt : i < ds.length
  · refine .inr ⟨y1.go i _ _ _ p2.base at2.c hP hlt, fun σ3 H3 => ∃ ρ3 C3 H03, At T H03 ρ3 C3 σ3 H3 ∧ Stp H01 C1 H1 H03 C3 H3 ∧ ForW T tg body P N (ds.drop (i + 1)) ρ3 C3, fun σ3 H3 ⟨ρ3, C3, H03, at3, p3, q3⟩ => ⟨_, by omega, rfl, hlt, ρ3, C3, H03, at3, p3, q3⟩, fun x H3 hy => ?_⟩
    obtain ⟨H03, p3, c3, r3⟩ := y1.yld i _ _ _ x H3 ds[i] p2.base at2.c hP (by simp [hlt]) hy
    rw [List.drop_eq_getElem_cons hlt] at q2
    have at3 := at2.step p3 c3
    refine ⟨ds[i], ρ2, C2, _, q2.2, H03, at3, r3, fun ρ4 σ4 C4 H4 H04 p4 c4 s4 l4 q4 => ⟨ρ4, C4, _, q4, H04, ⟨T.up at3.a at3.c p4 c4, c4, s4, l4⟩, ?_⟩⟩
    have at4 : At T H04 ρ4 C4 σ4 H4 := ⟨T.up at3.a at3.c p4 c4, c4, s4, l4⟩
    have p14 : Stp H01 C1 H1 H04 C4 H4 := (p2.trans at2.c p3).trans at3.c p4
    have again : ContS X H04 C4 H4 (ForW T tg body P N (ds.drop (i + 1))) fun σ3 H3 => ∃ ρ3 C3 H03, At T H03 ρ3 C3 σ3 H3 ∧ Stp H01 C1 H1 H03 C3 H3 ∧ ForW T tg body P N (ds.drop (i + 1)) ρ3 C3 :=
      fun ρ5 σ5 C5 H5 H05 p5 c5 s5 l5 q5 => ⟨ρ5, C5, H05, ⟨T.up at4.a at4.c p5 c5, c5, s5, l5⟩, p14.trans c4 p5, q5⟩
    have tail := (k.after p1 c1).after p14 c4
    exact ⟨again, tail.rt, tail.nx, again⟩
  · have e : i = ds.length := by omega
    subst e
    rw [List.drop_length] at q2
    exact .inl ⟨y1.stop _ _ _ _ p2.base at2.c hP (Nat.le_refl _), ContS.here ((k.after p1 c1).after p2 at2.c).nx at2 q2.2⟩

theorem ws_while {cond : Expr} (W : Nat → Rho → Cells → Prop) (m0 : Nat) (h0 : W m0 ρ C)
    (turn : ∀ m ρ C, W m ρ C → WT T cond ρ C fun k C1 => if k = true then WSs T body ρ C1 { nx := fun ρ' C' => ∃ m', m' < m ∧ W m' ρ' C', ct := fun ρ' C' => ∃ m', m' < m ∧ W m' ρ' C', bk := N.nx, rt := N.rt } else N.nx ρ C1) :
    WS T (.While cond body [] pos) ρ C N := by
  have hcond : PT X cond (fun σ H R => ∃ ρ C Q, WT T cond ρ C Q ∧ TTx T ρ C Q σ H R) := ⟨fun pins s σ H Q I ⟨ρ, C, q, h, t⟩ => h.run pins s σ H Q I t⟩
  refine PS.imp (ps_while T.pass hcond (pss_some T body)) fun Dn σ H ⟨H0, at_, k⟩ => ?_
  refine ⟨fun m σ2 H2 => ∃ ρ2 C2 H02, At T H02 ρ2 C2 σ2 H2 ∧ Stp H0 C H H02 C2 H2 ∧ W m ρ2 C2, ⟨m0, ρ, C, H0, at_, Stp.refl _ _ _, h0⟩, ?_⟩
  rintro m σ2 H2 ⟨ρ2, C2, H02, at2, p2, w2⟩
  refine ⟨ρ2, C2, _, turn m ρ2 C2 w2, H02, at2, fun b C3 H3 H03 p3 c3 q3 => ?_⟩
  have at3 := at2.step p3 c3
  have tail := (k.after p2 at2.c).after p3 c3
  cases b with
  | false => exact ContS.here tail.nx at3 q3
  | true =>
    refine ⟨fun σ4 H4 => ∃ m', m' < m ∧ ∃ ρ4 C4 H04, At T H04 ρ4 C4 σ4 H4 ∧ Stp H0 C H H04 C4 H4 ∧ W m' ρ4 C4, fun σ4 H4 ⟨m', hm, z⟩ => ⟨m', hm, z⟩, ρ2, C3, _, q3, H03, at3, ?_⟩
    have again : ContS X H03 C3 H3 (fun ρ' C' => ∃ m', m' < m ∧ W m' ρ' C') fun σ4 H4 => ∃ m', m' < m ∧ ∃ ρ4 C4 H04, At T H04 ρ4 C4 σ4 H4 ∧ Stp H0 C H H04 C4 H4 ∧ W m' ρ4 C4 :=
      fun ρ5 σ5 C5 H5 H05 p5 c5 s5 l5 ⟨m', hm, w5⟩ => ⟨m', hm, ρ5, C5, H05, ⟨T.up at3.a at3.c p5 c5, c5, s5, l5⟩, (p2.trans at2.c p3).trans at3.c p5, w5⟩
    exact ⟨again, tail.rt, tail.nx, again⟩
end
end Tr

set_option maxHeartbeats 2000000
namespace Tr
open PySem L2 PySem.Spec PyProof.Rows

abbrev QX := Value → XF → Cells → Prop
abbrev FS := List D → Cells → QE → QX → Prop
abbrev ContX (K : W.Frag) (H0 : Hp) (C : Cells) (H : Hp) (Qx : QX) (E : XK) : Prop := ∀ cls dd fs C' H' H0', Stp H0 C H H0' C' H' → CellsR K H0' C' H' → ExcR K H0' H' dd fs → Qx cls fs C' → E cls dd H'
abbrev ContK (K : W.Frag) (H0 : Hp) (C : Cells) (H : Hp) (Q : QE) (R : VK) : Prop := ∀ v d C' H' H0', Stp H0 C H H0' C' H' → CellsR K H0' C' H' → Rep K H0' d v → Q d C' → R v H'
def spT (K : W.Frag) (F : FS) : Sp := fun vs H R E => ∃ H0 ds C Q Qx, CellsR K H0 C H ∧ Reps K H0 ds vs ∧ F ds C Q Qx ∧ ContK K H0 C H Q R ∧ ContX K H0 C H Qx E
def rho0 (N : List Str) (ds : List D) : Rho := ds.map some ++ List.replicate (N.length - ds.length) none
theorem slots_start {K : W.Frag} {H0 : Hp} {N : List Str} {ds : List D} {vs : List V} (r : Reps K H0 ds vs) : SlotsR K H0 (rho0 N ds) (L2.start N vs) ∧ (rho0 N ds).length = (L2.start N vs).length := by
  have hl := r.length
  refine ⟨fun i d h => ?_, by simp [rho0, L2.start, hl]⟩
  unfold rho0 at h
  by_cases hi : i < ds.length
  · rw [List.getElem?_append_left (by simpa using hi), List.getElem?_map] at h
    cases e : ds[i]? with
    | none => rw [e] at h; cases h
    | some d' =>
      rw [e] at h; cases h
      obtain ⟨v, h1, h2⟩ := r.get e
      refine ⟨v, ?_, h2⟩
      unfold L2.start
      rw [List.getElem?_append_left (by simp [← hl, hi]), List.getElem?_map, h1]; rfl
  · rw [List.getElem?_append_right (by simpa using hi), List.getElem?_replicate] at h
    split at h <;> cases h

section
variable {P : Program} {w : World} {K : W.Frag} {mg : Str → Option Value} {base : Heap}
def bodyT {N : List Str} {qual : Str} {scope : Scope} {f : Addr} {cdv : Value} {A : Around} {outer : List Env} {s : Shared} {H : Hp} {E : XK} {H0 : Hp} {C : Cells} {Qx : QX} (hE : ContX K H0 C H Qx E) :
    TX (cxOf (L2.CX P w) P w K mg base N qual scope f cdv A outer s H E) where
  A := fun H0' C' H' => Stp H0 C H H0' C' H'
  up := fun a c p c' => a.trans c p
  XQ := fun cls fs _ C' => Qx cls fs C'
  tk := (takes_of (X := cxOf (L2.CX P w) P w K mg base N qual scope f cdv A outer s H E) rfl rfl rfl rfl).imp fun cls d σ H' ⟨fs, ρ, C', H0', a, c, _, _, x, q⟩ => hE cls d fs C' H' H0' a c x q
  pass := passes_of rfl
structure RoomG (k : Nat) (A : Around) : Prop where
  rm : Room k A
  gd : A.guards = some []
theorem RoomG.mono {j k : Nat} {A : Around} (r : RoomG k A) (h : j ≤ k) : RoomG j A := ⟨r.rm.mono h, r.gd⟩
theorem RoomG.deeper {k : Nat} {A : Around} (r : RoomG (k + 1) A) (env : Env) : RoomG k (A.deeper env) := ⟨r.rm.deeper env, r.gd⟩
theorem RoomG.make {k : Nat} {A : Around} (r : RoomG (k + 1) A) (C : Addr) (us : List Value) (kw : List (Str × Value)) : RoomG k (A.under (.builtin "type.__call__" ⟨.ref C :: us, kw⟩)) := by
  refine ⟨r.rm.make C us kw, ?_⟩
  show pushGuards (Code.guards (.builtin "type.__call__" ⟨.ref C :: us, kw⟩)) A.guards = some []
  have e : Code.guards (.builtin "type.__call__" ⟨.ref C :: us, kw⟩) = [] := by
    have n : guardIds.contains "type.__call__" = false := by decide
    unfold Code.guards Code.isGuard
    simp only [n, Bool.false_eq_true, if_false]
  rw [e]; exact r.gd
structure FnG (P : Program) (w : World) (K : W.Frag) (mg : Str → Option Value) (base : Heap) (k : Nat) (f : Addr) (fd : FuncData) (ps : List Str) (F : FS) : Prop where
  len : ∀ ds C Q Qx, F ds C Q Qx → ds.length = ps.length
  run : ∀ (A : Around) (outer : List Env) (s : Shared) (H : Hp) (args : Args) (us : List Value) (vs : List V) (R : VK) (E : XK), RoomG k A → Env0 P w K mg base A outer s H → BindsTo s fd args (ps.zip us) → Vals vs us → spT K F vs H R E →
    codeAny (model P w) A (.call (.ref f) args) (CR (L2.CX P w) outer P w H s R E) s
theorem FnG.mono {P : Program} {w : World} {K : W.Frag} {mg : Str → Option Value} {base : Heap} {j k : Nat} {f : Addr} {fd : FuncData} {ps : List Str} {F : FS} (h : FnG P w K mg base j f fd ps F) (e : j ≤ k) : FnG P w K mg base k f fd ps F :=
  ⟨h.len, fun A outer s H args us vs R E hr => h.run A outer s H args us vs R E (hr.mono e)⟩
theorem FnG.imp {P : Program} {w : World} {K : W.Frag} {mg : Str → Option Value} {base : Heap} {k : Nat} {f : Addr} {fd : FuncData} {ps : List Str} {F F' : FS} (h : FnG P w K mg base k f fd ps F) (i : ∀ ds C Q Qx, F' ds C Q Qx → F ds C Q Qx) : FnG P w K mg base k f fd ps F' :=
  ⟨fun ds C Q Qx z => h.len _ _ _ _ (i _ _ _ _ z), fun A outer s H args us vs R E hr e0 hb rv ⟨H0, ds, C, Q, Qx, c, r, z, k1, k2⟩ => h.run A outer s H args us vs R E hr e0 hb rv ⟨H0, ds, C, Q, Qx, c, r, i _ _ _ _ z, k1, k2⟩⟩
theorem fnT {x qual : Str} {params : Arguments} {body : List Stmt} {scope : Scope} {dvs : List V} {kws : List (Str × V)} {f : Addr} {fd : FuncData} {N ps : List Str} {k : Nat} {F : FS}
    (Fd : FunD K x qual params body scope dvs kws f fd) (S : FnScope N ps scope) (len : ∀ ds C Q Qx, F ds C Q Qx → ds.length = ps.length)
    (hbody : ∀ (cdv : Value) (A : Around) (outer : List Env) (s : Shared) (H : Hp) (E : XK) (T : TX (cxOf (L2.CX P w) P w K mg base N qual scope f cdv A outer s H E)) (ds : List D) (C : Cells) (Q : QE),
      RoomG k (cxOf (L2.CX P w) P w K mg base N qual scope f cdv A outer s H E).A → F ds C Q (fun cls fs C' => ∀ ρ, T.XQ cls fs ρ C') → WSs T body (rho0 N ds) C { nx := fun _ C' => Q .non C', rt := Q }) :
    FnG P w K mg base (k + 1) f fd ps F := by
  obtain ⟨oc, od, dV, kV, doc, pm, an, cdv, ct, osl, efd, lk, hcd, _, _⟩ := Fd.ex
  subst efd
  refine ⟨len, fun A outer s H args us vs R E hr e0 hb rv ⟨H0, ds, C, Q, Qx, c, r, h, kR, kE⟩ => ?_⟩
  have nvs : vs.length = ps.length := r.length.symm.trans (len _ _ _ _ h)
  have keepB := fun (b : Addr) (o : Obj) (e : base.get? b = some o) => (e0.bs b o e).1
  have inHeap := e0.mod.kin.keeps keepB
  have quiet := e0.mod.nolimit.keeps keepB
  have cellsOk : ∀ y ∈ ps.zip us, scope.names.lookup y.1 = some .local ∨ (scope.names.lookup y.1 = some .cell ∧ ((cellsFrom (s.heap.objs.size + 1) scope.names []).lookup y.1).isSome = true) := by
    rintro ⟨n, v⟩ hy
    exact (S.par n (List.of_mem_zip hy).1).imp id fun q => ⟨q, W.cellsFrom_some _ _ _ (.inl q)⟩
  refine codeAny_call_function hr.rm.depth (inHeap _ _ lk) rfl S.co S.gen rfl (W.codeRec_of inHeap hcd) (hb _ _ _ _ (wpAny_newFunctionEnv_cells S.kind cellsOk ?_))
  intro env he s1 entered
  subst he
  refine ⟨quiet.keeps entered.toInCall.keep, codeAny_func ?_⟩
  have I := inv_start (CX := L2.CX P w) (N := N) (E := E) (H := H) S hr.rm.hd e0 nvs rv entered
  obtain ⟨sl, ln⟩ := slots_start (N := N) r
  have hb2 := hbody cdv A outer s H E (bodyT kE) ds C Q (hr.deeper _) (by
    have same : (fun cls fs C' => ∀ ρ : Rho, (bodyT (P := P) (w := w) (K := K) (mg := mg) (base := base) (N := N) (qual := qual) (scope := scope) (f := f) (cdv := cdv) (A := A) (outer := outer) (s := s) kE).XQ cls fs ρ C') = Qx := by
      funext cls fs C'
      exact propext ⟨fun z => z [], fun z _ => z⟩
    rw [same]; exact h)
  have went := hb2.run [] s1 _ H { nx := fun _ H' => R .non H', rt := R } I ⟨H0, ⟨Stp.refl _ _ _, c, sl, ln⟩, ⟨fun _ _ C' H' H0' p c' _ _ q => kR .non .non C' H' H0' p c' rfl q, kR, fun _ _ _ _ _ _ _ _ _ q => False.elim q, fun _ _ _ _ _ _ _ _ _ q => False.elim q⟩⟩
  refine wpAny_mono went ?_ fun _ _ z => z
  rintro (_ | _ | _ | u) s' hs
  · obtain ⟨_, H', J, q⟩ := hs
    exact ⟨.non, H', J.os, J.bare, J.base, J.hok, rfl, q⟩
  · exact False.elim (let ⟨_, _, _, q⟩ := hs; q)
  · exact False.elim (let ⟨_, _, _, q⟩ := hs; q)
  · obtain ⟨v, _, H', J, rv', q⟩ := hs
    exact ⟨v, H', J.os, J.bare, J.base, J.hok, rv', q⟩
end

theorem CellsR.part {K : W.Frag} {H0 H : Hp} {C μ r : Cells} (c : CellsR K H0 C H) (p : C.Perm (μ ++ r)) : CellsR K H0 μ H :=
  ⟨c.same, fun a ⟨x, hx⟩ => c.free a ⟨x, p.mem_iff.mpr (List.mem_append_left _ hx)⟩, fun a x hx => c.ok a x (p.mem_iff.mpr (List.mem_append_left _ hx)),
    (List.nodup_append.mp (by have := (p.map (·.1)).nodup_iff.mp c.nd; rwa [List.map_append] at this)).1⟩
theorem CellsR.back {K : W.Frag} {H0 H H0' H' : Hp} {C μ r μ' : Cells} (c : CellsR K H0 C H) (p : C.Perm (μ ++ r)) (st : Stp H0 μ H H0' μ' H') (c' : CellsR K H0' μ' H') :
    Stp H0 C H H0' (μ' ++ r) H' ∧ CellsR K H0' (μ' ++ r) H' := by
  have nd := (p.map (·.1)).nodup_iff.mp c.nd
  rw [List.map_append, List.nodup_append] at nd
  have off : ∀ a, Dom r a → ¬ Dom μ a := fun a ⟨x, hx⟩ ⟨y, hy⟩ => nd.2.2 a (List.mem_map.mpr ⟨_, hy, rfl⟩) a (List.mem_map.mpr ⟨_, hx, rfl⟩) rfl
  have inC : ∀ a, Dom r a → Dom C a := fun a ⟨x, hx⟩ => ⟨x, p.mem_iff.mpr (List.mem_append_right _ hx)⟩
  have rest : ∀ a, Dom r a → H0' a = none ∧ ¬ Dom μ' a ∧ H' a = H a := fun a d => by
    obtain ⟨x, hx⟩ := id d
    have ne := (c.ok a x (p.mem_iff.mpr (List.mem_append_right _ hx))).some
    obtain ⟨q1, q2⟩ := st.own a ne (c.free a (inC a d)) (off a d)
    obtain ⟨o, ho⟩ := Option.ne_none_iff_exists'.mp ne
    exact ⟨q1, q2, by rw [ho]; exact st.fr a o ho (off a d)⟩
  have domC : ∀ a, Dom C a ↔ Dom μ a ∨ Dom r a := fun a => by
    constructor
    · rintro ⟨x, hx⟩
      rcases List.mem_append.mp (p.mem_iff.mp hx) with h | h
      · exact .inl ⟨x, h⟩
      · exact .inr ⟨x, h⟩
    · rintro (⟨x, hx⟩ | h)
      · exact ⟨x, p.mem_iff.mpr (List.mem_append_left _ hx)⟩
      · exact inC a h
  refine ⟨⟨st.base, fun a o h n => st.fr a o h fun d => n ((domC a).mpr (.inl d)), fun a h e n => ?_⟩, ⟨c'.same, fun a d => ?_, fun a x hx => ?_, ?_⟩⟩
  · obtain ⟨q1, q2⟩ := st.own a h e fun d => n ((domC a).mpr (.inl d))
    refine ⟨q1, fun ⟨x, hx⟩ => ?_⟩
    rcases List.mem_append.mp hx with hx | hx
    · exact q2 ⟨x, hx⟩
    · exact n ((domC a).mpr (.inr ⟨x, hx⟩))
  · obtain ⟨x, hx⟩ := d
    rcases List.mem_append.mp hx with hx | hx
    · exact c'.free a ⟨x, hx⟩
    · exact (rest a ⟨x, hx⟩).1
  · rcases List.mem_append.mp hx with hx | hx
    · exact c'.ok a x hx
    · exact (c.ok a x (p.mem_iff.mpr (List.mem_append_right _ hx))).mono st.base (rest a ⟨x, hx⟩).2.2
  · rw [List.map_append, List.nodup_append]
    refine ⟨c'.nd, nd.2.1, fun a ha b hb e => ?_⟩
    subst e
    obtain ⟨⟨a1, x⟩, h1, h2⟩ := List.mem_map.mp ha
    obtain ⟨⟨a2, y⟩, h3, h4⟩ := List.mem_map.mp hb
    simp only at h2 h4
    subst h2; subst h4
    exact (rest _ ⟨y, h3⟩).2.1 ⟨x, h1⟩

section
variable {X : Cx} {T : TX X} {ρ : Rho} {C : Cells} {Q : QE} {e a b o : Expr} {pos p apos : Pos} {es : List Expr} {k : Nat} {f Cl : Addr} {fd : FuncData} {ps : List Str} {F : FS} {dvs : List V} {dds : List D} {dus : List Value} {x m : Str}
def Asks (T : TX X) (F : FS) (ρ : Rho) (ds : List D) (C : Cells) (Q : QE) : Prop :=
  ∃ μ r, C.Perm (μ ++ r) ∧ F ds μ (fun d μ' => Q d (μ' ++ r)) fun cls fs μ' => T.XQ cls fs ρ (μ' ++ r)
theorem asks_sp {H0 H : Hp} {ds : List D} {vs : List V} {R : VK} {σ : L2.St} (h : Asks T F ρ ds C Q) (at_ : At T H0 ρ C σ H) (r : Reps X.K H0 ds vs) (k : Cont X H0 C H Q R) :
    spT X.K F vs H R (L2.WE (fun cls d σ H => ∃ fs ρ C H0, T.A H0 C H ∧ CellsR X.K H0 C H ∧ SlotsR X.K H0 ρ σ ∧ ρ.length = σ.length ∧ ExcR X.K H0 H d fs ∧ T.XQ cls fs ρ C) σ) := by
  obtain ⟨μ, rr, pm, h⟩ := h
  refine ⟨H0, ds, μ, _, _, at_.c.part pm, r, h, fun v d C' H' H0' p c r' q => ?_, fun cls dd fs C' H' H0' p c x q => ?_⟩
  · obtain ⟨p2, c2⟩ := at_.c.back pm p c
    exact k v d _ H' H0' p2 c2 r' q
  · obtain ⟨p2, c2⟩ := at_.c.back pm p c
    have a2 := at_.step p2 c2
    exact ⟨fs, ρ, _, H0', a2.a, a2.c, a2.s, a2.l, x, q⟩
theorem run_T {pins : List (Addr × Obj)} {σ : L2.St} {H H0 : Hp} {s : Shared} {R : VK} {us : List Value} {vs : List V} {ds : List D} (Fk : FnG X.prog X.w X.K X.mg X.base k f fd ps F) (hr : RoomG k X.A) (hb : Binds X.K fd ps dus) (hd : Vals dvs dus) (hdd : ∀ H, Reps X.K H dds dvs)
    (I : Inv X pins σ H s) (rv : Vals vs us) (at_ : At T H0 ρ C σ H) (r : Reps X.K H0 ds vs) (h : Asks T F ρ (ds ++ dds) C Q) (k : Cont X H0 C H Q R) : wpAny (model X.prog X.w) X.A (call (.ref f) us) (EP X pins σ R) X.xe s := by
  have all := asks_sp h at_ (r.append (hdd H0)) k
  have nlen : (us ++ dus).length = ps.length := by
    obtain ⟨_, ds', _, _, _, _, r', h', _⟩ := id all
    rw [← (rv.append hd).length, ← r'.length]
    exact Fk.len _ _ _ _ h'
  have went := Fk.run X.A X.stack s H ⟨us, []⟩ (us ++ dus) (vs ++ dvs) R _ hr I.env0 (hb s us I.kIn nlen) (rv.append hd) all
  refine wpAny_call (codeAny_mono went ?_)
  rintro (e | (_ | _ | _ | u)) s' hq
  · exact passAt T.tk σ pins H s e s' I hq
  · exact False.elim hq
  · exact False.elim hq
  · exact False.elim hq
  · exact I.after hq
theorem we_call (Fk : FnG X.prog X.w X.K X.mg X.base k f fd ps F) (hr : RoomG k X.A) (hg : Gl X x) (hm : X.mg x = some (.ref f)) (hk : W.keepIn X.K (.ref f) = true) (hb : Binds X.K fd ps dus) (hd : Vals dvs dus) (hdd : ∀ H, Reps X.K H dds dvs)
    (h : WA T (a :: es) ρ C fun ds C1 => Asks T F ρ (ds ++ dds) C1 Q) (hdb : (x == ("__debug__" : Str)) = false := by decide) (he : starEach (a :: es) X.env = (false, eval a X.env) :: starEach es X.env := by rfl) (hpl : (backTo pos (starEach es X.env)).any (·.1) = false := by rfl) :
    WE T (.Call (.Name x p) (a :: es) [] pos) ρ C Q := by
  refine ⟨fun pins s σ H R I ⟨H0, at_, k⟩ => wpAny_Call_Name_kw (ld_glob I hg hm (W.callWith_K (h₀ := X.base) I.ok.mod.kin hk ?_ he hpl) hdb)⟩
  refine thn (h.run pos pins s σ H (fun vs H1 => ∃ ds C1 H01, At T H01 ρ C1 σ H1 ∧ Cont X H01 C1 H1 Q R ∧ Reps X.K H01 ds vs ∧ Asks T F ρ (ds ++ dds) C1 Q) I ⟨H0, at_, fun vs ds C1 H1 H01 p1 c1 r1 q1 => ⟨ds, C1, H01, at_.step p1 c1, k.after p1 c1 fun _ _ z => z, r1, q1⟩⟩) ?_
  exact fun us s1 ⟨vs, H1, I1, rv, ds, C1, H01, at1, k1, r1, q1⟩ => ⟨I1.kIn, run_T Fk hr hb hd hdd I1 rv at1 r1 q1 k1⟩
def InsD (C : Cells) (d : D) (Cl : Addr) (ns : List Str) (ds : List D) : Prop := d = .ins Cl ns ds ∨ ∃ a, d = .raw (.ref a) ∧ (a, Cell.ins Cl ns ds) ∈ C
theorem ins_at {H0 H : Hp} {d : D} {v : V} {ns : List Str} {ds : List D} (c : CellsR X.K H0 C H) (r : Rep X.K H0 d v) (h : InsD C d Cl ns ds) : ∃ a dx vs, v = .ref a ∧ H a = some (.ins Cl dx (ns.zip vs)) ∧ ns.length = vs.length ∧ Reps X.K H0 ds vs := by
  rcases h with rfl | ⟨a, rfl, hm⟩
  · obtain ⟨a, dx, vs, h1, h2, h3, h4⟩ := r
    exact ⟨a, dx, vs, h1, c.same _ _ h2, h3, h4⟩
  · obtain ⟨dx, vs, h2, h3, h4⟩ := c.ok a _ hm
    exact ⟨a, dx, vs, r, h2, h3, h4⟩
theorem lookup_zip {K : W.Frag} {H0 : Hp} {f : Str} {d : D} : ∀ {ns : List Str} {ds : List D} {vs : List V}, Reps K H0 ds vs → ns.length = vs.length → (ns.zip ds).lookup f = some d → ∃ v, (ns.zip vs).lookup f = some v ∧ Rep K H0 d v
  | [], _, _, _, _, h => by simp at h
  | n :: ns, [], _, _, _, h => by simp at h
  | n :: ns, d0 :: ds, vs, ⟨v, r, h1, h2, h3⟩, hl, h => by
    subst h1
    rw [List.zip_cons_cons, List.lookup_cons] at h ⊢
    cases e : f == n with
    | true => rw [e] at h; cases h; exact ⟨v, rfl, h2⟩
    | false => rw [e] at h; exact lookup_zip h3 (by simpa using hl) h
theorem we_fld (hb : attributeBase e m X.env (eval e X.env) = eval e X.env) (h : WE T e ρ C fun d C1 => ∃ Cl ns ds d', InsD C1 d Cl ns ds ∧ Cls X.K Cl ∧ NoAttr X.K Cl m ∧ (ns.zip ds).lookup m = some d' ∧ Q d' C1) : WE T (.Attribute e m pos) ρ C Q :=
  PE.imp (pe_fld h hb) fun σ H R ⟨H0, at_, k⟩ => ⟨H0, at_, fun v d C1 H1 H01 p1 c1 r1 ⟨Cl, ns, ds, d', hi, hc, hn, hl, q⟩ => by
    obtain ⟨a, dx, vs, e1, e2, e3, e4⟩ := ins_at c1 r1 hi
    obtain ⟨v', g1, g2⟩ := lookup_zip e4 e3 hl
    exact ⟨a, Cl, dx, _, v', e1, e2, hc, hn, g1, k _ d' C1 H1 H01 p1 c1 g2 q⟩⟩
end
end Tr

set_option maxHeartbeats 2000000
namespace Tr
open PySem L2 PySem.Spec PyProof.Rows

section
variable {X : Cx} {T : TX X} {ρ : Rho} {C : Cells} {Q : QE} {e a b o : Expr} {pos p apos : Pos} {es : List Expr} {k : Nat} {f Cl : Addr} {fd : FuncData} {ps : List Str} {F : FS} {dvs : List V} {dds : List D} {dus : List Value} {x m : Str}
def AsksM (T : TX X) (F : FS) (Cl : Addr) (ρ : Rho) (ds : List D) (C : Cells) (Q : QE) : Prop :=
  ∃ μ r, C.Perm (μ ++ r) ∧ ∀ z, F (.raw (.ref z) :: ds) ((z, .ins Cl [] []) :: μ) (fun d μ' => d = .non ∧ Q (.raw (.ref z)) (μ' ++ r)) fun cls fs μ' => T.XQ cls fs ρ (μ' ++ r)
theorem stp_made {K : W.Frag} {H0 H : Hp} {C : Cells} {z dz Cl : Addr} (c : CellsR K H0 C H) (hz : H z = none) (hdz : H dz = none) (ne : dz ≠ z) :
    Stp H0 C H (upd H0 dz (.own z)) ((z, .ins Cl [] []) :: C) (upd (upd H dz (.own z)) z (.ins Cl dz [])) ∧ CellsR K (upd H0 dz (.own z)) ((z, .ins Cl [] []) :: C) (upd (upd H dz (.own z)) z (.ins Cl dz [])) := by
  obtain ⟨p1, c1⟩ := stp_new (o := .own z) c hdz
  have hz1 : (upd H dz (.own z)) z = none := by rw [upd_ne (Ne.symm ne)]; exact hz
  obtain ⟨p2, c2⟩ := stp_cell (o := .ins Cl dz []) (c := .ins Cl [] []) c1 hz1 ⟨dz, [], by rw [upd_same]; rfl, rfl, Reps.nil⟩
  exact ⟨p1.trans c1 p2, c2⟩
theorem asksM_sp {H0 H : Hp} {ds : List D} {vs : List V} {R : VK} {σ : L2.St} (h : AsksM T F Cl ρ ds C Q) (at_ : At T H0 ρ C σ H) (r : Reps X.K H0 ds vs) (k : Cont X H0 C H Q R) {z dz : Addr} (hz : H z = none) (hdz : H dz = none) (ne : dz ≠ z) :
    spT X.K F (.ref z :: vs) (upd (upd H dz (.own z)) z (.ins Cl dz [])) (fun v H2 => v = .non ∧ R (.ref z) H2) (L2.WE (fun cls d σ H => ∃ fs ρ C H0, T.A H0 C H ∧ CellsR X.K H0 C H ∧ SlotsR X.K H0 ρ σ ∧ ρ.length = σ.length ∧ ExcR X.K H0 H d fs ∧ T.XQ cls fs ρ C) σ) := by
  obtain ⟨μ, rr, pm, h⟩ := h
  obtain ⟨p1, c1⟩ := stp_made (Cl := Cl) at_.c hz hdz ne
  have at1 := at_.step p1 c1
  have pm1 : ((z, Cell.ins Cl [] []) :: C).Perm (((z, Cell.ins Cl [] []) :: μ) ++ rr) := by rw [List.cons_append]; exact pm.cons _
  refine ⟨upd H0 dz (.own z), .raw (.ref z) :: ds, (z, .ins Cl [] []) :: μ, _, _, c1.part pm1, Reps.cons rfl (r.mono p1.base), h z, fun v d C' H' H0' p c r' ⟨q1, q2⟩ => ?_, fun cls dd fs C' H' H0' p c xr q => ?_⟩
  · subst q1
    obtain ⟨p2, c2⟩ := c1.back pm1 p c
    exact ⟨r', k (.ref z) (.raw (.ref z)) _ H' H0' (p1.trans c1 p2) c2 rfl q2⟩
  · obtain ⟨p2, c2⟩ := c1.back pm1 p c
    have a3 := at_.step (p1.trans c1 p2) c2
    exact ⟨fs, ρ, _, H0', a3.a, a3.c, a3.s, a3.l, xr, q⟩
theorem run_makeT {pins : List (Addr × Obj)} {σ : L2.St} {H H0 : Hp} {s : Shared} {R : VK} {us : List Value} {vs : List V} {ds : List D} (M : Mk X.K Cl f) (Fk : FnG X.prog X.w X.K X.mg X.base k f fd ps F) (hr : RoomG (k + 1) X.A) (hb : Binds X.K fd ps dus) (hd : Vals dvs dus) (hdd : ∀ H, Reps X.K H dds dvs)
    (I : Inv X pins σ H s) (rv : Vals vs us) (at_ : At T H0 ρ C σ H) (r : Reps X.K H0 ds vs) (h : AsksM T F Cl ρ (ds ++ dds) C Q) (k : Cont X H0 C H Q R) : wpAny (model X.prog X.w) X.A (call (.ref Cl) us) (EP X pins σ R) X.xe s := by
  have J := Inv.made (C := Cl) I
  have all := asksM_sp h at_ (r.append (hdd H0)) k (z := s.heap.objs.size + 1) (dz := s.heap.objs.size) (I.hok.fresh (Nat.le_succ _)) (I.hok.fresh (Nat.le_refl _)) (Nat.ne_of_lt (Nat.lt_succ_self _))
  have rall : Vals (V.ref (s.heap.objs.size + 1) :: (vs ++ dvs)) (Value.ref (s.heap.objs.size + 1) :: (us ++ dus)) := .cons rfl (rv.append hd)
  have nlen : ((Value.ref (s.heap.objs.size + 1) :: us) ++ dus).length = ps.length := by
    obtain ⟨_, ds', _, _, _, _, r', h', _⟩ := id all
    have e1 := Fk.len _ _ _ _ h'
    rw [r'.length, rall.length] at e1
    exact e1
  have went := Fk.run _ X.stack _ _ ⟨Value.ref (s.heap.objs.size + 1) :: us, []⟩ _ _ _ _ (hr.make Cl us []) (J.env0.make Cl us []) (hb _ (Value.ref (s.heap.objs.size + 1) :: us) J.kIn nlen) rall all
  refine wpAny_call (make_map (f := f) I.kIn M.makes M.init (beq_iff_eq.mp M.fn) (codeAny_mono went ?_))
  rintro (e | (_ | _ | _ | u)) s' hq
  · exact passAt T.tk σ pins _ _ e s' J hq
  · exact False.elim hq
  · exact False.elim hq
  · exact False.elim hq
  · obtain ⟨v, H', I', rv', ev, q⟩ := J.after hq
    subst ev
    exact ⟨rv', .ref (s.heap.objs.size + 1), H', I', rfl, q⟩
theorem we_make (M : Mk X.K Cl f) (Fk : FnG X.prog X.w X.K X.mg X.base k f fd ps F) (hr : RoomG (k + 1) X.A) (hg : Gl X x) (hm : X.mg x = some (.ref Cl)) (hb : Binds X.K fd ps dus) (hd : Vals dvs dus) (hdd : ∀ H, Reps X.K H dds dvs)
    (h : WA T (a :: es) ρ C fun ds C1 => AsksM T F Cl ρ (ds ++ dds) C1 Q) (hdb : (x == ("__debug__" : Str)) = false := by decide) (he : starEach (a :: es) X.env = (false, eval a X.env) :: starEach es X.env := by rfl) (hpl : (backTo pos (starEach es X.env)).any (·.1) = false := by rfl) :
    WE T (.Call (.Name x p) (a :: es) [] pos) ρ C Q := by
  refine ⟨fun pins s σ H R I ⟨H0, at_, k⟩ => wpAny_Call_Name_kw (ld_glob I hg hm (W.callWith_K (h₀ := X.base) I.ok.mod.kin M.kp ?_ he hpl) hdb)⟩
  refine thn (h.run pos pins s σ H (fun vs H1 => ∃ ds C1 H01, At T H01 ρ C1 σ H1 ∧ Cont X H01 C1 H1 Q R ∧ Reps X.K H01 ds vs ∧ AsksM T F Cl ρ (ds ++ dds) C1 Q) I
    ⟨H0, at_, fun vs ds C1 H1 H01 p1 c1 r1 q1 => ⟨ds, C1, H01, at_.step p1 c1, k.after p1 c1 fun _ _ z => z, r1, q1⟩⟩) ?_
  exact fun us s1 ⟨vs, H1, I1, rv, ds, C1, H01, at1, k1, r1, q1⟩ => ⟨I1.kIn, run_makeT M Fk hr hb hd hdd I1 rv at1 r1 q1 k1⟩
def Cell.toD : Cell → D
  | .lst ds => .lst ds
  | .dK ks ds => .dic ks ds
  | .ins Cl ns ds => .ins Cl ns ds
theorem stp_freeze {K : W.Frag} {H0 H : Hp} {C : Cells} {i : Nat} {z : Addr} {c : Cell} (r : CellsR K H0 C H) (hi : C[i]? = some (z, c)) :
    ∃ o, H z = some o ∧ Stp H0 C H (upd H0 z o) (C.eraseIdx i) H ∧ CellsR K (upd H0 z o) (C.eraseIdx i) H ∧ Rep K (upd H0 z o) c.toD (.ref z) := by
  have hm : (z, c) ∈ C := List.mem_iff_getElem?.mpr ⟨i, hi⟩
  have ok := r.ok z c hm
  obtain ⟨o, ho⟩ := Option.ne_none_iff_exists'.mp ok.some
  have n0 := r.free z ⟨c, hm⟩
  have s0 : Same H0 (upd H0 z o) := fun a u h => by rw [upd_ne (ne_of_none h n0)]; exact h
  have er : ∀ a x, (a, x) ∈ C.eraseIdx i → (a, x) ∈ C ∧ a ≠ z := fun a x h => by
    have h' := List.mem_of_mem_eraseIdx h
    refine ⟨h', fun e => ?_⟩
    subst e
    obtain ⟨j, hj⟩ := List.mem_iff_getElem?.mp h
    rw [List.getElem?_eraseIdx] at hj
    have nd := r.nd
    have key : ∀ j', C[j']? = some (a, x) → j' = i := fun j' hj' => by
      have h1 : (C.map (·.1))[i]? = some a := by rw [List.getElem?_map, hi]; rfl
      have h2 : (C.map (·.1))[j']? = some a := by rw [List.getElem?_map, hj']; rfl
      obtain ⟨l1, e1⟩ := List.getElem?_eq_some_iff.mp h1
      obtain ⟨l2, e2⟩ := List.getElem?_eq_some_iff.mp h2
      exact ((List.getElem_inj nd).mp (e1.trans e2.symm)).symm
    split at hj
    · have := key _ hj; omega
    · have := key _ hj; omega
  refine ⟨o, ho, ⟨s0, fun a u h _ => h, fun a h e n => ⟨?_, fun ⟨x, hx⟩ => n ⟨x, (er a x hx).1⟩⟩⟩, ⟨fun a u h => ?_, fun a ⟨x, hx⟩ => ?_, fun a x hx => (r.ok a x (er a x hx).1).mono s0 rfl, ?_⟩, ?_⟩
  · rw [upd_ne (show a ≠ z from fun q => n ⟨c, by rw [q]; exact hm⟩)]; exact e
  · by_cases q : a = z
    · subst q; rw [upd_same] at h; cases h; exact ho
    · rw [upd_ne q] at h; exact r.same a u h
  · rw [upd_ne (er a x hx).2]; exact r.free a ⟨x, (er a x hx).1⟩
  · exact r.nd.sublist ((List.eraseIdx_sublist _ _).map _)
  · cases c with
    | lst ds =>
      obtain ⟨vs, q1, q2⟩ := ok
      rw [ho] at q1; cases q1
      exact ⟨z, vs, rfl, .inl (.inl upd_same), q2.mono s0⟩
    | dK ks ds =>
      obtain ⟨vs, q1, q3, q2⟩ := ok
      rw [ho] at q1; cases q1
      exact ⟨z, vs, rfl, .inl upd_same, q3, q2.mono s0⟩
    | ins Cl ns ds =>
      obtain ⟨dx, vs, q1, q3, q2⟩ := ok
      rw [ho] at q1; cases q1
      exact ⟨z, dx, vs, rfl, upd_same, q3, q2.mono s0⟩
theorem we_frz (h : WE T e ρ C fun d C1 => ∃ (i : Nat) (z : Addr) (c : Cell), d = .raw (.ref z) ∧ C1[i]? = some (z, c) ∧ Q c.toD (C1.eraseIdx i)) : WE T e ρ C Q :=
  PE.imp h fun σ H R ⟨H0, at_, k⟩ => ⟨H0, at_, fun v d C1 H1 H01 p1 c1 r1 ⟨i, z, c, e1, hi, q⟩ => by
    subst e1
    obtain rfl : v = .ref z := r1
    obtain ⟨o, ho, p2, c2, r2⟩ := stp_freeze c1 hi
    exact k _ _ _ H1 _ (p1.trans c1 p2) c2 r2 q⟩
theorem wss_frz {N : TEnds} {st : List Stmt} (j i : Nat) {z : Addr} {c : Cell} (hj : ρ[j]? = some (some (.raw (.ref z)))) (hi : C[i]? = some (z, c)) (h : WSs T st (ρ.set j (some c.toD)) (C.eraseIdx i) N) : WSs T st ρ C N :=
  PSs.imp h fun Dn σ H ⟨H0, at_, k⟩ => by
    obtain ⟨o, ho, p2, c2, r2⟩ := stp_freeze at_.c hi
    have at2 := at_.step p2 c2
    obtain ⟨v, hv, rv⟩ := at_.s j _ hj
    obtain rfl : v = .ref z := rv
    refine ⟨_, ⟨at2.a, at2.c, fun i' d hd => ?_, by rw [List.length_set]; exact at2.l⟩, k.after p2 c2⟩
    rw [List.getElem?_set] at hd
    split at hd
    · rename_i e; subst e
      split at hd
      · cases hd; exact ⟨_, hv, r2⟩
      · cases hd
    · exact at2.s i' d hd


def putN (f : Str) (d : D) : List Str → List D → List Str × List D
  | n :: ns, x :: ds => if n = f then (n :: ns, d :: ds) else (n :: (putN f d ns ds).1, x :: (putN f d ns ds).2)
  | _, _ => ([f], [d])
theorem reps_put {K : W.Frag} {H0 : Hp} {f : Str} {d : D} {v : V} (r : Rep K H0 d v) : ∀ {ns : List Str} {ds : List D} {vs : List V}, Reps K H0 ds vs → ns.length = vs.length →
    ∃ vs', putF f v (ns.zip vs) = (putN f d ns ds).1.zip vs' ∧ (putN f d ns ds).1.length = vs'.length ∧ Reps K H0 (putN f d ns ds).2 vs'
  | [], ds, vs, h, hl => by
    cases vs with
    | nil => cases ds with
      | nil => exact ⟨[v], rfl, rfl, Reps.cons r Reps.nil⟩
      | cons d0 ds => obtain ⟨_, _, q, _⟩ := h; cases q
    | cons v0 vs => cases hl
  | n :: ns, [], vs, h, hl => by cases h; cases hl
  | n :: ns, d0 :: ds, vs, ⟨v0, vr, h1, h2, h3⟩, hl => by
    subst h1
    rw [List.zip_cons_cons]
    unfold putN
    by_cases e : n = f
    · subst e
      rw [if_pos rfl]
      exact ⟨v :: vr, by unfold putF; rw [if_pos rfl]; rfl, by simpa using hl, Reps.cons r h3⟩
    · rw [if_neg e]
      obtain ⟨vs', q1, q2, q3⟩ := reps_put r h3 (by simpa using hl)
      exact ⟨v0 :: vs', by unfold putF; rw [if_neg e, q1]; rfl, by simp [q2], Reps.cons h2 q3⟩
end
end Tr

set_option maxHeartbeats 2000000
namespace Tr
open PySem L2 PySem.Spec PyProof.Rows

section
variable {X : Cx} {T : TX X} {ρ : Rho} {C : Cells} {Q : QE} {e a b o : Expr} {pos p apos cpos : Pos} {es : List Expr} {d d1 d2 : D} {ds ds2 : List D}

def LstD (C : Cells) (d : D) (ds : List D) : Prop := d = .lst ds ∨ ∃ a, d = .raw (.ref a) ∧ (a, Cell.lst ds) ∈ C
def SeqD (C : Cells) (d : D) (ds : List D) : Prop := LstD C d ds ∨ d = .tup ds
theorem LstD.l : LstD C (.lst ds) ds := .inl rfl
theorem LstD.c {i : Nat} {a : Addr} (h : C[i]? = some (a, .lst ds)) : LstD C (.raw (.ref a)) ds := .inr ⟨a, rfl, List.mem_iff_getElem?.mpr ⟨i, h⟩⟩
theorem SeqD.l : SeqD C (.lst ds) ds := .inl (.inl rfl)
theorem SeqD.t : SeqD C (.tup ds) ds := .inr rfl
theorem SeqD.c {i : Nat} {a : Addr} (h : C[i]? = some (a, .lst ds)) : SeqD C (.raw (.ref a)) ds := .inl (.c h)
theorem lst_at {K : W.Frag} {H0 H : Hp} {v : V} (c : CellsR K H0 C H) (r : Rep K H0 d v) (h : LstD C d ds) : ∃ a vs, v = .ref a ∧ SqL K H a vs ∧ Reps K H0 ds vs := by
  rcases h with rfl | ⟨a, rfl, hm⟩
  · obtain ⟨a, vs, h1, h2, h3⟩ := r
    exact ⟨a, vs, h1, Same.sqL c.same h2, h3⟩
  · obtain ⟨vs, h1, h2⟩ := c.ok a _ hm
    exact ⟨a, vs, r, .inl (.inl h1), h2⟩
theorem tup_at {K : W.Frag} {H0 H : Hp} {v : V} (c : CellsR K H0 C H) (r : Rep K H0 (.tup ds) v) : ∃ a vs, v = .ref a ∧ SqT K H a vs ∧ Reps K H0 ds vs := by
  obtain ⟨a, vs, h1, h2, h3⟩ := r
  exact ⟨a, vs, h1, Same.sqT c.same h2, h3⟩
theorem cw_len (h : SeqD C d ds) (q : Q (.int ds.length) C) : CW T (.builtin "len") [d] C Q :=
  cw_look (d := .int ds.length) call_len_seq (fun xs H H0 c r => by
    obtain ⟨v, e1, r1⟩ := r.one
    subst e1
    rcases h with h | h
    · obtain ⟨a, vs, e2, h2, h3⟩ := lst_at c r1 h
      subst e2
      exact ⟨.int ds.length, rfl, fun R k => ⟨a, vs, rfl, .inl h2, by rw [← h3.length]; exact k⟩⟩
    · subst h
      obtain ⟨a, vs, e2, h2, h3⟩ := tup_at c r1
      subst e2
      exact ⟨.int ds.length, rfl, fun R k => ⟨a, vs, rfl, .inr h2, by rw [← h3.length]; exact k⟩⟩) q
theorem cw_len_str {s : Str} (h : s.length ≤ 100000) (q : Q (.int s.length) C) : CW T (.builtin "len") [.str s] C Q :=
  cw_look (d := .int s.length) call_len_str (fun xs H H0 c r => by
    obtain ⟨v, e1, r1⟩ := r.one
    cases r1; subst e1
    exact ⟨.int s.length, rfl, fun R k => ⟨s, rfl, Nat.le_trans h (by decide), k⟩⟩) q
theorem cw_list (h : SeqD C d ds) (q : Q (.lst ds) C) : CW T (.type "list") [d] C Q :=
  CallR.imp call_list_of fun xs H R ⟨H0, c, r, k⟩ => by
    obtain ⟨v, e1, r1⟩ := r.one
    subst e1
    have fin : ∀ (vs : List V), Reps X.K H0 ds vs → ∀ l, H l = none → R (.ref l) (upd H l (.lst vs)) := fun vs h3 l hl => by
      obtain ⟨p2, c2⟩ := stp_new (o := .lst vs) c hl
      exact k _ (.lst ds) C _ _ p2 c2 ⟨l, vs, rfl, .inl (.inl upd_same), h3.mono p2.base⟩ q
    rcases h with h | h
    · obtain ⟨a, vs, e2, h2, h3⟩ := lst_at c r1 h
      subst e2
      exact ⟨a, vs, rfl, .inl h2, fin vs h3⟩
    · subst h
      obtain ⟨a, vs, e2, h2, h3⟩ := tup_at c r1
      subst e2
      exact ⟨a, vs, rfl, .inr h2, fin vs h3⟩
theorem cw_listC (h : SeqD C d ds) (q : ∀ p, Q (.raw (.ref p)) ((p, .lst ds) :: C)) : CW T (.type "list") [d] C Q :=
  CallR.imp call_list_of fun xs H R ⟨H0, c, r, k⟩ => by
    obtain ⟨v, e1, r1⟩ := r.one
    subst e1
    have fin : ∀ (vs : List V), Reps X.K H0 ds vs → ∀ l, H l = none → R (.ref l) (upd H l (.lst vs)) := fun vs h3 l hl => by
      obtain ⟨p2, c2⟩ := stp_cell (o := .lst vs) (c := .lst ds) c hl ⟨vs, upd_same, h3⟩
      exact k _ (.raw (.ref l)) _ _ _ p2 c2 rfl (q l)
    rcases h with h | h
    · obtain ⟨a, vs, e2, h2, h3⟩ := lst_at c r1 h
      subst e2
      exact ⟨a, vs, rfl, .inl h2, fin vs h3⟩
    · subst h
      obtain ⟨a, vs, e2, h2, h3⟩ := tup_at c r1
      subst e2
      exact ⟨a, vs, rfl, .inr h2, fin vs h3⟩
theorem cw_tuple (h : SeqD C d ds) (q : Q (.tup ds) C) : CW T (.type "tuple") [d] C Q :=
  CallR.imp call_tuple_of fun xs H R ⟨H0, c, r, k⟩ => by
    obtain ⟨v, e1, r1⟩ := r.one
    subst e1
    rcases h with h | h
    · obtain ⟨a, vs, e2, h2, h3⟩ := lst_at c r1 h
      subst e2
      refine ⟨a, vs, rfl, .inl ⟨h2, fun l hl => ?_⟩⟩
      obtain ⟨p2, c2⟩ := stp_new (o := .tup vs) c hl
      exact k _ (.tup ds) C _ _ p2 c2 ⟨l, vs, rfl, .inl (.inl upd_same), h3.mono p2.base⟩ q
    · subst h
      obtain ⟨a, vs, e2, h2, h3⟩ := tup_at c r1
      subst e2
      exact ⟨a, vs, rfl, .inr ⟨h2, k.here (d := .tup ds) c r1 q⟩⟩

def IW (T : TX X) (d1 d2 : D) (C : Cells) (Q : QE) : Prop := IxR X fun x y H R => ∃ H0, CellsR X.K H0 C H ∧ Rep X.K H0 d1 x ∧ Rep X.K H0 d2 y ∧ Cont X H0 C H Q R
theorem IxR.imp {r r' : R2} (h : IxR X r) (i : ∀ x y H R, r' x y H R → r x y H R) : IxR X r' := fun value slice pins s σ H x y v u Q I rx ry q hs => h value slice pins s σ H x y v u Q I rx ry (i _ _ _ _ q) hs
theorem ix_some (T : TX X) : IxR X (fun x y H R => ∃ d1 d2 C Q, IW T d1 d2 C Q ∧ ∃ H0, CellsR X.K H0 C H ∧ Rep X.K H0 d1 x ∧ Rep X.K H0 d2 y ∧ Cont X H0 C H Q R) :=
  fun value slice pins s σ H x y v u Q I rx ry ⟨d1, d2, C, q, h, k⟩ hs => h value slice pins s σ H x y v u Q I rx ry k hs
theorem we_ix (h : WE T a ρ C fun d1 C1 => WE T b ρ C1 fun d2 C2 => IW T d1 d2 C2 Q) (hs : PlainIx b) : WE T (.Subscript a b pos) ρ C Q := by
  refine PE.imp (pe_ix (ix_some T) h (pe_some T ρ b) hs) fun σ H R ⟨H0, at_, k⟩ => ⟨H0, at_, fun v1 d1 C1 H1 H01 p1 c1 r1 q1 => ?_⟩
  have at1 := at_.step p1 c1
  exact ⟨C1, _, q1, H01, at1, fun v2 d2 C2 H2 H02 p2 c2 r2 q2 => ⟨d1, d2, C2, Q, q2, H02, c2, r1.mono p2.base, r2, k.after (p1.trans c1 p2) c2 fun _ _ z => z⟩⟩
theorem atI_reps {K : W.Frag} {H0 : Hp} {vs : List V} {i : Int} (r : Reps K H0 ds vs) (h : atI ds i = some d) : ∃ v, atI vs i = some v ∧ Rep K H0 d v := by
  unfold atI at h ⊢
  rw [← r.length]
  cases e : ixN ds.length i with
  | none => rw [e] at h; cases h
  | some j => rw [e] at h; exact r.get h
theorem iw_lst {i : Int} (h : LstD C d1 ds) (hi : atI ds i = some d) (q : Q d C) : IW T d1 (.int i) C Q :=
  IxR.imp ix_list fun x y H R ⟨H0, c, r1, r2, k⟩ => by
    cases r2
    obtain ⟨a, vs, e2, h2, h3⟩ := lst_at c r1 h
    obtain ⟨v, g1, g2⟩ := atI_reps h3 hi
    exact ⟨a, vs, i, v, e2, rfl, h2, g1, k.here c g2 q⟩
theorem iw_tup {i : Int} (hi : atI ds i = some d) (q : Q d C) : IW T (.tup ds) (.int i) C Q :=
  IxR.imp ix_tup fun x y H R ⟨H0, c, r1, r2, k⟩ => by
    cases r2
    obtain ⟨a, vs, e2, h2, h3⟩ := tup_at c r1
    obtain ⟨v, g1, g2⟩ := atI_reps h3 hi
    exact ⟨a, vs, i, v, e2, rfl, h2, g1, k.here c g2 q⟩
theorem iw_str {s : Str} {i : Int} {c : Nat} (hl : s.length ≤ 100000) (hi : atI s.cps.toList i = some c) (q : Q (.str ⟨#[c]⟩) C) : IW T (.str s) (.int i) C Q :=
  IxR.imp ix_str fun x y H R ⟨H0, c, r1, r2, k⟩ => by
    cases r1; cases r2
    exact ⟨s, i, _, rfl, rfl, Nat.le_trans hl (by decide), hi, k.here (d := .str ⟨#[_]⟩) c rfl q⟩

def cutD (ds : List D) (lo hi : Option Int) : List D := (ds.drop (HT.sIx ds.length 0 lo)).take (HT.sIx ds.length ds.length hi - HT.sIx ds.length 0 lo)
theorem reps_cut {K : W.Frag} {H0 : Hp} {vs : List V} (r : Reps K H0 ds vs) (lo hi : Option Int) : Reps K H0 (cutD ds lo hi) (cutV vs lo hi) := by
  unfold cutD cutV
  rw [← r.length]
  exact (r.drop _).take _
def TOx (T : TX X) (ρ : Rho) (C : Cells) (Q : Option Int → Cells → Prop) : TO := fun σ H R => ∃ H0, At T H0 ρ C σ H ∧ ∀ i C' H' H0', Stp H0 C H H0' C' H' → CellsR X.K H0' C' H' → Q i C' → R i H'
def WO (T : TX X) (e : Option Expr) (ρ : Rho) (C : Cells) (Q : Option Int → Cells → Prop) : Prop := PO X e (TOx T ρ C Q)
theorem PO.imp {e : Option Expr} {t t' : TO} (h : PO X e t) (i : ∀ σ H R, t' σ H R → t σ H R) : PO X e t' := ⟨fun pins s σ H Q I q => h.run pins s σ H Q I (i σ H Q q)⟩
theorem po_any (T : TX X) (ρ : Rho) (e : Option Expr) : PO X e (fun σ H R => ∃ C Q, WO T e ρ C Q ∧ TOx T ρ C Q σ H R) := ⟨fun pins s σ H Q I ⟨C, q, h, t⟩ => h.run pins s σ H Q I t⟩
theorem wo_none {Q : Option Int → Cells → Prop} (q : Q none C) : WO T none ρ C Q := PO.imp po_none fun σ H R ⟨H0, at_, k⟩ => k none C H H0 (Stp.refl _ _ _) at_.c q
theorem wo_some {Q : Option Int → Cells → Prop} (h : WE T e ρ C fun d C1 => ∃ i, d = .int i ∧ Q (some i) C1) : WO T (some e) ρ C Q :=
  PO.imp (po_some h) fun σ H R ⟨H0, at_, k⟩ => ⟨H0, at_, fun v d C1 H1 H01 p1 c1 r1 ⟨i, e1, q⟩ => by subst e1; exact ⟨i, r1, k _ C1 H1 H01 p1 c1 q⟩⟩
def SW (T : TX X) (d : D) (lo hi : Option Int) (C : Cells) (Q : QE) : Prop := SlR X fun x l u H R => l = lo ∧ u = hi ∧ ∃ H0, CellsR X.K H0 C H ∧ Rep X.K H0 d x ∧ Cont X H0 C H Q R
theorem SlR.imp {r r' : V → Option Int → Option Int → Hp → VK → Prop} (h : SlR X r) (i : ∀ x l u H R, r' x l u H R → r x l u H R) : SlR X r' := fun pins s σ H x v vl vu lo hi sl Q I rx hs pl pu q => h pins s σ H x v vl vu lo hi sl Q I rx hs pl pu (i _ _ _ _ _ q)
theorem sl_some (T : TX X) : SlR X (fun x l u H R => ∃ d C Q, SW T d l u C Q ∧ ∃ H0, CellsR X.K H0 C H ∧ Rep X.K H0 d x ∧ Cont X H0 C H Q R) :=
  fun pins s σ H x v vl vu lo hi sl Q I rx hs pl pu ⟨d, C, q, h, k⟩ => h pins s σ H x v vl vu lo hi sl Q I rx hs pl pu ⟨rfl, rfl, k⟩
theorem we_slice {lo hi : Option Expr} {p2 : Pos} (h : WE T e ρ C fun d C1 => WO T lo ρ C1 fun l C2 => WO T hi ρ C2 fun u C3 => SW T d l u C3 Q) : WE T (.Subscript e (.Slice lo hi none p2) pos) ρ C Q := by
  refine PE.imp (pe_slice (sl_some T) h (po_any T ρ lo) (po_any T ρ hi)) fun σ H R ⟨H0, at_, k⟩ => ⟨H0, at_, fun v d C1 H1 H01 p1 c1 r1 q1 => ?_⟩
  have at1 := at_.step p1 c1
  exact ⟨C1, _, q1, H01, at1, fun l C2 H2 H02 p2 c2 q2 => ⟨C2, _, q2, H02, at1.step p2 c2, fun u C3 H3 H03 p3 c3 q3 => ⟨d, C3, Q, q3, H03, c3, (r1.mono p2.base).mono p3.base, k.after ((p1.trans c1 p2).trans c2 p3) c3 fun _ _ z => z⟩⟩⟩
theorem sw_lst {lo hi : Option Int} (h : LstD C d ds) (q : Q (.lst (cutD ds lo hi)) C) : SW T d lo hi C Q :=
  SlR.imp sl_list fun x l u H R ⟨e1, e2, H0, c, r1, k⟩ => by
    subst e1; subst e2
    obtain ⟨a, vs, e2, h2, h3⟩ := lst_at c r1 h
    refine ⟨a, vs, e2, h2, fun z hz => ?_⟩
    obtain ⟨p2, c2⟩ := stp_new (o := .lst (cutV vs l u)) c hz
    exact k _ (.lst (cutD ds l u)) C _ _ p2 c2 ⟨z, _, rfl, .inl (.inl upd_same), (reps_cut h3 l u).mono p2.base⟩ q
end
end Tr

set_option maxHeartbeats 2000000
namespace Tr
open PySem L2 PySem.Spec PyProof.Rows

section
variable {X : Cx} {T : TX X} {ρ : Rho} {C : Cells} {Q : QE} {e a b o : Expr} {pos p apos cpos : Pos} {es : List Expr} {d d1 d2 : D} {ds ds2 : List D}

theorem yields_tup {K : W.Frag} {H0 : Hp} {a : Addr} {vs : List V} (hs : SqT K H0 a vs) (r : Reps K H0 ds vs) : Yields K (Itt K a) H0 (fun _ => True) ds where
  go := fun i H0' C H e c _ hi => ⟨vs, vs[i]'(by rw [← r.length]; exact hi), Same.sqT (e.trans c.same) hs, by simp⟩
  stop := fun i H0' C H e c _ hi => ⟨vs, Same.sqT (e.trans c.same) hs, by rw [← r.length]; exact hi⟩
  yld := fun i H0' C H x H' d e c _ hd ⟨e1, y⟩ => by
    subst e1
    refine ⟨H0', Stp.refl _ _ _, c, ?_⟩
    have := y vs (Same.sqT (e.trans c.same) hs)
    obtain ⟨v, h1, h2⟩ := r.get hd
    rw [this] at h1; cases h1
    exact h2.mono e
theorem yields_cell {K : W.Frag} {H0 : Hp} {a : Addr} : Yields K (Itl K a) H0 (fun C => (a, Cell.lst ds) ∈ C) ds where
  go := fun i H0' C H e c hm hi => by
    obtain ⟨vs, h1, h2⟩ := c.ok a _ hm
    exact ⟨vs, vs[i]'(by rw [← h2.length]; exact hi), .inl (.inl h1), by simp⟩
  stop := fun i H0' C H e c hm hi => by
    obtain ⟨vs, h1, h2⟩ := c.ok a _ hm
    exact ⟨vs, .inl (.inl h1), by rw [← h2.length]; exact hi⟩
  yld := fun i H0' C H x H' d e c hm hd ⟨e1, y⟩ => by
    subst e1
    obtain ⟨vs, h1, h2⟩ := c.ok a _ hm
    have := y vs (.inl (.inl h1))
    obtain ⟨v, g1, g2⟩ := h2.get hd
    rw [this] at g1; cases g1
    exact ⟨H0', Stp.refl _ _ _, c, g2⟩
def rangeD (lo : Int) (n : Nat) : List D := (List.range n).map fun i => .int (lo + (i : Nat))
theorem rangeD_len (lo : Int) (n : Nat) : (rangeD lo n).length = n := by simp [rangeD]
theorem yields_range {K : W.Frag} {H0 : Hp} (lo : Int) (n : Nat) : Yields K (Itr lo n) H0 (fun _ => True) (rangeD lo n) where
  go := fun i H0' C H e c _ hi => by rw [rangeD_len] at hi; exact hi
  stop := fun i H0' C H e c _ hi => by rw [rangeD_len] at hi; exact hi
  yld := fun i H0' C H x H' d e c _ hd ⟨e1, e2⟩ => by
    subst e1; subst e2
    refine ⟨H0', Stp.refl _ _ _, c, ?_⟩
    unfold rangeD at hd
    rw [List.getElem?_map] at hd
    cases q : (List.range n)[i]? with
    | none => rw [q] at hd; cases hd
    | some j =>
      rw [q] at hd; cases hd
      obtain ⟨h1, h2⟩ := List.getElem?_eq_some_iff.mp q
      rw [List.getElem_range] at h2
      subst h2
      rfl
theorem wi_range1 {tg : Expr} {Q : QI} (hg : Gl X "range") (hm : X.mg "range" = none) (h : WE T a ρ C fun d C1 => ∃ j : Int, d = .int j ∧ -(2 ^ 62) ≤ j ∧ j < 2 ^ 62 ∧ Q (rangeD 0 j.toNat) (fun _ => True) C1)
    (hs : starEach [a] X.env = [(false, eval a X.env)] := by rfl) (hs2 : starEach [a] X.env = (false, eval a X.env) :: starEach [] X.env := by rfl) : WI T tg (.Call (.Name "range" p) [a] [] pos) ρ C Q := by
  refine PI.imp (pi_range1 hg hm (pa_cons h pa_nil hs2) hs) fun σ H R ⟨H0, at_, k⟩ => ⟨H0, at_, fun v d C1 H1 H01 p1 c1 r1 ⟨j, e1, l1, l2, q⟩ => ?_⟩
  subst e1; cases r1
  exact ⟨j, rfl, l1, l2, k _ _ _ C1 H1 H01 p1 c1 (yields_range 0 _) q⟩
def signsD (s : Str) : List D := s.cps.toList.map fun c => .str ⟨#[c]⟩
theorem yields_str {K : W.Frag} {H0 : Hp} (s : Str) : Yields K (Its s) H0 (fun _ => True) (signsD s) where
  go := fun i H0' C H e c _ hi => by show i < s.cps.size; simpa [signsD] using hi
  stop := fun i H0' C H e c _ hi => by show s.cps.size ≤ i; simpa [signsD] using hi
  yld := fun i H0' C H x H' d e c _ hd ⟨e1, k, hk, e2⟩ => by
    subst e1; subst e2
    refine ⟨H0', Stp.refl _ _ _, c, ?_⟩
    unfold signsD at hd
    rw [List.getElem?_map, Array.getElem?_toList, hk] at hd
    cases hd; rfl
theorem wi_str {tg : Expr} {Q : QI} (h : WE T e ρ C fun d C1 => ∃ s, d = .str s ∧ Q (signsD s) (fun _ => True) C1) : WI T tg e ρ C Q := by
  refine PI.imp (pi_str h) fun σ H R ⟨H0, at_, k⟩ => ⟨H0, at_, fun v d C1 H1 H01 p1 c1 r1 ⟨s, e1, q⟩ => ?_⟩
  subst e1; cases r1
  exact ⟨s, rfl, k _ _ _ C1 H1 H01 p1 c1 (yields_str s) q⟩

def TX.blk (T : TX X) (s : Shared) (H : Hp) (scope : Scope) (cenv : Env) (fp : List Addr) : TX (X.blk s H scope cenv fp) where
  A := T.A
  up := T.up
  XQ := fun _ _ _ _ => False
  tk := fun u s' ⟨_, _, _, _, _, _, _, _, _, _, _, _, _, _, _, _, w⟩ => let ⟨_, _, _, _, _, _, _, _, _, q⟩ := w; False.elim q
  pass := PassesOwn.never
theorem At.blk {T : TX X} {s : Shared} {H' : Hp} {scope : Scope} {cenv : Env} {fp : List Addr} {H0 : Hp} {σ : L2.St} {H : Hp} (h : At T H0 ρ C σ H) : At (T.blk s H' scope cenv fp) H0 ρ C σ H := ⟨h.a, h.c, h.s, h.l⟩
abbrev InBlk (T : TX X) (scope : Scope) (P : ∀ {Y : Cx}, TX Y → Prop) : Prop := ∀ (s : Shared) (H : Hp) (Ca : Addr) (cl : List (Str × Addr)) (fp : List Addr), P (T.blk s H scope (compEnvC scope cl Ca X.env) fp)
def wipeR (ρ : Rho) : List Nat → Rho
  | [] => ρ
  | v :: vs => (wipeR ρ vs).set v none
theorem wipeR_len (ρ : Rho) : ∀ vs : List Nat, (wipeR ρ vs).length = ρ.length
  | [] => rfl
  | v :: vs => by unfold wipeR; rw [List.length_set, wipeR_len ρ vs]
theorem slots_wipe {K : W.Frag} {H0 : Hp} {σ : L2.St} (h : SlotsR K H0 ρ σ) : ∀ vs : List Nat, SlotsR K H0 (wipeR ρ vs) (wipe σ vs)
  | [] => h
  | v :: vs => SlotsR.unset v (slots_wipe h vs)
theorem At.wipe {T : TX X} {H0 : Hp} {σ : L2.St} {H : Hp} (h : At T H0 ρ C σ H) (vs : List Nat) : At T H0 (wipeR ρ vs) C (L2.wipe σ vs) H := ⟨h.a, h.c, slots_wipe h.s vs, by rw [wipeR_len, wipe_length]; exact h.l⟩
inductive Bind where
  | one (i : Nat)
  | tup (is : List Nat)
def setAll {α : Type} (l : List (Option α)) : List Nat → List α → List (Option α)
  | i :: is, x :: xs => setAll (l.set i (some x)) is xs
  | _, _ => l
def Bind.to (b : Bind) (d : D) (ρ : Rho) : Option Rho := match b, d with
  | .one i, d => some (ρ.set i (some d))
  | .tup is, .tup ds => if is.length = ds.length then some (setAll ρ is ds) else none
  | _, _ => none
def gNames : List Nat → TGs
  | [] => gNil
  | i :: is => gCons (gName i) (gNames is)
def Bind.g (K : W.Frag) : Bind → TG
  | .one i => gName i
  | .tup is => gTup K is.length (gNames is)
def Bind.slots : Bind → List Nat
  | .one i => [i]
  | .tup is => is
theorem setAll_len {α : Type} : ∀ (is : List Nat) (xs : List α) (l : List (Option α)), (setAll l is xs).length = l.length
  | [], xs, l => by cases xs <;> rfl
  | i :: is, [], l => rfl
  | i :: is, x :: xs, l => by unfold setAll; rw [setAll_len is xs, List.length_set]
theorem slots_setAll {K : W.Frag} {H0 : Hp} : ∀ {is : List Nat} {ds : List D} {vs : List V} {ρ : Rho} {σ : L2.St}, Reps K H0 ds vs → SlotsR K H0 ρ σ → ρ.length = σ.length → SlotsR K H0 (setAll ρ is ds) (setAll σ is vs)
  | [], ds, vs, ρ, σ, r, h, l => by cases ds <;> cases vs <;> exact h
  | i :: is, [], vs, ρ, σ, r, h, l => by cases r; exact h
  | i :: is, d :: ds, vs, ρ, σ, ⟨v, rr, e1, r1, r2⟩, h, l => by
    subst e1
    have z : SlotsR K H0 (setAll (ρ.set i (some d)) is ds) (setAll (σ.set i (some v)) is rr) := slots_setAll r2 (SlotsR.set i h r1 l) (by simp [l])
    exact z
theorem gNames_to {R : L2.St → Hp → Prop} {H : Hp} : ∀ {is : List Nat} {vs : List V} {σ : L2.St}, is.length = vs.length → R (setAll σ is vs) H → gNames is vs σ H R
  | [], [], σ, _, h => ⟨rfl, h⟩
  | i :: is, v :: vs, σ, hl, h => ⟨v, vs, rfl, gNames_to (by simpa using hl) h⟩
theorem set_wipe {i : Nat} {x : V} : ∀ {vs : List Nat} {σ : L2.St}, i ∈ vs → wipe (σ.set i (some x)) vs = wipe σ vs
  | [], _, h => by cases h
  | v :: vs, σ, h => by
    show (wipe (σ.set i (some x)) vs).set v none = (wipe σ vs).set v none
    by_cases e : i ∈ vs
    · rw [set_wipe e]
    · have e' : i = v := (List.mem_cons.mp h).resolve_right e
      subst e'
      apply List.ext_getElem?
      intro j
      rw [List.getElem?_set, List.getElem?_set, wipe_length, wipe_length, List.length_set]
      by_cases q : i = j
      · subst q; simp
      · rw [if_neg q, if_neg q]
        by_cases hj : j ∈ vs
        · have z : ∀ τ : L2.St, (wipe τ vs)[j]? = if j < τ.length then some none else none := by
            intro τ
            induction vs with
            | nil => cases hj
            | cons w ws ih =>
              show ((wipe τ ws).set w none)[j]? = _
              rw [List.getElem?_set, wipe_length]
              by_cases q2 : w = j
              · subst q2; simp
              · rw [if_neg q2]
                rcases List.mem_cons.mp hj with q3 | q3
                · exact absurd q3.symm q2
                · exact ih (fun h1 => e (List.mem_cons_of_mem _ h1)) (by simp) q3
          rw [z, z, List.length_set]
        · rw [wipe_out hj, wipe_out hj, List.getElem?_set_ne q]
theorem wipe_wipe (σ : L2.St) : ∀ vs : List Nat, wipe (wipe σ vs) vs = wipe σ vs := by
  intro vs
  apply List.ext_getElem?
  intro j
  by_cases hj : j ∈ vs
  · have z : ∀ (τ : L2.St), (wipe τ vs)[j]? = if j < τ.length then some none else none := by
      intro τ
      induction vs with
      | nil => cases hj
      | cons w ws ih =>
        show ((wipe τ ws).set w none)[j]? = _
        rw [List.getElem?_set, wipe_length]
        by_cases q2 : w = j
        · subst q2; simp
        · rw [if_neg q2]
          rcases List.mem_cons.mp hj with q3 | q3
          · exact absurd q3.symm q2
          · exact ih q3
    rw [z, z, wipe_length]
  · rw [wipe_out hj]
theorem setAll_wipe : ∀ {is vs : List Nat} {xs : List V} {σ : L2.St}, (∀ i ∈ is, i ∈ vs) → wipe (setAll σ is xs) vs = wipe σ vs
  | [], vs, xs, σ, h => by cases xs <;> rfl
  | i :: is, vs, [], σ, h => rfl
  | i :: is, vs, x :: xs, σ, h => by
    unfold setAll
    rw [setAll_wipe (fun j hj => h j (List.mem_cons_of_mem _ hj)), set_wipe (h i List.mem_cons_self)]
theorem bind_to {bd : Bind} {d : D} {v : V} {ρ' : Rho} {H0 H : Hp} {σ : L2.St} {vs : List Nat} {R : L2.St → Hp → Prop} {K : W.Frag} (c : Same H0 H) (hb : bd.to d ρ = some ρ') (hv : ∀ i ∈ bd.slots, i ∈ vs) (r : Rep K H0 d v) (s : SlotsR K H0 ρ σ) (l : ρ.length = σ.length)
    (h : ∀ σ', SlotsR K H0 ρ' σ' → ρ'.length = σ'.length → wipe σ' vs = wipe σ vs → R σ' H) : bd.g K v σ H R := by
  cases bd with
  | one i =>
    cases hb
    exact h _ (SlotsR.set i s r l) (by simp [l]) (set_wipe (hv i (by simp [Bind.slots])))
  | tup is =>
    cases d with
    | tup ds =>
      simp only [Bind.to] at hb
      split at hb
      · rename_i hl
        cases hb
        obtain ⟨a, ws, h1, h2, h3⟩ := r
        refine ⟨a, ws, h1, Same.sqT c h2, by rw [← h3.length]; exact hl.symm, gNames_to (hl.trans h3.length) (h _ (slots_setAll h3 s l) (by rw [setAll_len, setAll_len]; exact l) (setAll_wipe hv))⟩
      · cases hb
    | _ => simp [Bind.to] at hb
def LcW (T : TX X) (scope : Scope) (bd : Bind) (elt : Expr) (vs : List Nat) (ρ : Rho) (P : Cells → Prop) (Q : QE) : List D → List D → Cells → Prop
  | [], acc, C => P C ∧ Q (.lst acc) C
  | d :: r, acc, C => P C ∧ ∃ ρ', bd.to d (wipeR ρ vs) = some ρ' ∧ InBlk T scope fun T' => WE T' elt ρ' C fun y C2 => acc.length < 100000 ∧ LcW T scope bd elt vs ρ P Q r (acc ++ [y]) C2
def LcW1 (T : TX X) (scope : Scope) (bd : Bind) (i elt : Expr) (vs : List Nat) (ρ : Rho) (P : Cells → Prop) (Q : QE) : List D → List D → Cells → Prop
  | [], acc, C => P C ∧ Q (.lst acc) C
  | d :: r, acc, C => P C ∧ ∃ ρ', bd.to d (wipeR ρ vs) = some ρ' ∧ InBlk T scope fun T' => WT T' i ρ' C fun k C1 =>
      if k = true then (InBlk T scope fun T' => WE T' elt ρ' C1 fun y C2 => acc.length < 100000 ∧ LcW1 T scope bd i elt vs ρ P Q r (acc ++ [y]) C2) else LcW1 T scope bd i elt vs ρ P Q r acc C1
structure Way (X : Cx) (H01 : Hp) (C1 : Cells) (H1 : Hp) (L : Addr) (acc : List D) (H0 : Hp) (C : Cells) (H : Hp) : Prop where
  st : Stp H01 C1 H1 H0 C H
  c : CellsR X.K H0 C H
  at_ : ∃ vs, H L = some (.lst vs) ∧ Reps X.K H0 acc vs
  n0 : H0 L = none
  nd : ¬ Dom C L
theorem Way.step {H01 H1 H0 H H0' H' : Hp} {C1 C' : Cells} {L : Addr} {acc : List D} (w : Way X H01 C1 H1 L acc H0 C H) (p : Stp H0 C H H0' C' H') (c' : CellsR X.K H0' C' H') : Way X H01 C1 H1 L acc H0' C' H' := by
  obtain ⟨vs, h1, h2⟩ := w.at_
  obtain ⟨q1, q2⟩ := p.own L (by rw [h1]; simp) w.n0 w.nd
  exact ⟨w.st.trans w.c p, c', ⟨vs, p.fr L _ h1 w.nd, h2.mono p.base⟩, q1, q2⟩
theorem Way.add {H01 H1 H0 H : Hp} {C1 : Cells} {L : Addr} {acc : List D} {d : D} {v : V} (w : Way X H01 C1 H1 L acc H0 C H) (hL : H1 L = none) (r : Rep X.K H0 d v) : ∃ vs, H L = some (.lst vs) ∧ vs.length = acc.length ∧ Way X H01 C1 H1 L (acc ++ [d]) H0 C (upd H L (.lst (vs ++ [v]))) := by
  obtain ⟨vs, h1, h2⟩ := w.at_
  have off : ∀ a x, (a, x) ∈ C → a ≠ L := fun a x hx e => w.nd ⟨x, e ▸ hx⟩
  refine ⟨vs, h1, h2.length.symm, ⟨⟨w.st.base, fun a o h n => ?_, w.st.own⟩, ⟨fun a o h => ?_, w.c.free, fun a x hx => (w.c.ok a x hx).mono (Same.refl _) (upd_ne (off a x hx)), w.c.nd⟩, ⟨_, upd_same, h2.append (Reps.cons r Reps.nil)⟩, w.n0, w.nd⟩⟩
  · rw [upd_ne (ne_of_none h hL)]; exact w.st.fr a o h n
  · rw [upd_ne (ne_of_none h w.n0)]; exact w.c.same a o h
theorem Way.fin {H01 H1 H0 H : Hp} {C1 : Cells} {L : Addr} {acc : List D} (w : Way X H01 C1 H1 L acc H0 C H) (hL : H1 L = none) : ∃ H0', Stp H01 C1 H1 H0' C H ∧ CellsR X.K H0' C H ∧ Rep X.K H0' (.lst acc) (.ref L) := by
  obtain ⟨vs, h1, h2⟩ := w.at_
  have s0 : Same H0 (upd H0 L (.lst vs)) := fun a u h => by rw [upd_ne (ne_of_none h w.n0)]; exact h
  refine ⟨upd H0 L (.lst vs), ⟨w.st.base.trans s0, w.st.fr, fun a h e n => ?_⟩, ⟨fun a o h => ?_, fun a d => ?_, fun a x hx => (w.c.ok a x hx).mono s0 rfl, w.c.nd⟩, ⟨L, vs, rfl, .inl (.inl upd_same), h2.mono s0⟩⟩
  · obtain ⟨q1, q2⟩ := w.st.own a h e n
    exact ⟨by rw [upd_ne (show a ≠ L from fun z => h (by rw [z]; exact hL))]; exact q1, q2⟩
  · by_cases q : a = L
    · subst q; rw [upd_same] at h; cases h; exact h1
    · rw [upd_ne q] at h; exact w.c.same a o h
  · rw [upd_ne (show a ≠ L from fun z => w.nd (by rw [← z]; exact d))]; exact w.c.free a d
theorem way0 {H0 H : Hp} {L : Addr} (c : CellsR X.K H0 C H) (hL : H L = none) : Way X H0 C H L [] H0 C (upd H L (.lst [])) := by
  have n0 := c.nn hL
  refine ⟨⟨Same.refl _, fun a o h n => by rw [upd_ne (ne_of_none h hL)]; exact h, fun a h e n => ⟨e, n⟩⟩, ⟨fun a o h => by rw [upd_ne (ne_of_none h n0)]; exact c.same a o h, c.free, fun a x hx => (c.ok a x hx).mono (Same.refl _) (upd_ne fun z => (c.ok a x hx).some (by rw [z]; exact hL)), c.nd⟩, ⟨[], upd_same, Reps.nil⟩, n0, c.notDom hL⟩
section
variable {scope : Scope} {own : List (Str × Nat)} {tg iter elt i : Expr} {bd : Bind}
def someB (T : TX X) (scope : Scope) (elt : Expr) : TE := fun σ H R => ∃ ρ C Q, InBlk T scope (fun T' => WE T' elt ρ C Q) ∧ TEx T ρ C Q σ H R
theorem pe_someB (T : TX X) (scope : Scope) (elt : Expr) (s : Shared) (H : Hp) (Ca : Addr) (cl : List (Str × Addr)) (fp : List Addr) : PE (X.blk s H scope (compEnvC scope cl Ca X.env) fp) elt (someB T scope elt) :=
  ⟨fun pins s' σ H' R I ⟨ρ, C, Q, h, H0, at_, k⟩ => (h s H Ca cl fp).run pins s' σ H' R I ⟨H0, at_.blk, k⟩⟩
def someBT (T : TX X) (scope : Scope) (elt : Expr) : TT := fun σ H R => ∃ ρ C Q, InBlk T scope (fun T' => WT T' elt ρ C Q) ∧ TTx T ρ C Q σ H R
theorem pt_someB (T : TX X) (scope : Scope) (elt : Expr) (s : Shared) (H : Hp) (Ca : Addr) (cl : List (Str × Addr)) (fp : List Addr) : PT (X.blk s H scope (compEnvC scope cl Ca X.env) fp) elt (someBT T scope elt) :=
  ⟨fun pins s' σ H' R I ⟨ρ, C, Q, h, H0, at_, k⟩ => (h s H Ca cl fp).run pins s' σ H' R I ⟨H0, at_.blk, k⟩⟩
theorem read_lc (own : List (Str × Nat)) (bd : Bind) (hv : ∀ i ∈ bd.slots, i ∈ own.map (·.2)) : ∀ σ H R, TEx T ρ C Q σ H R → tLc (TIx T ρ C fun ds P C1 => LcW T scope bd elt (own.map (·.2)) ρ P Q ds [] C1) (bd.g X.K) tYes (someB T scope elt) (own.map (·.2)) σ H R := by
  refine fun σ H R ⟨H0, at_, k⟩ => ⟨H0, at_, fun J ds P C1 H1 H01 p1 c1 y1 q1 L hL => ?_⟩
  have at1 := at_.step p1 c1
  refine ⟨fun j m H2 => m = ds.length - j ∧ j ≤ ds.length ∧ ∃ acc C2 H02, Way X H01 C1 H1 L acc H02 C2 H2 ∧ LcW T scope bd elt (own.map (·.2)) ρ P Q (ds.drop j) acc C2, ⟨_, rfl, Nat.zero_le _, [], C1, H01, way0 c1 hL, q1⟩, ?_⟩
  rintro j m H2 ⟨rfl, hj, acc, C2, H02, w2, q2⟩
  have hP : P C2 := by
    generalize ds.drop j = l at q2
    cases l with
    | nil => exact q2.1
    | cons d r => exact q2.1
  by_cases hlt : j < ds.length
  · rw [List.drop_eq_getElem_cons hlt] at q2
    obtain ⟨_, ρ', hb, qe⟩ := q2
    refine .inr ⟨y1.go j _ _ _ w2.st.base w2.c hP hlt, fun H3 => ∃ acc C3 H03, Way X H01 C1 H1 L acc H03 C3 H3 ∧ LcW T scope bd elt (own.map (·.2)) ρ P Q (ds.drop (j + 1)) acc C3, fun H3 ⟨acc, C3, H03, w3, q3⟩ => ⟨_, by omega, rfl, hlt, acc, C3, H03, w3, q3⟩, fun x H3 hy => ?_⟩
    obtain ⟨H03, p3, c3, r3⟩ := y1.yld j _ _ _ x H3 ds[j] w2.st.base w2.c hP (by simp [hlt]) hy
    have w3 := w2.step p3 c3
    have at3 := at1.step w3.st c3
    refine bind_to c3.same hb hv r3 (at3.wipe _).s (at3.wipe _).l fun σ' s' l' ew => ⟨by rw [ew, wipe_wipe], ρ', C2, _, qe, H03, ⟨at3.a, c3, s', l'⟩, fun v y C4 H4 H04 p4 c4 r4 ⟨hlen, q4⟩ => ?_⟩
    obtain ⟨vs, f1, f2, w5⟩ := (w3.step p4 c4).add hL r4
    exact ⟨vs, f1, by rw [f2]; exact Nat.lt_trans hlen (by decide), _, C4, H04, w5, q4⟩
  · have e : j = ds.length := by omega
    subst e
    rw [List.drop_length] at q2
    obtain ⟨H0', f1, f2, f3⟩ := w2.fin hL
    exact .inl ⟨y1.stop _ _ _ _ w2.st.base w2.c hP (Nat.le_refl _), k _ _ C2 H2 H0' (p1.trans c1 f1) f2 f3 q2.2⟩
theorem we_lc (own : List (Str × Nat)) (bd : Bind) (hc : X.calm = true) (hN : X.N.Nodup) (ok : BlkOk X.N X.env.scope scope own)
    (hg : ∀ (s : Shared) (H : Hp) (Ca : Addr) (cl : List (Str × Addr)) (fp : List Addr), PG (X.blk s H scope (compEnvC scope cl Ca X.env) fp) tg (bd.g X.K)) (hv : ∀ i ∈ bd.slots, i ∈ own.map (·.2))
    (h : WI T tg iter ρ C fun ds P C1 => LcW T scope bd elt (own.map (·.2)) ρ P Q ds [] C1) (hs : ∀ x, foldedSetIterable iter X.env x = pure x := by intro _; rfl) : WE T (.ListComp elt [⟨tg, iter, [], 0⟩] scope pos) ρ C Q := by
  exact PE.imp (pe_lc hc hN h ok hg (fun _ _ _ _ _ => pts_nil) (pe_someB T scope elt) hs) (read_lc own bd hv)
theorem ws_setLc {N : TEnds} {x : Str} {py spos : Pos} (own : List (Str × Nat)) (bd : Bind) (j : Nat) (hc : X.calm = true) (hN : X.N.Nodup) (hy : X.N[j]? = some x) (hyl : X.env.scope.names.lookup x = some .local)
    (hsw : swapsWith (.ListComp elt [⟨tg, iter, [], 0⟩] scope pos) (some (.Name x py)) spos.line X.env = pure true) (ok : BlkOk X.N X.env.scope scope own)
    (hg : ∀ (s : Shared) (H : Hp) (Ca : Addr) (cl : List (Str × Addr)) (fp : List Addr), PG (X.blk s H scope (compEnvC scope cl Ca X.env) fp) tg (bd.g X.K)) (hv : ∀ i ∈ bd.slots, i ∈ own.map (·.2))
    (h : WI T tg iter ρ C fun ds P C1 => LcW T scope bd elt (own.map (·.2)) ρ P (fun d C2 => N.nx (ρ.set j (some d)) C2) ds [] C1) (hs : ∀ x, foldedSetIterable iter X.env x = pure x := by intro _; rfl) : WS T (.Assign [.Name x py] (.ListComp elt [⟨tg, iter, [], 0⟩] scope pos) spos) ρ C N :=
  PS.imp (ps_setLc hc hN hy hyl hsw h ok hg (fun _ _ _ _ _ => pts_nil) (pe_someB T scope elt) hs) fun Dn σ H ⟨H0, at_, k⟩ => read_lc own bd hv σ H _ ⟨H0, at_, fun v d C1 H1 H01 p c r q =>
    (k.after p c).nx _ _ C1 H1 H01 (Stp.refl _ _ _) c (SlotsR.set j (at_.step p c).s r at_.l) (by rw [List.length_set, List.length_set]; exact at_.l) q⟩
theorem read_lc1 (own : List (Str × Nat)) (bd : Bind) (hv : ∀ i ∈ bd.slots, i ∈ own.map (·.2)) : ∀ σ H R, TEx T ρ C Q σ H R → tLc (TIx T ρ C fun ds P C1 => LcW1 T scope bd i elt (own.map (·.2)) ρ P Q ds [] C1) (bd.g X.K) (someBT T scope i) (someB T scope elt) (own.map (·.2)) σ H R := by
  refine fun σ H R ⟨H0, at_, k⟩ => ⟨H0, at_, fun J ds P C1 H1 H01 p1 c1 y1 q1 L hL => ?_⟩
  have at1 := at_.step p1 c1
  refine ⟨fun j m H2 => m = ds.length - j ∧ j ≤ ds.length ∧ ∃ acc C2 H02, Way X H01 C1 H1 L acc H02 C2 H2 ∧ LcW1 T scope bd i elt (own.map (·.2)) ρ P Q (ds.drop j) acc C2, ⟨_, rfl, Nat.zero_le _, [], C1, H01, way0 c1 hL, q1⟩, ?_⟩
  rintro j m H2 ⟨rfl, hj, acc, C2, H02, w2, q2⟩
  have hP : P C2 := by
    generalize ds.drop j = l at q2
    cases l with
    | nil => exact q2.1
    | cons d r => exact q2.1
  by_cases hlt : j < ds.length
  · rw [List.drop_eq_getElem_cons hlt] at q2
    obtain ⟨_, ρ', hb, qe⟩ := q2
    refine .inr ⟨y1.go j _ _ _ w2.st.base w2.c hP hlt, fun H3 => ∃ acc C3 H03, Way X H01 C1 H1 L acc H03 C3 H3 ∧ LcW1 T scope bd i elt (own.map (·.2)) ρ P Q (ds.drop (j + 1)) acc C3, fun H3 ⟨acc, C3, H03, w3, q3⟩ => ⟨_, by omega, rfl, hlt, acc, C3, H03, w3, q3⟩, fun x H3 hy => ?_⟩
    obtain ⟨H03, p3, c3, r3⟩ := y1.yld j _ _ _ x H3 ds[j] w2.st.base w2.c hP (by simp [hlt]) hy
    have w3 := w2.step p3 c3
    have at3 := at1.step w3.st c3
    refine bind_to c3.same hb hv r3 (at3.wipe _).s (at3.wipe _).l fun σ' s' l' ew => ⟨by rw [ew, wipe_wipe], ρ', C2, _, qe, H03, ⟨at3.a, c3, s', l'⟩, fun b C5 H5 H05 p5 c5 q5 => ?_⟩
    have w5 := w3.step p5 c5
    have at5 : At T H05 ρ' C5 σ' H5 := ⟨(at1.step w5.st c5).a, c5, SlotsR.mono s' p5.base, l'⟩
    cases b with
    | false => exact ⟨acc, C5, H05, w5, q5⟩
    | true =>
      refine ⟨ρ', C5, _, q5, H05, at5, fun v y C4 H4 H04 p4 c4 r4 ⟨hlen, q4⟩ => ?_⟩
      obtain ⟨vs, f1, f2, w6⟩ := (w5.step p4 c4).add hL r4
      exact ⟨vs, f1, by rw [f2]; exact Nat.lt_trans hlen (by decide), _, C4, H04, w6, q4⟩
  · have e : j = ds.length := by omega
    subst e
    rw [List.drop_length] at q2
    obtain ⟨H0', f1, f2, f3⟩ := w2.fin hL
    exact .inl ⟨y1.stop _ _ _ _ w2.st.base w2.c hP (Nat.le_refl _), k _ _ C2 H2 H0' (p1.trans c1 f1) f2 f3 q2.2⟩
theorem we_lc1 (own : List (Str × Nat)) (bd : Bind) (hc : X.calm = true) (hN : X.N.Nodup) (ok : BlkOk X.N X.env.scope scope own)
    (hg : ∀ (s : Shared) (H : Hp) (Ca : Addr) (cl : List (Str × Addr)) (fp : List Addr), PG (X.blk s H scope (compEnvC scope cl Ca X.env) fp) tg (bd.g X.K)) (hv : ∀ i ∈ bd.slots, i ∈ own.map (·.2))
    (h : WI T tg iter ρ C fun ds P C1 => LcW1 T scope bd i elt (own.map (·.2)) ρ P Q ds [] C1) (hs : ∀ x, foldedSetIterable iter X.env x = pure x := by intro _; rfl) : WE T (.ListComp elt [⟨tg, iter, [i], 0⟩] scope pos) ρ C Q := by
  exact PE.imp (pe_lc hc hN h ok hg (fun s H Ca cl fp => pts_one (pt_someB T scope i s H Ca cl fp)) (pe_someB T scope elt) hs) (read_lc1 own bd hv)
end
end
end Tr

set_option maxHeartbeats 2000000
namespace Tr
open PySem L2 PySem.Spec PyProof.Rows

section
variable {X : Cx} {T : TX X} {ρ : Rho} {C : Cells} {Q : QE} {e a b c o : Expr} {pos p apos cpos : Pos} {es : List Expr} {d d1 d2 : D} {ds ds2 : List D}

theorem ow_int0 {f : Value → Value → Sem Value} {g : Int → Int → V} {i j : Int} (gd : D) (ho : OpR X f (rI0 g)) (hg : ∀ H0 : Hp, Rep X.K H0 gd (g i j)) (q : Q gd C) : OW T f (.int i) (.int j) C Q :=
  ow_look ho (fun x y H H0 c r1 r2 => by cases r1; cases r2; exact ⟨g i j, hg H0, fun R k => ⟨i, j, rfl, rfl, k⟩⟩) q
theorem ow_intC {f : Value → Value → Sem Value} {P : Int → Int → Prop} {g : Int → Int → V} {i j : Int} (gd : D) (ho : OpR X f (rI P g)) (hp : P i j) (hg : ∀ H0 : Hp, Rep X.K H0 gd (g i j)) (q : Q gd C) : OW T f (.int i) (.int j) C Q :=
  ow_look ho (fun x y H H0 c r1 r2 => by cases r1; cases r2; exact ⟨g i j, hg H0, fun R k => ⟨i, j, rfl, rfl, hp, k⟩⟩) q
theorem ow_add {i j : Int} (q : Q (.int (i + j)) C) : OW T (binaryOp .Add) (.int i) (.int j) C Q := ow_int0 (.int (i + j)) op_add (fun _ => rfl) q
theorem ow_sub {i j : Int} (q : Q (.int (i - j)) C) : OW T (binaryOp .Sub) (.int i) (.int j) C Q := ow_int0 (.int (i - j)) op_sub (fun _ => rfl) q
theorem ow_mul {i j : Int} (h : CMul i j) (q : Q (.int (i * j)) C) : OW T (binaryOp .Mult) (.int i) (.int j) C Q := ow_intC (.int (i * j)) op_mul h (fun _ => rfl) q
theorem ow_fdiv {i j : Int} (h : 0 < j ∧ j < 1073741824) (q : Q (.int (i / j)) C) : OW T (binaryOp .FloorDiv) (.int i) (.int j) C Q := ow_intC (.int (i / j)) op_fdiv h (fun _ => rfl) q
theorem ow_mod {i j : Int} (h : 0 < j) (q : Q (.int (i % j)) C) : OW T (binaryOp .Mod) (.int i) (.int j) C Q := ow_intC (.int (i % j)) op_mod h (fun _ => rfl) q
theorem ow_pow {i j : Int} (h : CPow i j) (q : Q (.int (i ^ j.toNat)) C) : OW T (binaryOp .Pow) (.int i) (.int j) C Q := ow_intC (.int (i ^ j.toNat)) op_pow h (fun _ => rfl) q
theorem ow_lt {i j : Int} (q : Q (.bl (decide (i < j))) C) : OW T (compareOp .Lt) (.int i) (.int j) C Q := ow_int0 (.bl (decide (i < j))) op_lt (fun _ => rfl) q
theorem ow_le {i j : Int} (q : Q (.bl (decide (i ≤ j))) C) : OW T (compareOp .LtE) (.int i) (.int j) C Q := ow_int0 (.bl (decide (i ≤ j))) op_le (fun _ => rfl) q
theorem ow_gt {i j : Int} (q : Q (.bl (decide (j < i))) C) : OW T (compareOp .Gt) (.int i) (.int j) C Q := ow_int0 (.bl (decide (j < i))) op_gt (fun _ => rfl) q
theorem ow_ge {i j : Int} (q : Q (.bl (decide (j ≤ i))) C) : OW T (compareOp .GtE) (.int i) (.int j) C Q := ow_int0 (.bl (decide (j ≤ i))) op_ge (fun _ => rfl) q
theorem we_neg {i : Int} (h : WE T a ρ C fun d C1 => ∃ i, d = .int i ∧ Q (.int (-i)) C1) : WE T (.UnaryOp .USub a pos) ρ C Q :=
  PE.imp (pe_un un_neg h) fun σ H R ⟨H0, at_, k⟩ => ⟨H0, at_, fun v d C1 H1 H01 p1 c1 r1 ⟨i, e1, q⟩ => by subst e1; cases r1; exact ⟨i, rfl, k _ (.int (-i)) C1 H1 H01 p1 c1 rfl q⟩⟩
theorem wt_chain {op op' : CmpOp} {Q : QT} (h : WE T a ρ C fun d1 C1 => WE T b ρ C1 fun d2 C2 => OW T (compareOp op) d1 d2 C2 fun d C3 => ∃ k, d = .bl k ∧ if k = true then WE T c ρ C3 (fun d3 C4 => OW T (compareOp op') d2 d3 C4 fun d C5 => ∃ k, d = .bl k ∧ Q k C5) else Q false C3)
    (hc : PT X (.Compare a [op, op'] [b, c] pos) (tB (tChain (someO T (compareOp op)) (someO T (compareOp op')) (TEx T ρ C fun d1 C1 => WE T b ρ C1 fun d2 C2 => OW T (compareOp op) d1 d2 C2 fun d C3 => ∃ k, d = .bl k ∧ if k = true then WE T c ρ C3 (fun d3 C4 => OW T (compareOp op') d2 d3 C4 fun d C5 => ∃ k, d = .bl k ∧ Q k C5) else Q false C3) (someE T ρ b) (someE T ρ c)))) : WT T (.Compare a [op, op'] [b, c] pos) ρ C Q :=
  PT.imp hc fun σ H R ⟨H0, at_, k⟩ => ⟨H0, at_, fun v1 d1 C1 H1 H01 p1 c1 r1 q1 => by
    have at1 := at_.step p1 c1
    refine ⟨C1, _, q1, H01, at1, fun v2 d2 C2 H2 H02 p2 c2 r2 q2 => ?_⟩
    have at2 := at1.step p2 c2
    have r1' := r1.mono p2.base
    refine ⟨d1, d2, C2, _, q2, H02, c2, r1', r2, fun v3 d3 C3 H3 H03 p3 c3 r3 ⟨j, e3, q3⟩ => ?_⟩
    subst e3; cases r3
    have at3 := at2.step p3 c3
    refine ⟨j, rfl, ?_⟩
    cases j with
    | false => exact ⟨false, rfl, k false C3 H3 H03 ((p1.trans c1 p2).trans c2 p3) c3 q3⟩
    | true =>
      refine ⟨C3, _, q3, H03, at3, fun v4 d4 C4 H4 H04 p4 c4 r4 q4 => ⟨d2, d4, C4, _, q4, H04, c4, (r2.mono p3.base).mono p4.base, r4, fun v5 d5 C5 H5 H05 p5 c5 r5 ⟨j, e5, q5⟩ => ?_⟩⟩
      subst e5; cases r5
      exact ⟨j, rfl, k j C5 H5 H05 ((((p1.trans c1 p2).trans c2 p3).trans c3 p4).trans c4 p5) c5 q5⟩⟩

mutual
def toPy : D → PyData
  | .non => .none
  | .bl b => .bool b
  | .int i => .int i
  | .str s => .str s
  | .lst ds => .list (toPys ds)
  | .tup ds => .tuple (toPys ds)
  | _ => .none
def toPys : List D → List PyData
  | [] => []
  | d :: ds => toPy d :: toPys ds
end
mutual
def plainD : D → Bool
  | .non | .bl _ | .int _ | .str _ => true
  | .lst ds => plainDs ds
  | .tup ds => plainDs ds
  | _ => false
def plainDs : List D → Bool
  | [] => true
  | d :: ds => plainD d && plainDs ds
end
mutual
theorem rep_dp {K : W.Frag} {H0 H : Hp} (c : Same H0 H) : ∀ {d : D} {v : V}, plainD d = true → Rep K H0 d v → Dp K H v (toPy d)
  | .non, _, _, h => by cases h; exact .non
  | .bl _, _, _, h => by cases h; exact .bl _
  | .int _, _, _, h => by cases h; exact .int _
  | .str _, _, _, h => by cases h; exact .str _
  | .lst _, _, hp, ⟨a, vs, h1, h2, h3⟩ => by subst h1; exact .lst (Same.sqL c h2) (reps_dp c hp h3)
  | .tup _, _, hp, ⟨a, vs, h1, h2, h3⟩ => by subst h1; exact .tup (Same.sqT c h2) (reps_dp c hp h3)
theorem reps_dp {K : W.Frag} {H0 H : Hp} (c : Same H0 H) : ∀ {ds : List D} {vs : List V}, plainDs ds = true → Reps K H0 ds vs → DpAll K H vs (toPys ds)
  | [], _, _, h => by cases h; exact .nil
  | d :: ds, _, hp, ⟨v, r, h1, h2, h3⟩ => by
    subst h1
    have hp' : (plainD d && plainDs ds) = true := hp
    rw [Bool.and_eq_true] at hp'
    exact .cons (rep_dp c hp'.1 h2) (reps_dp c hp'.2 h3)
end
def PyR (C : Cells) (d : D) (p : PyData) : Prop := (plainD d = true ∧ p = toPy d) ∨ ∃ a ds, d = .raw (.ref a) ∧ (a, Cell.lst ds) ∈ C ∧ plainDs ds = true ∧ p = .list (toPys ds)
theorem pyR_t (h : plainD d = true) : PyR C d (toPy d) := .inl ⟨h, rfl⟩
theorem pyR_dp {K : W.Frag} {H0 H : Hp} {v : V} {p : PyData} (c : CellsR K H0 C H) (r : Rep K H0 d v) (h : PyR C d p) : Dp K H v p := by
  rcases h with ⟨h1, rfl⟩ | ⟨a, ds, rfl, hm, hp, rfl⟩
  · exact rep_dp c.same h1 r
  · obtain ⟨vs, g1, g2⟩ := c.ok a _ hm
    obtain rfl : v = .ref a := r
    exact .lst (.inl (.inl g1)) (reps_dp c.same hp g2)
theorem ow_eq {p1 p2 : PyData} (hu : X.A.units + 64 < cLine) (h1 : PyR C d1 p1) (h2 : PyR C d2 p2) (s1 : SeqAt.shaped p1 = true) (s2 : SeqAt.shaped p2 = true) (q : Q (.bl (PyData.eqv p1 p2)) C) : OW T (compareOp .Eq) d1 d2 C Q :=
  ow_look (d := .bl (PyData.eqv p1 p2)) (op_eqD hu) (fun x y H H0 c r1 r2 => ⟨.bl (PyData.eqv p1 p2), rfl, fun R k => ⟨p1, p2, pyR_dp c r1 h1, pyR_dp c r2 h2, s1, s2, k⟩⟩) q
theorem ow_ne {p1 p2 : PyData} (hu : X.A.units + 64 < cLine) (h1 : PyR C d1 p1) (h2 : PyR C d2 p2) (s1 : SeqAt.shaped p1 = true) (s2 : SeqAt.shaped p2 = true) (q : Q (.bl (!PyData.eqv p1 p2)) C) : OW T (compareOp .NotEq) d1 d2 C Q :=
  ow_look (d := .bl (!PyData.eqv p1 p2)) (op_neD hu) (fun x y H H0 c r1 r2 => ⟨.bl (!PyData.eqv p1 p2), rfl, fun R k => ⟨p1, p2, pyR_dp c r1 h1, pyR_dp c r2 h2, s1, s2, k⟩⟩) q
theorem ow_eq_str {x y : Str} (q : Q (.bl (decide (x = y))) C) : OW T (compareOp .Eq) (.str x) (.str y) C Q :=
  ow_look (d := .bl (decide (x = y))) op_eq (fun u v H H0 c r1 r2 => by cases r1; cases r2; exact ⟨.bl (decide (x = y)), rfl, fun R k => ⟨rfl, by
    rw [show decide (V.str x = V.str y) = decide (x = y) by by_cases e : x = y <;> simp [e]]; exact k⟩⟩) q
theorem ow_ne_str {x y : Str} (q : Q (.bl (!decide (x = y))) C) : OW T (compareOp .NotEq) (.str x) (.str y) C Q :=
  ow_look (d := .bl (!decide (x = y))) op_ne (fun u v H H0 c r1 r2 => by cases r1; cases r2; exact ⟨.bl (!decide (x = y)), rfl, fun R k => ⟨rfl, by
    rw [show decide (V.str x = V.str y) = decide (x = y) by by_cases e : x = y <;> simp [e]]; exact k⟩⟩) q
theorem ow_eq_int {x y : Int} (q : Q (.bl (decide (x = y))) C) : OW T (compareOp .Eq) (.int x) (.int y) C Q :=
  ow_look (d := .bl (decide (x = y))) op_eq (fun u v H H0 c r1 r2 => by cases r1; cases r2; exact ⟨.bl (decide (x = y)), rfl, fun R k => ⟨rfl, by
    rw [show decide (V.int x = V.int y) = decide (x = y) by by_cases e : x = y <;> simp [e]]; exact k⟩⟩) q
theorem ow_ne_int {x y : Int} (q : Q (.bl (!decide (x = y))) C) : OW T (compareOp .NotEq) (.int x) (.int y) C Q :=
  ow_look (d := .bl (!decide (x = y))) op_ne (fun u v H H0 c r1 r2 => by cases r1; cases r2; exact ⟨.bl (!decide (x = y)), rfl, fun R k => ⟨rfl, by
    rw [show decide (V.int x = V.int y) = decide (x = y) by by_cases e : x = y <;> simp [e]]; exact k⟩⟩) q
def isNon : D → Bool
  | .non => true
  | _ => false
theorem isNon_v {K : W.Frag} {H0 : Hp} {v : V} (r : Rep K H0 d v) (hr : ∀ w, d ≠ .raw w) : decide (v = .non) = isNon d := by
  cases d with
  | non => cases r; rfl
  | bl b => cases r; rfl
  | int i => cases r; rfl
  | str s => cases r; rfl
  | lst ds => obtain ⟨a, vs, h, _⟩ := r; subst h; rfl
  | tup ds => obtain ⟨a, vs, h, _⟩ := r; subst h; rfl
  | dic ks ds => obtain ⟨a, vs, h, _⟩ := r; subst h; rfl
  | ins Cl ns ds => obtain ⟨a, dx, vs, h, _⟩ := r; subst h; rfl
  | raw w => exact absurd rfl (hr w)
  | tpn ds => obtain ⟨a, vs, h, _⟩ := r; subst h; rfl
theorem ow_isN (hr : ∀ w, d ≠ .raw w) (q : Q (.bl (isNon d)) C) : OW T (compareOp .Is) d .non C Q :=
  ow_look (d := .bl (isNon d)) op_isN (fun x y H H0 c r1 r2 => by cases r2; exact ⟨.bl (isNon d), rfl, fun R k => ⟨rfl, by rw [isNon_v r1 hr]; exact k⟩⟩) q
theorem ow_isNotN (hr : ∀ w, d ≠ .raw w) (q : Q (.bl (!isNon d)) C) : OW T (compareOp .IsNot) d .non C Q :=
  ow_look (d := .bl (!isNon d)) op_notN (fun x y H H0 c r1 r2 => by cases r2; exact ⟨.bl (!isNon d), rfl, fun R k => ⟨rfl, by rw [isNon_v r1 hr]; exact k⟩⟩) q

theorem ow_add_str {x y : Str} (h : x.length + y.length ≤ 100000) (q : Q (.str (x ++ y)) C) : OW T (binaryOp .Add) (.str x) (.str y) C Q :=
  ow_look (d := .str (x ++ y)) op_add_str (fun u v H H0 c r1 r2 => by cases r1; cases r2; exact ⟨.str (x ++ y), rfl, fun R k => ⟨x, y, rfl, rfl, Nat.le_trans h (by decide), k⟩⟩) q
theorem sw_str {s : Str} {lo hi : Option Int} (h : s.length ≤ 100000) (q : Q (.str (cutS s lo hi)) C) : SW T (.str s) lo hi C Q :=
  SlR.imp sl_str fun x l u H R ⟨e1, e2, H0, c, r1, k⟩ => by
    subst e1; subst e2; cases r1
    exact ⟨s, rfl, Nat.le_trans h (by decide), k.here (d := .str (cutS s l u)) c rfl q⟩
theorem sw_tup {lo hi : Option Int} (q : Q (.tup (cutD ds lo hi)) C) : SW T (.tup ds) lo hi C Q :=
  SlR.imp sl_tupA fun x l u H R ⟨e1, e2, H0, c, r1, k⟩ => by
    subst e1; subst e2
    obtain ⟨a, vs, g1, g2, g3⟩ := id r1
    have hl := g3.length
    refine ⟨a, vs, g1, Same.sqT c.same g2, fun hw => ?_, fun _ z hz => ?_⟩
    · have e : cutD ds l u = ds := by
        unfold cutD
        rw [hl, hw.1, hw.2, ← hl]; simp
      rw [e] at q
      subst g1
      exact k.here (d := .tup ds) c r1 q
    · obtain ⟨p2, c2⟩ := stp_new (o := .tup (cutV vs l u)) c hz
      exact k _ (.tup (cutD ds l u)) C _ _ p2 c2 ⟨z, _, rfl, .inl (.inl upd_same), (reps_cut g3 l u).mono p2.base⟩ q
theorem cw_int_str {s : Str} {n : Int} (h : intText? s = some n) (hl : s.length ≤ 640) (q : Q (.int n) C) : CW T (.type "int") [.str s] C Q :=
  cw_look (d := .int n) call_int_str (fun xs H H0 c r => by
    obtain ⟨v, e1, r1⟩ := r.one
    cases r1; subst e1
    exact ⟨.int n, rfl, fun R k => ⟨s, n, rfl, h, hl, k⟩⟩) q
theorem cw_int {i : Int} (q : Q (.int i) C) : CW T (.type "int") [.int i] C Q :=
  cw_look (d := .int i) call_int1 (fun xs H H0 c r => by
    obtain ⟨v, e1, r1⟩ := r.one
    cases r1; subst e1
    exact ⟨.int i, rfl, fun R k => .inl ⟨i, rfl, k⟩⟩) q
theorem cw_int_bl {k : Bool} (q : Q (.int (if k then 1 else 0)) C) : CW T (.type "int") [.bl k] C Q :=
  cw_look (d := .int (if k then 1 else 0)) call_int1 (fun xs H H0 c r => by
    obtain ⟨v, e1, r1⟩ := r.one
    cases r1; subst e1
    exact ⟨.int (if k then 1 else 0), rfl, fun R q => .inr ⟨k, rfl, q⟩⟩) q
theorem cw_abs {i : Int} (q : Q (.int (if i < 0 then -i else i)) C) : CW T (.builtin "abs") [.int i] C Q :=
  cw_look (d := .int (if i < 0 then -i else i)) call_abs (fun xs H H0 c r => by
    obtain ⟨v, e1, r1⟩ := r.one
    cases r1; subst e1
    exact ⟨.int (if i < 0 then -i else i), rfl, fun R k => ⟨i, rfl, k⟩⟩) q
theorem reps_bls {K : W.Frag} {H0 : Hp} : ∀ {bs : List Bool} {vs : List V}, Reps K H0 (bs.map D.bl) vs → vs = bs.map V.bl
  | [], _, h => h
  | x :: r, _, ⟨_, _, h1, h2, h3⟩ => by subst h1; rw [reps_bls h3, h2]; rfl
theorem cw_all {bs : List Bool} (hc : X.calm = true) (q : Q (.bl (bs.all id)) C) : CW T (.builtin "all") [.lst (bs.map D.bl)] C Q :=
  cw_look (d := .bl (bs.all id)) (cr_all hc) (fun xs H H0 c r => by
    obtain ⟨v, e1, a, vs, e2, h2, h3⟩ := r.one
    subst e1; subst e2
    rw [reps_bls h3] at h2
    exact ⟨.bl (bs.all id), rfl, fun R k => ⟨a, bs, rfl, Same.sqL c.same h2, k⟩⟩) q
end
end Tr

set_option maxHeartbeats 2000000
namespace Tr
open PySem L2 PySem.Spec PyProof.Rows

section
open Builtin
variable {prog : Program} {w : World} {A : Around} {E : Value → Shared → Prop} {s : Shared} {K : W.Frag} {x C f : Addr} {ox : Obj} {od : Option Obj} {b tb : Value}
end

structure ClsI (K : W.Frag) (Cl : Addr) : Prop where
  c : Cls K Cl
  ca : W.findIn K (.ref Cl) "__class__" = some (some (.builtin "object.__class__"))
  cn : W.specialIn K (.builtin "object.__class__") "__get__" = some (some (.builtin "getset_descriptor.__get__"))
  ct : W.takesIn K (.builtin "object.__class__") = some true
  cm : W.mroIn K Cl (.type "object") = some true
inductive TyD (K : W.Frag) (C : Cells) : D → Value → Prop
  | non : TyD K C .non (.type "NoneType")
  | bl (b) : TyD K C (.bl b) (.type "bool")
  | int (i) : TyD K C (.int i) (.type "int")
  | str (s) : TyD K C (.str s) (.type "str")
  | lst (ds) : TyD K C (.lst ds) (.type "list")
  | tup (ds) : TyD K C (.tup ds) (.type "tuple")
  | ins {Cl ns ds} (h : ClsI K Cl) : TyD K C (.ins Cl ns ds) (.ref Cl)
  | cl {a ds} (h : (a, Cell.lst ds) ∈ C) : TyD K C (.raw (.ref a)) (.type "list")
  | ci {a Cl ns ds} (h : (a, Cell.ins Cl ns ds) ∈ C) (hc : ClsI K Cl) : TyD K C (.raw (.ref a)) (.ref Cl)
theorem rd_tyL {K : W.Frag} {H : Hp} {a : Addr} {vs : List V} (h : SqL K H a vs) : TyX K H (.ref a) (.type "list") := by
  rcases h with (h | ⟨o, h⟩) | ⟨o, its, n, h1, h2, _⟩
  · exact .base (.lst h)
  · exact .base (.frz h)
  · exact .kList h1 h2
theorem rd_tyT {K : W.Frag} {H : Hp} {a : Addr} {vs : List V} (h : SqT K H a vs) : TyX K H (.ref a) (.type "tuple") := by
  rcases h with (h | ⟨o, h⟩) | ⟨o, its, n, h1, h2, _⟩
  · exact .base (.tup h)
  · exact .fTuple h
  · exact .kTuple h1 h2
theorem ty_at {K : W.Frag} {H0 H : Hp} {C : Cells} {d : D} {v : V} {t : Value} (c : CellsR K H0 C H) (r : Rep K H0 d v) (h : TyD K C d t) : TyX K H v t := by
  cases h with
  | non => cases r; exact .base .non
  | bl b => cases r; exact .base (.bl b)
  | int b => cases r; exact .base (.int b)
  | str b => cases r; exact .base (.str b)
  | lst ds => obtain ⟨a, vs, e, h, _⟩ := r; subst e; exact rd_tyL (Same.sqL c.same h)
  | tup ds => obtain ⟨a, vs, e, h, _⟩ := r; subst e; exact rd_tyT (Same.sqT c.same h)
  | ins h => obtain ⟨a, dx, vs, e, h1, _⟩ := r; subst e; exact .base (.ins (c.same _ _ h1) h.c h.ca h.cn h.ct h.cm)
  | cl hm => cases r; obtain ⟨vs, e, _⟩ := c.ok _ _ hm; exact .base (.lst e)
  | ci hm h => cases r; obtain ⟨dx, vs, e, _⟩ := c.ok _ _ hm; exact .base (.ins e h.c h.ca h.cn h.ct h.cm)
inductive ClsD : D → Value → Prop
  | ty (n : String) : ClsD (.raw (.ty n)) (.type n)
  | own (Cl : Addr) : ClsD (.raw (.ref Cl)) (.ref Cl)
theorem cls_at {K : W.Frag} {H0 : Hp} {d : D} {v : V} {u : Value} (r : Rep K H0 d v) (h : ClsD d u) : ClsV v u := by
  cases h with
  | ty n => cases r; exact .ty n
  | own C => cases r; exact .own C
theorem clss_at {K : W.Frag} {H0 : Hp} : ∀ {ds : List D} {vs : List V} {us : List Value}, Reps K H0 ds vs → Paired ClsD ds us → Paired ClsV vs us
  | [], _, _, r, .nil => by cases r; exact .nil
  | d :: ds, _, _, ⟨v, vs, e, r1, r2⟩, .cons h t => by subst e; exact .cons (cls_at r1 h) (clss_at r2 t)

section
variable {X : Cx} {T : TX X} {ρ : Rho} {C : Cells} {Q : QE} {e a b c o : Expr} {pos p apos cpos : Pos} {es : List Expr} {d d1 d2 : D} {ds ds2 : List D}
theorem we_ty {x : Str} {n : String} (hg : Gl X x) (hm : X.mg x = none) (hv : bootBuiltins x = some (.type n)) (q : Q (.raw (.ty n)) C) (hn : x ≠ "__name__" := by decide) (hd : (x == ("__debug__" : Str)) = false := by decide) : WE T (.Name x pos) ρ C Q :=
  we_look (d := .raw (.ty n)) (pe_bltn (v := .ty n) hg hm hv rfl hn hd) (fun σ H H0 a => ⟨.ty n, rfl, fun R k => k⟩) q
theorem call_isiS : CallR X (.builtin "isinstance") (fun xs H Q => ∃ (x : V) (tp : Addr) (cs : List V) (t : Value) (us : List Value) (b : Bool), xs = [x, .ref tp] ∧ SqT X.K H tp cs ∧ Paired ClsV cs us ∧ TyX X.K H x t ∧ W.kitAny X.K t us = some b ∧ Q (.bl b) H) := by
  intro pins s σ H xs us Q I r h
  obtain ⟨x, tp, cs, t, ws, b, rfl, hT, k, ty, e, q⟩ := h
  obtain ⟨u1, u2, rfl, r1, r2⟩ := vals2 r
  cases (show u2 = Value.ref tp from r2)
  obtain ⟨P, Z, p, hx⟩ := kit_of I r1 ty
  obtain ⟨its, rv, ⟨o, h1, h2, n, h3⟩, _⟩ := I.tuple hT
  have e3 := ClsV.all k rv
  subst e3
  obtain ⟨oc, od, dt, sl⟩ := o
  simp only at h2 h3
  subst h2 h3
  exact W.kia_tup Z I.kIn p h1 e hx fun tk => ⟨.bl b, H, I.tok tk, rfl, q⟩
theorem cw_isi {t u : Value} {b : Bool} (hc : ClsD d2 u) (ht : TyD X.K C d1 t) (hk : W.kitOne X.K t u = some b) (q : Q (.bl b) C) : CW T (.builtin "isinstance") [d1, d2] C Q :=
  cw_look (d := .bl b) call_isi (fun xs H H0 c r => by
    obtain ⟨v, w, e1, r1, r2⟩ := r.two
    subst e1
    exact ⟨.bl b, rfl, fun R k => ⟨v, w, t, u, b, rfl, cls_at r2 hc, ty_at c r1 ht, hk, k⟩⟩) q
theorem cw_isiT {t : Value} {us : List Value} {b : Bool} (hc : Paired ClsD ds us) (ht : TyD X.K C d1 t) (hk : W.kitAny X.K t us = some b) (q : Q (.bl b) C) : CW T (.builtin "isinstance") [d1, .tup ds] C Q :=
  cw_look (d := .bl b) call_isiS (fun xs H H0 c r => by
    obtain ⟨v, w, e1, r1, r2⟩ := r.two
    subst e1
    obtain ⟨a, vs, e2, h2, h3⟩ := tup_at c r2
    subst e2
    exact ⟨.bl b, rfl, fun R k => ⟨v, a, vs, t, us, b, rfl, h2, clss_at h3 hc, ty_at c r1 ht, hk, k⟩⟩) q
end

section
variable {X : Cx} {T : TX X} {ρ : Rho} {C : Cells} {Q : QE} {pos p apos : Pos} {k : Nat} {f Cl : Addr} {fd : FuncData} {ps : List Str} {F : FS} {dvs : List V} {dds : List D} {dus : List Value} {d1 d2 d : D} {ns : List Str} {ds : List D}
def AsksN (F : FS) (ds : List D) (C : Cells) (Q : QE) : Prop := ∃ μ r, C.Perm (μ ++ r) ∧ F ds μ (fun d μ' => Q d (μ' ++ r)) fun _ _ _ => False
end

section
variable {X : Cx} {T : TX X} {ρ : Rho} {C : Cells} {Q : QE} {e a b c o : Expr} {pos p apos cpos : Pos} {es : List Expr} {d d1 d2 : D} {ds ds2 : List D}
def rCatS (K : W.Frag) : R2 := fun x y H Q => ∃ l b xs zs, x = .ref l ∧ y = .ref b ∧ SqL K H l xs ∧ SqL K H b zs ∧ xs.length + zs.length ≤ sizeLine ∧ ∀ p, H p = none → Q (.ref p) (upd H p (.lst (xs ++ zs)))
theorem op_catS : OpR X (binaryOp .Add) (rCatS X.K) := by
  intro pins s σ H x y v u Q I rx ry h
  obtain ⟨l, b, xs, zs, rfl, rfl, hH, hB, hz, q⟩ := h
  cases rx
  cases ry
  obtain ⟨its, r, ht, z1⟩ := I.list hH
  obtain ⟨its2, r2, ht2, z2⟩ := I.list hB
  have l1 := r.length
  have l2 := r2.length
  obtain ⟨⟨cl1, dd, data, sl⟩, n, ho, hc, _, hd⟩ := id ht
  obtain ⟨⟨cl2, dd2, data2, sl2⟩, n2, ho2, hc2, _, hd2⟩ := id ht2
  simp only at hc hd hc2 hd2
  subst hc hd hc2 hd2
  refine concat_meets ⟨_, ho, rfl⟩ ⟨_, ho2, rfl⟩ PySem.noFill_list_add PySem.seq_list_add PySem.F.slot_list_add PySem.F.entry_list_add (PySem.F.args_list_add_2 _ _) (list_addW l b its.toArray its2.toArray n n2 dd dd2 sl sl2 (by rw [List.size_toArray, List.size_toArray]; omega)) ⟨ho, ho2, ?_⟩
  rw [show its.toArray ++ its2.toArray = (its ++ its2).toArray by simp]
  exact ⟨.ref _, _, I.lnew (t' := s.toks) (r.append r2) (by rw [List.length_append]; omega), rfl, q _ I.fresh⟩
theorem ow_cat (h1 : LstD C d1 ds) (h2 : LstD C d2 ds2) (hl : ds.length + ds2.length ≤ 100000) (q : Q (.lst (ds ++ ds2)) C) : OW T (binaryOp .Add) d1 d2 C Q :=
  OpR.imp op_catS fun x y H R ⟨H0, c, r1, r2, k⟩ => by
    obtain ⟨a, vs, e1, g1, g2⟩ := lst_at c r1 h1
    obtain ⟨b, ws, e2, g3, g4⟩ := lst_at c r2 h2
    have l1 := g2.length
    have l2 := g4.length
    refine ⟨a, b, vs, ws, e1, e2, g1, g3, Nat.le_trans (by omega) (show 100000 ≤ sizeLine by decide), fun p hp => ?_⟩
    obtain ⟨p2, c2⟩ := stp_new (o := .lst (vs ++ ws)) c hp
    exact k _ (.lst (ds ++ ds2)) C _ _ p2 c2 ⟨p, _, rfl, .inl (.inl upd_same), (g2.append g4).mono p2.base⟩ q
theorem ow_catC (h1 : LstD C d1 ds) (h2 : LstD C d2 ds2) (hl : ds.length + ds2.length ≤ 100000) (q : ∀ p, Q (.raw (.ref p)) ((p, .lst (ds ++ ds2)) :: C)) : OW T (binaryOp .Add) d1 d2 C Q :=
  OpR.imp op_catS fun x y H R ⟨H0, c, r1, r2, k⟩ => by
    obtain ⟨a, vs, e1, g1, g2⟩ := lst_at c r1 h1
    obtain ⟨b, ws, e2, g3, g4⟩ := lst_at c r2 h2
    have l1 := g2.length
    have l2 := g4.length
    refine ⟨a, b, vs, ws, e1, e2, g1, g3, Nat.le_trans (by omega) (show 100000 ≤ sizeLine by decide), fun p hp => ?_⟩
    obtain ⟨p2, c2⟩ := stp_cell (o := .lst (vs ++ ws)) (c := .lst (ds ++ ds2)) c hp ⟨_, upd_same, g2.append g4⟩
    exact k _ (.raw (.ref p)) _ _ _ p2 c2 rfl (q p)
theorem ow_catT (hl : ds.length + ds2.length ≤ 100000) (q : Q (.tup (ds ++ ds2)) C) : OW T (binaryOp .Add) (.tup ds) (.tup ds2) C Q :=
  OpR.imp op_catA fun x y H R ⟨H0, c, r1, r2, k⟩ => by
    obtain ⟨a, vs, e1, g1, g2⟩ := tup_at c r1
    obtain ⟨b, ws, e2, g3, g4⟩ := tup_at c r2
    have l1 := g2.length
    have l2 := g4.length
    refine ⟨a, b, vs, ws, e1, e2, g1, g3, Nat.le_trans (by omega) (show 100000 ≤ sizeLine by decide), fun e => ?_, fun _ e => ?_, fun _ _ p hp => ?_⟩
    · subst e; subst e2
      have : ds = [] := List.length_eq_zero_iff.mp l1
      subst this
      exact k.here (d := .tup ([] ++ ds2)) c r2 q
    · subst e; subst e1
      have : ds2 = [] := List.length_eq_zero_iff.mp l2
      subst this
      rw [List.append_nil] at q
      exact k.here (d := .tup ds) c r1 q
    · obtain ⟨p2, c2⟩ := stp_new (o := .tup (vs ++ ws)) c hp
      exact k _ (.tup (ds ++ ds2)) C _ _ p2 c2 ⟨p, _, rfl, .inl (.inl upd_same), (g2.append g4).mono p2.base⟩ q
theorem Reps.reverse {K : W.Frag} {H : Hp} : ∀ {ds : List D} {vs : List V}, Reps K H ds vs → Reps K H ds.reverse vs.reverse
  | [], _, h => by cases h; exact Reps.nil
  | d :: ds, _, ⟨v, r, e, h1, h2⟩ => by
    subst e
    rw [List.reverse_cons, List.reverse_cons]
    exact (Reps.reverse h2).append (Reps.cons h1 Reps.nil)
theorem we_revC {k : Nat} {p1 p2 p3 : Pos} (h : WE T e ρ C fun d C1 => ∃ ds, LstD C1 d ds ∧ ∀ p, Q (.raw (.ref p)) ((p, .lst ds.reverse) :: C1)) : WE T (.Subscript e (.Slice none none (some (.UnaryOp .USub (.Constant (.int 1) k p1) p2)) p3) pos) ρ C Q :=
  PE.imp (pe_revL h) fun σ H R ⟨H0, at_, k⟩ => ⟨H0, at_, fun v d C1 H1 H01 pp c1 r1 ⟨ds, hl, q⟩ => by
    obtain ⟨a, vs, e1, g1, g2⟩ := lst_at c1 r1 hl
    refine ⟨a, vs, e1, g1, fun p hp => ?_⟩
    obtain ⟨p2, c2⟩ := stp_cell (o := .lst vs.reverse) (c := .lst ds.reverse) c1 hp ⟨_, upd_same, Reps.reverse g2⟩
    exact k _ (.raw (.ref p)) _ _ _ (pp.trans c1 p2) c2 rfl (q p)⟩

def flatD : D → Bool
  | .non | .bl _ | .int _ | .str _ => true
  | _ => false
def toV : D → V
  | .bl b => .bl b
  | .int i => .int i
  | .str s => .str s
  | _ => .non
theorem flat_at {K : W.Frag} {H0 : Hp} {d : D} {v : V} (r : Rep K H0 d v) (h : flatD d = true) : v = toV d ∧ flatV v = true := by
  cases d <;> first | (cases r; exact ⟨rfl, rfl⟩) | cases h
theorem flats_at {K : W.Frag} {H0 : Hp} : ∀ {ds : List D} {vs : List V}, Reps K H0 ds vs → ds.all flatD = true → vs = ds.map toV ∧ vs.all flatV = true
  | [], _, r, _ => by cases r; exact ⟨rfl, rfl⟩
  | d :: ds, _, ⟨v, vs, e, r1, r2⟩, h => by
    subst e
    rw [List.all_cons, Bool.and_eq_true] at h
    obtain ⟨e1, f1⟩ := flat_at r1 h.1
    obtain ⟨e2, f2⟩ := flats_at r2 h.2
    exact ⟨by rw [e1, e2]; rfl, by rw [List.all_cons, f1, f2]; rfl⟩
def inD (d : D) (ds : List D) : Bool := inV (toV d) (ds.map toV)
theorem in_at {n : Bool} {H0 H : Hp} {x y : V} {R : VK} (c : CellsR X.K H0 C H) (r1 : Rep X.K H0 d1 x) (r2 : Rep X.K H0 d2 y) (h : SeqD C d2 ds) (f1 : flatD d1 = true) (f2 : ds.all flatD = true) (k : R (.bl (if n then !inD d1 ds else inD d1 ds)) H) : rIn X.K n x y H R := by
  obtain ⟨e1, g1⟩ := flat_at r1 f1
  rcases h with h | h
  · obtain ⟨a, vs, e2, h2, h3⟩ := lst_at c r2 h
    obtain ⟨e3, g3⟩ := flats_at h3 f2
    refine ⟨a, vs, e2, .inl h2, g1, g3, ?_⟩
    rw [e1, e3]; exact k
  · subst h
    obtain ⟨a, vs, e2, h2, h3⟩ := tup_at c r2
    obtain ⟨e3, g3⟩ := flats_at h3 f2
    refine ⟨a, vs, e2, .inr h2, g1, g3, ?_⟩
    rw [e1, e3]; exact k
theorem ow_in (h : SeqD C d2 ds) (f1 : flatD d1 = true) (f2 : ds.all flatD = true) (q : Q (.bl (inD d1 ds)) C) : OW T (compareOp .In) d1 d2 C Q :=
  ow_look (d := .bl (inD d1 ds)) op_in_seq (fun u v H H0 c r1 r2 => ⟨.bl (inD d1 ds), rfl, fun R k => in_at (n := false) c r1 r2 h f1 f2 k⟩) q
theorem ow_notIn (h : SeqD C d2 ds) (f1 : flatD d1 = true) (f2 : ds.all flatD = true) (q : Q (.bl (!inD d1 ds)) C) : OW T (compareOp .NotIn) d1 d2 C Q :=
  ow_look (d := .bl (!inD d1 ds)) op_notIn_seq (fun u v H H0 c r1 r2 => ⟨.bl (!inD d1 ds), rfl, fun R k => in_at (n := true) c r1 r2 h f1 f2 k⟩) q
theorem inD_strs {s : Str} : ∀ {xs : List Str}, inD (.str s) (xs.map D.str) = decide (s ∈ xs)
  | [] => by simp [inD, inV]
  | x :: xs => by
    have ih := inD_strs (s := s) (xs := xs)
    unfold inD inV at ih ⊢
    rw [List.map_cons, List.map_cons, List.any_cons, ih]
    have : eqV (toV (.str x)) (toV (.str s)) = (x == s) := rfl
    rw [this]
    by_cases h : x = s
    · simp [h]
    · simp [h, Ne.symm h]
theorem ow_inSign {n : Nat} {z : Str} (q : Q (.bl (decide (n ∈ z.cps.toList))) C) : OW T (compareOp .In) (.str ⟨#[n]⟩) (.str z) C Q :=
  ow_look (d := .bl (decide (n ∈ z.cps.toList))) op_in_sign (fun u v H H0 c r1 r2 => by cases r1; cases r2; exact ⟨.bl (decide (n ∈ z.cps.toList)), rfl, fun R k => ⟨n, z, rfl, rfl, k⟩⟩) q

theorem call_reprD (hg : X.A.guards = some []) : CallR X (.builtin "repr") (fun xs H Q => ∃ v p, xs = [v] ∧ Dp X.K H v p ∧ isDisplay p = true ∧ p.showable = true ∧ p.hasDict = false ∧ X.A.units + (p.depth + 1) < cLine ∧ p.shown.length ≤ sizeLine ∧ Q (.str p.shown) H) := by
  intro pins s σ H xs us Q I r h
  obtain ⟨v, p, rfl, dp, hd, hs, hnd, hu, hz, q⟩ := h
  obtain ⟨u, rfl, ru⟩ := r.one
  obtain ⟨as, rd⟩ := Dp.reads I p v u dp ru
  obtain ⟨a, rfl⟩ := isRef_of_reads rd hd
  exact repr_of_reads' rd hs (PyData.noDict_hsm hnd) hg hu (fun _ _ e => e) (fun h' u tk hk => ⟨.str p.shown, H, I.kept hk, ⟨_, rfl⟩, q⟩) hz
theorem cw_repr {p : PyData} (hg : X.A.guards = some []) (hp : PyR C d p) (hd : isDisplay p = true) (hs : p.showable = true) (hnd : p.hasDict = false) (hu : X.A.units + (p.depth + 1) < cLine) (hz : p.shown.length ≤ 100000) (q : Q (.str p.shown) C) : CW T (.builtin "repr") [d] C Q :=
  cw_look (d := .str p.shown) (call_reprD hg) (fun xs H H0 c r => by
    obtain ⟨v, e1, r1⟩ := r.one
    subst e1
    exact ⟨.str p.shown, rfl, fun R k => ⟨v, p, rfl, pyR_dp c r1 hp, hd, hs, hnd, hu, Nat.le_trans hz (by decide), k⟩⟩) q
end
end Tr

set_option maxHeartbeats 2000000
namespace Tr
open PySem L2 PySem.Spec PyProof.Rows

def lawFS : FS := fun ds C Q _ => ∃ ns : List Int, ds = [.lst (ns.map .int)] ∧ ns.length ≤ 63 ∧ C = [] ∧ ∀ C', Q (.bl true) C'
theorem cells_nil (K : W.Frag) (H : Hp) : CellsR K H [] H := ⟨Same.refl _, fun a ⟨_, h⟩ => (by cases h), fun a c h => (by cases h), List.nodup_nil⟩
theorem law_sp {K : W.Frag} {H : Hp} {a : Addr} {ns : List Int} (hl : ns.length ≤ 63) (hs : SqL K H a (ns.map V.int)) : spT K lawFS [.ref a] H (fun v _ => v = .bl true) fun _ _ _ => False :=
  ⟨H, [.lst (ns.map .int)], [], fun d _ => d = .bl true, fun _ _ _ => False, cells_nil K H, Reps.cons ⟨a, _, rfl, hs, Reps.ints ns⟩ Reps.nil, ⟨ns, rfl, hl, rfl, fun _ => rfl⟩,
    fun v d C' H' H0' _ _ r e => (by subst e; exact r), fun _ _ _ _ _ _ _ _ _ q => q⟩
section
variable {P : Program} {w : World} {K : W.Frag} {mg mb : Str → Option Value} {k : Nat} {fa a : Addr} {fd : FuncData} {x : Str} {s₁ : Shared} {vs : List Value} {ns : List Int}
theorem law_from (H : Hp) (hO : Only H) (hS : SqL K H a (ns.map V.int)) (hok : HOk P w H s₁.heap) (hA : ∀ b, H b ≠ none → b = a) (hK : H a ≠ none → K.lookup a = none)
    (KX : K.In s₁.heap) (hns : s₁.heap.Ns mainGlobals mg) (hb : s₁.heap.Ns builtinsNs mb) (hbb : ∀ x : Str, x ≠ "__name__" → mb x = bootBuiltins x) (hlim : s₁.heap.NoLimit) (hg : s₁.gens = #[])
    (ha : s₁.heap.get? a = some { cls := .type "list", data := .seq vs.toArray }) (hl : ns.length ≤ 63) (hr : RoomG k callerA)
    (F : ∀ base : Heap, K.In base → base.Ns mainGlobals mg → FnG P w K mg base k fa fd [x] lawFS) (hbind : ∀ (s : Shared) (u : Value), BindsTo s fd ⟨[u], []⟩ [(x, u)]) :
    codeAny (model P w) callerA (.call (.ref fa) ⟨[.ref a], []⟩) (fun r s' => r = .ok (.ret (.bool true)) ∧ OldK s₁.heap s'.heap ∧ s'.os = s₁.os ∧ AllBare s'.gens) s₁ := by
  have only : ∀ {b : Addr}, b ≠ a → H b = none := fun {b} ne => Classical.byContradiction fun h => ne (hA b h)
  have dicts : ∀ {b : Addr} {o : Obj} {es : Array DictEntry} {ep : Nat}, s₁.heap.get? b = some o → o.data = .dict es ep → (hidT s₁.heap H).get? b = some o := fun {b o es ep} e d => hidT_get e (by
    refine only fun eq => ?_
    subst eq
    rw [ha] at e; cases e; cases d)
  have names : ∀ {b : Addr} {m : Str → Option Value}, s₁.heap.Ns b m → (hidT s₁.heap H).Ns b m := fun {b m} ⟨o, es, ep, e, d, r⟩ => ⟨o, es, ep, dicts e d, d, r⟩
  have kin : K.In (hidT s₁.heap H) := fun b o e => hidT_get (KX b o e) (by
    by_cases eq : b = a
    · subst eq
      exact Classical.byContradiction fun h => by rw [hK h] at e; cases e
    · exact only eq)
  have lim : (hidT s₁.heap H).NoLimit := let ⟨mc, h1, h2⟩ := hlim; ⟨mc, names h1, h2⟩
  have e0 : Env0 P w K mg (hidT s₁.heap H) callerA [] s₁ H := ⟨rfl, ⟨kin, names hns, ⟨mb, names hb, hbb⟩, lim⟩, fun b o e => of_hidT e, Nat.le_of_eq (hidT_size _ _), trivial, fun b hb => absurd (show b ∈ ([] : List Addr) from hb) (by simp), hok, .of_eq hg⟩
  have went := (F _ kin (names hns)).run callerA [] s₁ H ⟨[.ref a], []⟩ [.ref a] [.ref a] _ _ hr e0 (hbind s₁ (.ref a)) (.cons rfl .nil) (law_sp hl hS)
  refine codeAny_mono went ?_
  rintro (e | (_ | _ | _ | u)) s' h
  · obtain ⟨_, _, _, _, _, _, _, _, _, _, _, _, z⟩ := h
    exact z.elim
  · exact False.elim h
  · exact False.elim h
  · exact False.elim h
  · obtain ⟨v, H', os, bare, un, hok', r', q⟩ := h
    subst q
    obtain rfl : u = Value.bool true := r'
    refine ⟨rfl, OldK.of_keep fun b o e => ?_, os, bare⟩
    rcases hO b with z | ⟨ob, xs, z⟩
    · exact un.keep b o e z (by intro z; exact absurd (show b ∈ ([] : List Addr) from z) (by simp)) (by simp)
    · obtain ⟨e1, _⟩ := hok b _ z
      obtain ⟨e2, _⟩ := hok' b _ (un.frzs b ob _ z)
      rw [e] at e1; cases e1
      exact e2
theorem law_goes (KX : K.In s₁.heap) (hns : s₁.heap.Ns mainGlobals mg) (hb : s₁.heap.Ns builtinsNs mb) (hbb : ∀ x : Str, x ≠ "__name__" → mb x = bootBuiltins x) (hlim : s₁.heap.NoLimit) (hg : s₁.gens = #[])
    (ha : s₁.heap.get? a = some { cls := .type "list", data := .seq vs.toArray }) (hi : IntsAre vs ns) (hl : ns.length ≤ 63) (hr : RoomG k callerA)
    (F : ∀ base : Heap, K.In base → base.Ns mainGlobals mg → FnG P w K mg base k fa fd [x] lawFS) (hbind : ∀ (s : Shared) (u : Value), BindsTo s fd ⟨[u], []⟩ [(x, u)]) :
    codeAny (model P w) callerA (.call (.ref fa) ⟨[.ref a], []⟩) (fun r s' => r = .ok (.ret (.bool true)) ∧ OldK s₁.heap s'.heap ∧ s'.os = s₁.os ∧ AllBare s'.gens) s₁ := by
  have rv := vals_ints hi
  have hsz : ns.length ≤ sizeLine := Nat.le_trans hl (by decide)
  cases hk : K.lookup a with
  | some o =>
    have e := KX a o hk
    rw [ha] at e; cases e
    exact law_from (fun _ => none) (fun _ => .inl rfl) (.inr ⟨_, vs.toArray, _, hk, rfl, rfl, rfl, by rw [List.size_toArray, hi.length]; exact hsz, by simpa using rv⟩) (fun b u z => by cases z) (fun b z => absurd rfl z) (fun z => absurd rfl z) KX hns hb hbb hlim hg ha hl hr F hbind
  | none =>
    have at_a : ∀ b u, (if b = a then some (HO.frz { cls := .type "list", data := .seq vs.toArray } (.lst (ns.map V.int))) else none) = some u → b = a ∧ u = HO.frz { cls := .type "list", data := .seq vs.toArray } (.lst (ns.map V.int)) := fun b u z => by
      split at z
      · rename_i e; exact ⟨e, (Option.some.inj z).symm⟩
      · cases z
    refine law_from (fun b => if b = a then some (.frz { cls := .type "list", data := .seq vs.toArray } (.lst (ns.map V.int))) else none) (fun b => ?_) (.inl (.inr ⟨{ cls := .type "list", data := .seq vs.toArray }, if_pos rfl⟩)) (fun b u z => ?_) (fun b z => ?_) (fun _ => hk) KX hns hb hbb hlim hg ha hl hr F hbind
    · by_cases e : b = a
      · exact .inr ⟨_, _, if_pos e⟩
      · exact .inl (if_neg e)
    · obtain ⟨e1, e2⟩ := at_a b u z
      subst e1; subst e2
      exact ⟨ha, by rw [List.length_map]; exact hsz, vs, _, rv, ha⟩
    · by_cases e : b = a
      · exact e
      · exact absurd (if_neg e) z
end
end Tr

set_option maxHeartbeats 2000000
namespace Tr
open PySem L2 PySem.Spec PyProof.Rows

section
open AutoSeq1 (wpAny_loadPart')
theorem meets_enumT (l : Addr) (items : Array Value) (n : Nat) (dct : Option Addr) (sl : Array (Option Value)) :
    Meets (Builtin.«enumerate.__new__» ⟨[.type "enumerate", .ref l], []⟩) (fun _ R s => s.heap.get? l = some { cls := .type "tuple", dict := dct, data := .seq items n, slots := sl } ∧
      R (.ok (.ret (.ref (s.heap.push { cls := .type "tuple_iterator", data := .fields #[.ref l, .int 0 0] }).objs.size)))
        { s with heap := (s.heap.push { cls := .type "tuple_iterator", data := .fields #[.ref l, .int 0 0] }).push { cls := .type "enumerate", data := .fields #[.none, .bool false, .ref s.heap.objs.size, rawInt 0, .none, .none] } }) :=
  .of_wp fun prog w A R s h => by
    obtain ⟨hp, g, d, tk, os⟩ := s
    obtain ⟨hl, h⟩ := h
    have hsub := sub_enumerate
    have hL : Heap.IsTuple (Shared.heap ⟨hp, g, d, tk, os⟩) l items := ⟨_, hl, rfl, n, rfl⟩
    wp_walk using wpAny_loadPart' hl
    refine wpAny_stack_any fun st => wpAny_pure ?_
    split
    · rename_i c _ _ _ _ _
      cases (c == Value.type "enumerate")
      · wp_walk using wpAny_loadPart' hl, wpAny_pyIter_tuple hL
        exact ⟨_, rfl, h⟩
      · wp_walk using wpAny_loadPart' hl, wpAny_pyIter_tuple hL
        exact ⟨_, rfl, h⟩
    · wp_walk using wpAny_loadPart' hl, wpAny_pyIter_tuple hL
      exact ⟨_, rfl, h⟩
end
theorem call_enumT {prog : Program} {w : World} {A : Around} {E : Value → Shared → Prop} {s : Shared} {l : Addr} {items : Array Value} {Q : Value → Shared → Prop} (hL : IsTup s.heap l items)
    (h : ∀ h', IsEnum h' (s.heap.objs.size + 1) s.heap.objs.size 0 .none → h'.IsTupleIter s.heap.objs.size l 0 → (∀ b o, s.heap.get? b = some o → h'.get? b = some o) → Q (.ref (s.heap.objs.size + 1)) { s with heap := h' }) :
    wpAny (model prog w) A (call (.type "enumerate") [.ref l]) Q E s := by
  obtain ⟨⟨c, dct, dt, sl⟩, hl, hc, n, hd⟩ := hL
  simp only at hc hd
  subst hc hd
  refine callType_new F.called_enumerate (by decide) (F.typeCall_enumerate_1 _) (F.newCall_enumerate_1 _) (fun obj => F.args_object_init_2 obj _) F.entry_enumerate_new (meets_enumT l items n dct sl) ⟨hl, ?_⟩
  have hz : (s.heap.push { cls := .type "tuple_iterator", data := .fields #[.ref l, .int 0 0] }).objs.size = s.heap.objs.size + 1 := Heap.size_push ..
  show _ ∧ _
  rw [hz]
  have he := Heap.get?_push_size (s.heap.push { cls := .type "tuple_iterator", data := .fields #[.ref l, .int 0 0] }) (o := { cls := .type "enumerate", data := .fields #[.none, .bool false, .ref s.heap.objs.size, rawInt 0, .none, .none] }) rfl
  rw [hz] at he
  exact ⟨⟨_, he, rfl⟩, h _ he ⟨_, Heap.get?_push_of_some _ (Heap.get?_push_size _ rfl), rfl, rfl⟩ fun b o x => Heap.get?_push_of_some _ (Heap.get?_push_of_some _ x)⟩
def IteT (K : W.Frag) (a : Addr) : It :=
  ⟨fun i H => ∃ (xs : List V) (x : V), SqT K H a xs ∧ xs[i]? = some x, fun i H v H' => ∃ T x, v = .ref T ∧ H T = none ∧ H' = upd H T (.tup [.int (i : Nat), x]) ∧ ∀ xs, SqT K H a xs → xs[i]? = some x, fun i H => ∃ xs : List V, SqT K H a xs ∧ xs.length ≤ i⟩
theorem turn_enumT {P : Program} {w : World} {K : W.Frag} {elts : List Expr} {kk : Nat} {tpos : Pos} (a e it : Addr) :
    Turn P w K (.Tuple elts kk tpos) (IteT K a) [e, it] e (fun i h => (∃ old, IsEnum h e it ((i : Nat) : Int) old) ∧ h.IsTupleIter it a i ∧ e ≠ it) where
  mem := by simp
  obj := fun i h st b hb => by
    obtain ⟨⟨old, he⟩, ⟨o, ho, hc, hd⟩, _⟩ := st
    rcases (show b = e ∨ b = it by simpa using hb) with z | z
    · rw [z]; exact ⟨_, he, fun v q => nomatch q⟩
    · rw [z]; exact ⟨o, ho, fun v q => by rw [hd] at q; cases q⟩
  keep := fun i h h' st k => let ⟨⟨old, he⟩, hi, hne⟩ := st; ⟨⟨old, k e (by simp) _ he⟩, hi.at fun o q => k it (by simp) o q, hne⟩
  item := by
    intro X hP hw hK hc i pins s σ H E I hf st ⟨xs, x, hq, hx⟩
    subst hP hw hK
    obtain ⟨⟨old, he⟩, hit, hne⟩ := st
    obtain ⟨its, rv, p, hz⟩ := I.tuple hq
    obtain ⟨u, hu, ru⟩ := rv.get hx
    have hel : e < s.heap.objs.size := Heap.lt_size he
    have hil : it < s.heap.objs.size := by obtain ⟨_, q, _⟩ := hit; exact Heap.lt_size q
    have hat : a ≠ it := fun z => by
      obtain ⟨o1, q1, c1, _⟩ := hit
      obtain ⟨o2, q2, c2, _⟩ := p
      rw [z] at q2
      rw [q1] at q2; cases q2
      rw [c1] at c2; injection c2 with z; exact absurd z (by decide)
    have hea : e ≠ a := fun z => by
      obtain ⟨o2, q2, c2, _⟩ := p
      rw [← z, show s.heap.get? e = _ from he] at q2; cases q2
      injection c2 with z; exact absurd z (by decide)
    have hxl : i < its.toArray.size := by
      have := (List.getElem?_eq_some_iff.mp hu).1
      simpa using this
    refine wpAny_pyNext_enum_itemD (Draws.tuple (A := X.A.in1) (show X.A.in1.handled = none from I.ok.hd hc) it a hat its.toArray) he ⟨hit, p⟩ hxl hne (by simp [hne, hea]) fun y h' tk hy ho st' hT hsz hk => ?_
    have ey : y = u := by
      have h1 : its.toArray[i]? = some y := hy
      have h2 : its.toArray[i]? = some u := by simpa using hu
      rw [h1] at h2; exact Option.some.inj h2
    subst ey
    obtain ⟨hit', _⟩ := st'
    refine ⟨_, rfl, wpAny_letOwnedTupleGo_enum (s := { s with heap := h', toks := tk + 1 }) ho fun h'' he' sb => ?_⟩
    have hT2 : h''.get? s.heap.objs.size = some { cls := .type "tuple", data := .seq #[.int i tk, y] } := (sb.2 _ (Nat.ne_of_gt hel)).trans hT
    have new : ObjOk X.prog X.w (upd H s.heap.objs.size (.tup [.int (i : Nat), x])) h'' s.heap.objs.size (.tup [.int (i : Nat), x]) :=
      ⟨by show 2 ≤ sizeLine; decide, [.int i tk, y], .cons ⟨_, rfl⟩ (.cons ru .nil), ⟨_, hT2, rfl, _, rfl⟩⟩
    have I1 : Inv X pins σ (upd H s.heap.objs.size (.tup [.int (i : Nat), x])) { s with heap := h'', toks := tk + 1 } :=
      I.turnedNew (ch := [e, it]) (fun b ob hb q => (sb.2 b (fun z => hb (by simp [z]))).trans (hk b ob (fun z => hb (by simp [z])) (fun z => hb (by simp [z])) q)) hf (Nat.le_refl _) new
    refine ⟨.ref s.heap.objs.size, _, I1, rfl, ⟨_, x, rfl, I.hok.fresh (Nat.le_refl _), rfl, fun ys hy => by rw [I.tuple_inj hy hq]; exact hx⟩, ⟨⟨y, ?_⟩, hit'.at fun o q => (sb.2 it (Ne.symm hne)).trans q, hne⟩, fun b hb => ?_⟩
    · rw [show ((i + 1 : Nat) : Int) = (i : Int) + 1 by omega]; exact he'
    · have hb' : b < s.heap.objs.size := by
        rcases (show b = e ∨ b = it by simpa using hb) with z | z
        · rw [z]; exact hel
        · rw [z]; exact hil
      rw [upd_ne (Nat.ne_of_lt hb')]
      exact (hf b hb).1
  done := by
    intro X hP hw hK hc i pins s σ H E I hf st ⟨xs, hq, hx⟩
    subst hP hw hK
    obtain ⟨⟨old, he⟩, hit, hne⟩ := st
    obtain ⟨its, rv, p, hz⟩ := I.tuple hq
    obtain ⟨f0, f1, f2, f3, f4, f5⟩ := hf it (by simp)
    have hl := rv.length
    have hT : s.TypeIs (.ref e) "enumerate" := ⟨_, he, rfl⟩
    unfold pyNext
    refine wpAny_bind (wpAny_attempt (wpAny_callSpecial?_slot (name := Str.ofString "__next__") hT PySem.F.slot_enumerate_next
      (wpAny_call_entry PySem.F.slot_enumerate_next hT PySem.F.entry_enumerate_next ?_ (PySem.F.args_enumerate_next_1 _))))
    show wpAny _ _ (field (.ref e) 2 >>= _) _ _ _
    refine wpAny_bind (wpAny_field he rfl (x := .ref it) rfl ?_)
    refine wpAny_bind (wpAny_nextOf_tuple_end (show X.A.in1.handled = none from I.ok.hd hc) hit p (by simp; omega) fun h' x he' hx' => ?_)
    obtain ⟨o, ho, hc'⟩ := hx'
    refine wpAny_bind (wpAny_isInstance (T := "StopIteration") (b := true) ⟨o, ho, hc'⟩ isSubtype_stop ?_)
    exact wpAny_pure ⟨rfl, I.turned (t' := s.toks) (fun b o hb q => he' b o hb q) f0 f1 f3 f4 f5⟩
  self := fun A i s Q E st h => let ⟨⟨_, he⟩, _⟩ := st; wpAny_pyIter_enum he h
section
variable {X : Cx} {T : TX X} {ρ : Rho} {C : Cells} {Q : QE} {e a b c o : Expr} {pos p apos cpos tpos : Pos} {es elts : List Expr} {d d1 d2 : D} {ds ds2 : List D} {kk : Nat}
theorem pi_enumT {ta : TA} (hg : Gl X "enumerate") (hm : X.mg "enumerate" = none) (ha : PA X [e] ta) (hs : starEach [e] X.env = [(false, eval e X.env)] := by rfl) :
    PI X (.Tuple elts kk tpos) (.Call (.Name "enumerate" p) [e] [] pos) (fun σ H R => ta σ H fun vs H1 => ∃ a xs, vs = [.ref a] ∧ ((SqL X.K H1 a xs ∧ R (Ite X.K a) H1) ∨ (SqT X.K H1 a xs ∧ R (IteT X.K a) H1))) := by
  refine ⟨fun pins s σ H R I h => ?_⟩
  refine Call_ (ld_blt I hg hm boot_enumerate (callWith_type1 (thn (ha.run pos pins s σ H _ I h) fun us s1 ⟨vs, H1, I1, r1, a, xs, ex, q1⟩ => ?_) hs rfl))
  subst ex
  obtain ⟨u, rfl, r⟩ := r1.one
  cases (show u = Value.ref a from r)
  have fpk : ∀ b ∈ [s1.heap.objs.size + 1, s1.heap.objs.size], FpOk X pins H1 b := fun b hb => by
    have hle : s1.heap.objs.size ≤ b := by
      rcases (show b = s1.heap.objs.size + 1 ∨ b = s1.heap.objs.size by simpa using hb) with z | z
      · rw [z]; exact Nat.le_add_right _ _
      · rw [z]; exact Nat.le_refl _
    exact I1.fpOk hle (I1.hok.fresh hle)
  rcases q1 with ⟨hq, q⟩ | ⟨hq, q⟩
  · obtain ⟨its, rv, p', hz⟩ := I1.list hq
    refine call_enumerate_list p'.isList fun h' he hit hsz hk => wpAny_pyIter_enum he ?_
    exact ⟨s1.heap.objs.size + 1, [s1.heap.objs.size + 1, s1.heap.objs.size], _, _, H1, rfl, I1.kept (t' := s1.toks) hk, turn_enum a (s1.heap.objs.size + 1) s1.heap.objs.size, ⟨⟨.none, he⟩, hit, Nat.succ_ne_self _⟩, fpk, q⟩
  · obtain ⟨its, rv, p', hz⟩ := I1.tuple hq
    refine call_enumT p' fun h' he hit hk => wpAny_pyIter_enum he ?_
    exact ⟨s1.heap.objs.size + 1, [s1.heap.objs.size + 1, s1.heap.objs.size], _, _, H1, rfl, I1.kept (t' := s1.toks) hk, turn_enumT a (s1.heap.objs.size + 1) s1.heap.objs.size, ⟨⟨.none, he⟩, hit, Nat.succ_ne_self _⟩, fpk, q⟩
def enumD : Nat → List D → List D
  | _, [] => []
  | n, d :: ds => .tup [.int n, d] :: enumD (n + 1) ds
theorem enumD_len : ∀ (ds : List D) (n : Nat), (enumD n ds).length = ds.length
  | [], _ => rfl
  | _ :: ds, n => by simp [enumD, enumD_len ds]
theorem enumD_get : ∀ {ds : List D} {n i : Nat} {d : D}, (enumD n ds)[i]? = some d → ∃ y, ds[i]? = some y ∧ d = .tup [.int ((n + i : Nat) : Int), y]
  | [], _, _, _, h => by simp [enumD] at h
  | x :: ds, n, 0, d, h => by simp [enumD] at h; exact ⟨x, rfl, h.symm⟩
  | x :: ds, n, i + 1, d, h => by
    obtain ⟨y, h1, h2⟩ := enumD_get (ds := ds) (n := n + 1) (i := i) (d := d) (by simpa [enumD] using h)
    exact ⟨y, by simpa using h1, by rw [h2]; congr 3; omega⟩
theorem pair_rep {K : W.Frag} {H0 H : Hp} {C : Cells} {Tp : Addr} {i : Nat} {x : V} {y : D} (c : CellsR K H0 C H) (n : H Tp = none) (r : Rep K H0 y x) :
    ∃ H0', Stp H0 C H H0' C (upd H Tp (.tup [.int (i : Nat), x])) ∧ CellsR K H0' C (upd H Tp (.tup [.int (i : Nat), x])) ∧ Rep K H0' (.tup [.int (i : Nat), y]) (.ref Tp) := by
  obtain ⟨p2, c2⟩ := stp_new (o := .tup [.int (i : Nat), x]) c n
  exact ⟨_, p2, c2, Tp, _, rfl, .inl (.inl upd_same), Reps.cons rfl (Reps.cons (r.mono p2.base) Reps.nil)⟩
theorem yields_enumT {K : W.Frag} {H0 : Hp} {a : Addr} {vs : List V} (hs : SqT K H0 a vs) (r : Reps K H0 ds vs) : Yields K (IteT K a) H0 (fun _ => True) (enumD 0 ds) where
  go := fun i H0' C H e c _ hi => ⟨vs, vs[i]'(by rw [← r.length, ← enumD_len ds 0]; exact hi), Same.sqT (e.trans c.same) hs, by simp⟩
  stop := fun i H0' C H e c _ hi => ⟨vs, Same.sqT (e.trans c.same) hs, by rw [← r.length, ← enumD_len ds 0]; exact hi⟩
  yld := fun i H0' C H x H' d e c _ hd ⟨Tp, z, e1, n, e2, q⟩ => by
    subst e1; subst e2
    obtain ⟨y, g1, g2⟩ := enumD_get hd
    obtain ⟨v, f1, f2⟩ := r.get g1
    have := q vs (Same.sqT (e.trans c.same) hs)
    rw [f1] at this; cases this
    subst g2
    rw [Nat.zero_add]
    exact pair_rep c n (f2.mono e)
theorem yields_enumL {K : W.Frag} {H0 : Hp} {a : Addr} {vs : List V} (hs : SqL K H0 a vs) (r : Reps K H0 ds vs) : Yields K (Ite K a) H0 (fun _ => True) (enumD 0 ds) where
  go := fun i H0' C H e c _ hi => ⟨vs, vs[i]'(by rw [← r.length, ← enumD_len ds 0]; exact hi), Same.sqL (e.trans c.same) hs, by simp⟩
  stop := fun i H0' C H e c _ hi => ⟨vs, Same.sqL (e.trans c.same) hs, by rw [← r.length, ← enumD_len ds 0]; exact hi⟩
  yld := fun i H0' C H x H' d e c _ hd ⟨Tp, z, e1, n, e2, q⟩ => by
    subst e1; subst e2
    obtain ⟨y, g1, g2⟩ := enumD_get hd
    obtain ⟨v, f1, f2⟩ := r.get g1
    have := q vs (Same.sqL (e.trans c.same) hs)
    rw [f1] at this; cases this
    subst g2
    rw [Nat.zero_add]
    exact pair_rep c n (f2.mono e)
theorem yields_enumC {K : W.Frag} {H0 : Hp} {a : Addr} : Yields K (Ite K a) H0 (fun C => (a, Cell.lst ds) ∈ C) (enumD 0 ds) where
  go := fun i H0' C H e c hm hi => by
    obtain ⟨vs, h1, h2⟩ := c.ok a _ hm
    exact ⟨vs, vs[i]'(by rw [← h2.length, ← enumD_len ds 0]; exact hi), .inl (.inl h1), by simp⟩
  stop := fun i H0' C H e c hm hi => by
    obtain ⟨vs, h1, h2⟩ := c.ok a _ hm
    exact ⟨vs, .inl (.inl h1), by rw [← h2.length, ← enumD_len ds 0]; exact hi⟩
  yld := fun i H0' C H x H' d e c hm hd ⟨Tp, z, e1, n, e2, q⟩ => by
    subst e1; subst e2
    obtain ⟨vs, h1, h2⟩ := c.ok a _ hm
    obtain ⟨y, g1, g2⟩ := enumD_get hd
    obtain ⟨v, f1, f2⟩ := h2.get g1
    have := q vs (.inl (.inl h1))
    rw [f1] at this; cases this
    subst g2
    rw [Nat.zero_add]
    exact pair_rep c n f2
theorem wi_enum {Q : QI} (hg : Gl X "enumerate") (hm : X.mg "enumerate" = none)
    (h : WE T e ρ C fun d C1 => ∃ ds, ((d = .lst ds ∨ d = .tup ds) ∧ Q (enumD 0 ds) (fun _ => True) C1) ∨ (∃ z, d = .raw (.ref z) ∧ (z, Cell.lst ds) ∈ C1 ∧ Q (enumD 0 ds) (fun C => (z, Cell.lst ds) ∈ C) C1))
    (hs : starEach [e] X.env = [(false, eval e X.env)] := by rfl) (hs2 : starEach [e] X.env = (false, eval e X.env) :: starEach [] X.env := by rfl) : WI T (.Tuple elts kk tpos) (.Call (.Name "enumerate" p) [e] [] pos) ρ C Q := by
  refine PI.imp (pi_enumT hg hm (pa_cons h pa_nil hs2) hs) fun σ H R ⟨H0, at_, k⟩ => ⟨H0, at_, fun v d C1 H1 H01 p1 c1 r1 ⟨ds, q1⟩ => ?_⟩
  rcases q1 with ⟨h1, q⟩ | ⟨z, e1, hz, q⟩
  · rcases h1 with h1 | h1
    · subst h1
      obtain ⟨a, vs, e2, g1, g2⟩ := r1
      subst e2
      exact ⟨a, vs, rfl, .inl ⟨Same.sqL c1.same g1, k _ _ _ C1 H1 H01 p1 c1 (yields_enumL g1 g2) q⟩⟩
    · subst h1
      obtain ⟨a, vs, e2, g1, g2⟩ := r1
      subst e2
      exact ⟨a, vs, rfl, .inr ⟨Same.sqT c1.same g1, k _ _ _ C1 H1 H01 p1 c1 (yields_enumT g1 g2) q⟩⟩
  · subst e1
    obtain rfl : v = .ref z := r1
    obtain ⟨vs, g1, g2⟩ := c1.ok z _ hz
    exact ⟨z, vs, rfl, .inl ⟨.inl (.inl g1), k _ _ _ C1 H1 H01 p1 c1 yields_enumC q⟩⟩
end
end Tr

set_option maxHeartbeats 2000000
namespace Tr
open PySem L2 PySem.Spec PyProof.Rows

section
variable {K : W.Frag} {x qual : Str} {args : Arguments} {body : List Stmt} {scope : Scope} {f T : Addr} {oc kV doc pm cdv ct oT : Value} {od an dT : Option Addr} {osl sT : Array (Option Value)} {its : List Value} {n : Nat} {dvs : List V} {fd : FuncData} {ps : List Str}
theorem binds_all (F : FunD K x qual args body scope dvs [] f fd) (n : Nat) (hn : n = ps.length) (hd : dvs ≠ [])
    (h : ∀ (T : Addr) (kV doc pm : Value) (an : Option Addr) (cdv ct : Value) (us its : List Value), us.length = n → its.length = dvs.length →
      ∃ k, bindArgs (W.fnOf x qual args body scope (.ref T) kV doc pm an cdv ct) ⟨us, []⟩ = seqItems? (.ref T) >>= k ∧ k (some its.toArray) = pure (ps.zip us)) : Binds K fd ps [] := by
  obtain ⟨ds, h1, h2⟩ := F.binds1 (ps := ps) n dvs.length hd (by omega) fun T kV doc pm an cdv ct us its hu hi => by
    obtain ⟨k, e1, e2⟩ := h T kV doc pm an cdv ct us its hu hi
    exact ⟨k, e1, by rw [e2, List.drop_of_length_le (by omega), List.append_nil]⟩
  rw [List.drop_length] at h1
  cases h1
  exact h2
theorem kit_ref {C : Addr} {t : Value} {b : Bool} {cd : ClassData} (cl : W.clsIn K C = some cd) (ty : W.typeIn K (.ref C) = some (.type "type")) (ss : W.subIn K t (.ref C) = some b) (ne : (t == .ref C) = false) : W.kitOne K t (.ref C) = some b := by
  unfold W.kitOne
  rw [ne]
  simp only [Bool.false_eq_true, if_false]
  unfold W.kitCls
  simp only [cl, ty, ss]
  rfl
theorem kit_self {C : Addr} : W.kitOne K (.ref C) (.ref C) = some true := by
  unfold W.kitOne
  simp
theorem rep_ktup {H : Hp} {a : Addr} {vs : List V} {ds : List D} (l : K.lookup a = some ⟨.type "tuple", od, .seq its.toArray n, osl⟩) (hz : its.length ≤ 100000) (hv : Vals vs its) (r : Reps K H ds vs) : Rep K H (.tup ds) (.ref a) :=
  ⟨a, vs, rfl, .inr ⟨_, _, n, l, rfl, rfl, Nat.le_trans (by simpa using hz) (show 100000 ≤ sizeLine by decide), by simpa using hv⟩, r⟩
end
end Tr

set_option maxHeartbeats 2000000
namespace Tr
open PySem L2 PySem.Spec PyProof.Rows
theorem nn {b : Bool} (h : ¬ (!b) = true) : b = true := by cases b with | true => rfl | false => exact absurd rfl h
theorem nd {p : Prop} [Decidable p] (h : ¬ (!decide p) = true) : p := of_decide_eq_true (nn h)
section
variable {X : Cx} {T : TX X} {ρ : Rho} {C : Cells} {Q : QE} {e a b c o : Expr} {pos p apos cpos tpos : Pos} {es elts : List Expr} {d d1 d2 : D} {ds ds2 : List D} {N N' : TEnds} {st : List Stmt}
theorem wt_chain2 {op op' : CmpOp} {Q : QT} (h : WE T a ρ C fun d1 C1 => WE T b ρ C1 fun d2 C2 => OW T (compareOp op) d1 d2 C2 fun d C3 => ∃ k, d = .bl k ∧ if k = true then WE T c ρ C3 (fun d3 C4 => OW T (compareOp op') d2 d3 C4 fun d C5 => ∃ k, d = .bl k ∧ Q k C5) else Q false C3)
    (hm : lastMarks [op, op'] [b, c] = false := by with_unfolding_all rfl) : WT T (.Compare a [op, op'] [b, c] pos) ρ C Q :=
  wt_chain h (pt_chain (op_some T _) (op_some T _) h (pe_some T ρ b) (pe_some T ρ c) hm)
theorem WSs.mono (h : WSs T st ρ C N) (n : ∀ ρ C, N.nx ρ C → N'.nx ρ C) (r : ∀ d C, N.rt d C → N'.rt d C) (b : ∀ ρ C, N.bk ρ C → N'.bk ρ C) (c : ∀ ρ C, N.ct ρ C → N'.ct ρ C) : WSs T st ρ C N' :=
  PSs.imp h fun Dn σ H ⟨H0, at_, k⟩ => ⟨H0, at_, ⟨fun ρ' σ' C' H' H0' p cc s l q => k.nx ρ' σ' C' H' H0' p cc s l (n _ _ q), fun v d C' H' H0' p cc rr q => k.rt v d C' H' H0' p cc rr (r _ _ q),
    fun ρ' σ' C' H' H0' p cc s l q => k.bk ρ' σ' C' H' H0' p cc s l (b _ _ q), fun ρ' σ' C' H' H0' p cc s l q => k.ct ρ' σ' C' H' H0' p cc s l (c _ _ q)⟩⟩
theorem WG.mono {tg : Expr} {Q Q' : QS} (h : WG T tg d ρ C Q) (i : ∀ ρ C, Q ρ C → Q' ρ C) : WG T tg d ρ C Q' :=
  PG.imp h fun v σ H R ⟨H0, at_, r, k⟩ => ⟨H0, at_, r, fun ρ' σ' C' H' H0' p cc s l q => k ρ' σ' C' H' H0' p cc s l (i _ _ q)⟩
theorem Yields.weak {K : W.Frag} {J : It} {H0 : Hp} {P P' : Cells → Prop} (y : Yields K J H0 P ds) (i : ∀ C, P' C → P C) : Yields K J H0 P' ds :=
  ⟨fun i' H0' C H e c p hi => y.go i' H0' C H e c (i C p) hi, fun i' H0' C H e c p hi => y.stop i' H0' C H e c (i C p) hi, fun i' H0' C H x H' d e c p hd hy => y.yld i' H0' C H x H' d e c (i C p) hd hy⟩
theorem hu_G {k : Nat} {A : Around} (r : RoomG k A) : A.units + 64 < cLine := by have := r.rm.un; omega
theorem eqv_strs : ∀ xs ys : List Str, PyData.eqvAll (toPys (xs.map D.str)) (toPys (ys.map D.str)) = decide (xs = ys)
  | [], [] => rfl
  | [], y :: ys => by simp [toPys, PyData.eqvAll]
  | x :: xs, [] => by simp [toPys, PyData.eqvAll]
  | x :: xs, y :: ys => by
    have ih := eqv_strs xs ys
    rw [List.map_cons, List.map_cons]
    unfold toPys
    rw [PyData.eqvAll, ih]
    unfold toPy
    rw [PyData.eqv]
    by_cases h1 : x = y <;> by_cases h2 : xs = ys <;> simp [h1, h2]
theorem lay_strs : ∀ {xs : List Str}, (∀ x ∈ xs, PyData.strOk x = true) → PyData.canLayAll0 (toPys (xs.map D.str)) = true ∧ PyData.depthAll (toPys (xs.map D.str)) = 0
  | [], _ => ⟨rfl, rfl⟩
  | x :: xs, h => by
    obtain ⟨h1, h2⟩ := lay_strs (xs := xs) fun y hy => h y (List.mem_cons_of_mem _ hy)
    rw [List.map_cons]
    unfold toPys
    refine ⟨?_, ?_⟩
    · rw [PyData.canLayAll0, h1]
      unfold toPy
      rw [PyData.canLay0, h x List.mem_cons_self]; rfl
    · rw [PyData.depthAll, h2]
      unfold toPy
      rw [PyData.depth]; rfl
theorem shaped_lstS {xs : List Str} (h : ∀ x ∈ xs, PyData.strOk x = true) : SeqAt.shaped (.list (toPys (xs.map D.str))) = true := by
  obtain ⟨h1, h2⟩ := lay_strs h
  unfold SeqAt.shaped
  rw [PyData.canLay0, h1, PyData.depth, h2]; rfl
theorem plain_strs : ∀ xs : List Str, plainDs (xs.map D.str) = true
  | [] => rfl
  | x :: xs => by rw [List.map_cons]; unfold plainDs; rw [plain_strs xs]; rfl
theorem pyR_l (h : LstD C d ds) (hp : plainDs ds = true) : PyR C d (.list (toPys ds)) := by
  rcases h with rfl | ⟨a, rfl, hm⟩
  · exact .inl ⟨hp, rfl⟩
  · exact .inr ⟨a, ds, rfl, hm, hp, rfl⟩
section
variable {xs ys : List Str} (hu : X.A.units + 64 < cLine) (hx : ∀ x ∈ xs, PyData.strOk x = true) (hy : ∀ x ∈ ys, PyData.strOk x = true)
include hu hx hy
end
theorem eqv_ints : ∀ xs ys : List Int, PyData.eqvAll (toPys (xs.map D.int)) (toPys (ys.map D.int)) = decide (xs = ys)
  | [], [] => rfl
  | [], y :: ys => by simp [toPys, PyData.eqvAll]
  | x :: xs, [] => by simp [toPys, PyData.eqvAll]
  | x :: xs, y :: ys => by
    have ih := eqv_ints xs ys
    rw [List.map_cons, List.map_cons]
    unfold toPys
    rw [PyData.eqvAll, ih]
    unfold toPy
    rw [PyData.eqv]
    by_cases h1 : x = y <;> by_cases h2 : xs = ys <;> simp [h1, h2]
theorem lay_ints : ∀ xs : List Int, PyData.canLayAll0 (toPys (xs.map D.int)) = true ∧ PyData.depthAll (toPys (xs.map D.int)) = 0
  | [] => ⟨rfl, rfl⟩
  | x :: xs => by
    obtain ⟨h1, h2⟩ := lay_ints xs
    rw [List.map_cons]
    unfold toPys
    refine ⟨?_, ?_⟩
    · rw [PyData.canLayAll0, h1]; rfl
    · rw [PyData.depthAll, h2]; rfl
theorem plain_ints : ∀ xs : List Int, plainDs (xs.map D.int) = true
  | [] => rfl
  | x :: xs => by rw [List.map_cons]; unfold plainDs; rw [plain_ints xs]; rfl
theorem shaped_lstI (xs : List Int) : SeqAt.shaped (.list (toPys (xs.map D.int))) = true := by
  obtain ⟨h1, h2⟩ := lay_ints xs
  unfold SeqAt.shaped
  rw [PyData.canLay0, h1, PyData.depth, h2]; rfl
theorem show_strs : ∀ {xs : List Str}, (∀ x ∈ xs, PyData.strOk x = true) →
    PyData.showableAll (toPys (xs.map D.str)) = true ∧ PyData.hasDictAll (toPys (xs.map D.str)) = false ∧ PyData.intsShortAll 8 (toPys (xs.map D.str)) = true ∧ PyData.weightAll (toPys (xs.map D.str)) = (xs.map (·.length)).sum + xs.length
  | [], _ => ⟨rfl, rfl, rfl, rfl⟩
  | x :: xs, h => by
    obtain ⟨h1, h2, h3, h4⟩ := show_strs (xs := xs) fun y hy => h y (List.mem_cons_of_mem _ hy)
    rw [List.map_cons]
    unfold toPys toPy
    refine ⟨?_, ?_, ?_, ?_⟩
    · rw [PyData.showableAll, h1]; rfl
    · rw [PyData.hasDictAll, h2]; rfl
    · rw [PyData.intsShortAll, h3]; rfl
    · rw [PyData.weightAll, h4, PyData.weight, List.map_cons, List.sum_cons, List.length_cons]
      show x.length + 1 + _ = _
      omega
def cutL {α : Type} (l : List α) (lo hi : Option Int) : List α := (l.drop (HT.sIx l.length 0 lo)).take (HT.sIx l.length l.length hi - HT.sIx l.length 0 lo)
theorem cutD_map {α : Type} (f : α → D) (l : List α) (lo hi : Option Int) : cutD (l.map f) lo hi = (cutL l lo hi).map f := by
  unfold cutD cutL
  rw [List.length_map, List.map_take, List.map_drop]
theorem stp_part {K : W.Frag} {H0 H : Hp} {C C' r : Cells} (c : CellsR K H0 C H) (pm : C.Perm (C' ++ r)) : Stp H0 C H H0 C' H ∧ CellsR K H0 C' H :=
  ⟨⟨Same.refl _, fun a o h _ => h, fun a h e n => ⟨e, fun ⟨x, hx⟩ => n ⟨x, pm.mem_iff.mpr (List.mem_append_left _ hx)⟩⟩⟩, c.part pm⟩
theorem wss_part {C' r : Cells} (pm : C.Perm (C' ++ r)) (h : WSs T st ρ C' N) : WSs T st ρ C N :=
  PSs.imp h fun Dn σ H ⟨H0, at_, k⟩ => let ⟨p, c⟩ := stp_part at_.c pm; ⟨H0, at_.step p c, k.after p c⟩
end
end Tr

set_option maxHeartbeats 2000000
namespace Tr
open PySem L2 PySem.Spec PyProof.Rows
section
variable {X : Cx} {T : TX X} {ρ : Rho} {C : Cells} {Q : QE} {e a b c o : Expr} {pos p apos cpos tpos px py pz pt : Pos} {es elts : List Expr} {d d1 d2 : D} {ds ds2 : List D} {N N' : TEnds} {st : List Stmt} {x y z : Str} {kt k2 : Nat} {pt2 : Pos}
theorem ws_par (i j : Nat) (hN : X.N.Nodup) (hi : X.N[i]? = some x) (hj : X.N[j]? = some y) (hij : i ≠ j) (hx : X.env.scope.names.lookup x = some .local) (hy : X.env.scope.names.lookup y = some .local)
    (hw : swappedStores [.Tuple [.Name x px, .Name y py] kt pt] (.Tuple [a, b] k2 pt2) X.env = pure (some [x, y]))
    (h : WA T [a, b] ρ C fun ds C1 => ∃ d1 d2, ds = [d1, d2] ∧ N.nx ((ρ.set i (some d1)).set j (some d2)) C1)
    (hs : swapsWithSole [.Tuple [.Name x px, .Name y py] kt pt] (.Tuple [a, b] k2 pt2) pos.line X.env = pure false := by rfl) (hc : X.calm = true := by rfl) :
    WS T (.Assign [.Tuple [.Name x px, .Name y py] kt pt] (.Tuple [a, b] k2 pt2) pos) ρ C N :=
  PS.imp (ps_par hc hN hi hj hij hx hy h hw hs) fun Dn σ H ⟨H0, at_, k⟩ => ⟨H0, at_, fun vs ds C1 H1 H01 p1 c1 r1 ⟨d1, d2, e1, q⟩ => by
    subst e1
    obtain ⟨v, w, e2, g1, g2⟩ := r1.two
    subst e2
    have at1 := at_.step p1 c1
    refine ⟨v, w, rfl, (k.after p1 c1).nx _ _ C1 H1 H01 (Stp.refl _ _ _) c1 (SlotsR.set j (SlotsR.set i at1.s g1 at1.l) g2 (by rw [List.length_set, List.length_set]; exact at1.l)) (by simp only [List.length_set]; exact at1.l) q⟩⟩
theorem ow_ne_bl {x y : Bool} (q : Q (.bl (x != y)) C) : OW T (compareOp .NotEq) (.bl x) (.bl y) C Q :=
  ow_look (d := .bl (x != y)) op_ne (fun u v H H0 c r1 r2 => by cases r1; cases r2; exact ⟨.bl (x != y), rfl, fun R k => ⟨rfl, by
    rw [show (!decide (V.bl x = V.bl y)) = (x != y) by cases x <;> cases y <;> decide]; exact k⟩⟩) q
theorem ow_eq_bl {x y : Bool} (q : Q (.bl (x == y)) C) : OW T (compareOp .Eq) (.bl x) (.bl y) C Q :=
  ow_look (d := .bl (x == y)) op_eq (fun u v H H0 c r1 r2 => by cases r1; cases r2; exact ⟨.bl (x == y), rfl, fun R k => ⟨rfl, by
    rw [show decide (V.bl x = V.bl y) = (x == y) by cases x <;> cases y <;> decide]; exact k⟩⟩) q
theorem we_frzI (h : WE T e ρ C fun d C1 => ∃ (i : Nat) (z Cl : Addr) (ns : List Str) (ds : List D), d = .raw (.ref z) ∧ C1[i]? = some (z, .ins Cl ns ds) ∧ Q (.ins Cl ns ds) (C1.eraseIdx i)) : WE T e ρ C Q :=
  we_frz (h.mono fun d C1 ⟨i, z, Cl, ns, ds, h1, h2, h3⟩ => ⟨i, z, _, h1, h2, h3⟩)
end
end Tr

set_option maxHeartbeats 4000000
namespace Tr
open PySem L2 PySem.Spec PyProof.Rows

section
variable {prog : Program} {w : World} {A : Around} {E : Value → Shared → Prop} {R : Result → Shared → Prop} {hp : Heap} {g : Array GenState} {d : Drawn} {t : Nat} {os : OsState}
variable {nm q : Str} {C N : Addr} {bs bm bmB : List Value} {hdct : Bool} {sn : List Str} {sub : List Value} {ab : Bool} {col : Option Bool} {dd : Option Addr} {k0 k1 k2 k3 k5 : Option Value} {B newId initId : String}
structure IniF (B initId : String) : Prop where
  pl : plainId initId = true
  en : entryFor table initId = some Builtin.«BaseException.__init__»
  ki : builtinKind initId = some .slot
  ro : Manifest.signature? initId = some ⟨.positional, "*", B, .self, [⟨"args", .varPos, false⟩]⟩
  ns : (B != "*") = true
theorem IniF.of {Z nI iI : String} (F : ExcCallFacts Z nI iI) : IniF Z iI := ⟨F.init.plain, F.initEntry, F.initKind, F.initRow, F.noStar⟩
theorem chk_ini (I : IniF B initId) {M : Model} {e : Addr} {oe : Obj} {us : List Value} {Z : Unit → Shared → Prop}
    (gC : hp.get? C = some (excClassObj nm q C N bs bm hdct sn sub ab col dd k0 k1 k2 k3 k5 newId)) (ge : hp.get? e = some oe) (ec : oe.cls = .ref C) (z : Z () ⟨hp, g, d, t, os⟩) : wpAny M A (checkBoundCall initId ⟨.ref e :: us, []⟩) Z E ⟨hp, g, d, t, os⟩ := by
  have ns := I.ns
  simp only [checkBoundCall, I.ki, I.ro]
  repeat (first | (with_reducible refine wpAny_loadPart_at ge ?_; rw [ec]) | with_reducible refine wpAny_loadPart_at gC ?_ | wp_step)
  refine wpAny_onRaise ?_
  rw [show ∀ (a b : String) (n : Nat), Bind.check ⟨.positional, "*", B, .self, [⟨"args", .varPos, false⟩]⟩ a b n (List.map (fun x => x.fst) ({ pos := Value.ref e :: us } : Args).kw) = pure () from fun a b n => check_star_args _ _ _ _ _ _]
  exact wpAny_pure z
theorem call_mwI (FB : IniF B initId) {u e t0 : Addr} {rest : List Value} {Q : Value → Shared → Prop}
    (hC : hp.get? C = some (excClassObj nm q C N bs bm hdct sn sub ab col dd k0 k1 k2 k3 k5 newId)) (he : hp.get? e = some (HandSPX.excO C t0)) (hu : hp.get? u = some (W.kxs_mw initId e)) (hrest : rest.length ≤ sizeLine)
    (hq : ∀ h' t1, (∀ b o, b ≠ e → hp.get? b = some o → h'.get? b = some o) → h'.get? e = some (HandSPX.excO C t1) → Q .none ⟨h', g, d, t, os⟩) :
    wpAny (model prog w) A (call (.ref u) rest) Q E ⟨hp, g, d, t, os⟩ := by
  refine wpAny_call (codeAny_of_tree ?_)
  show wpAny _ A.in1 (callAny (.ref u) ⟨rest, []⟩) _ _ _
  simp only [callAny]
  refine wpAny_bind (wpAny_load hu ?_)
  simp only [W.kxs_mw, show (Value.type "method-wrapper" == Value.type "method" || Value.type "method-wrapper" == Value.type "builtin_function_or_method" || Value.type "method-wrapper" == Value.type "method-wrapper") = true by decide, if_true]
  refine W.KFB.if_so (by decide) ?_
  refine wpAny_bind (chk_ini FB hC he rfl ?_)
  refine wpAny_bind (wpAny_pure (wpAny_pure ?_))
  refine ⟨plainId_quiet FB.pl _, codeAny_builtin FB.en ?_⟩
  rw [Around.under_plainId FB.pl _]
  wp_walk
  refine hq _ hp.objs.size (fun b o hb ho => ?_) ?_
  · rw [Heap.get?_update_other _ _ (Ne.symm hb)]
    exact Heap.get?_push_of_some _ ho
  · rw [Heap.get?_update_self _ (Heap.get?_push_of_some _ he) rfl]
    rfl
structure NewT (Z : String) (bm : List Value) : Prop where
  b : bm.contains (.type Z) = true
  a : bm.contains (.type "AttributeError") = false
  n : bm.contains (.type "NameError") = false
theorem chk_new {nI iI : String} {bmZ : List Value} (F : ExcBaseFacts B nI iI bmZ) (H : NewT B bm) {us : List Value} {Z : Unit → Shared → Prop}
    (gC : hp.get? C = some (excClassObj nm q C N bs bm hdct sn sub ab col dd k0 k1 k2 k3 k5 nI)) (z : Z () ⟨hp, g, d, t, os⟩) : wpAny (model prog w) A (checkBuiltinCall nI ⟨.ref C :: us, []⟩) Z E ⟨hp, g, d, t, os⟩ := by
  have c1 : (Value.ref C :: bm).contains (.type B) = true := by rw [List.contains_cons, H.b, Bool.or_true]
  have c2 := F.noStar
  simp only [checkBuiltinCall, F.newKind, F.newSplit, F.newRow]
  repeat (first | refine wpAny_loadPart_at gC ?_ | (refine wpAny_isSubtype_exc gC ?_; rw [c1]) | refine wpAny_staticBase_exc gC ?_ | refine wpAny_madeBy_exc gC ?_ | simp only [bne_self_eq_false, Bool.false_eq_true, if_false] | wp_step)
  exact z
theorem new_run {nI iI : String} {bmZ : List Value} (F : ExcBaseFacts B nI iI bmZ) (H : NewT B bm) {us : List Value}
    (gC : hp.get? C = some (excClassObj nm q C N bs bm hdct sn sub ab col dd k0 k1 k2 k3 k5 nI)) (hl : us.length ≤ sizeLine)
    (z : R (.ok (.ret (.ref (hp.objs.size + 1)))) ⟨(hp.push (W.kdv_tup us)).push (HandSPX.excO C hp.objs.size), g, d, t, os⟩) : codeAny (model prog w) A (.builtin nI ⟨.ref C :: us, []⟩) R ⟨hp, g, d, t, os⟩ := by
  have e0 := F.ends
  have c1 : (Value.ref C :: bm).contains (.type B) = true := by rw [List.contains_cons, H.b, Bool.or_true]
  have c2 : (Value.ref C :: bm).contains (.type "AttributeError") = false := by rw [List.contains_cons, H.a]; rfl
  have c3 : (Value.ref C :: bm).contains (.type "NameError") = false := by rw [List.contains_cons, H.n]; rfl
  refine codeAny_builtinAt F.entry ?_
  unfold Builtin.«BaseException.__new__»
  refine _root_.PySem.wpAt_bind ?_
  show _root_.PySem.wpAt _ _ _ (stack >>= _) _ _ _
  refine _root_.PySem.wpAt_bind (_root_.PySem.wpAt_stack fun p0 b0 => _root_.PySem.wpAt_of_wpAny ?_)
  wp_walk
  refine _root_.PySem.wpAt_of_wpAny ?_
  rw [F.owner]
  repeat (first | with_reducible refine wpAny_madeHere_exc F.canon gC ?_ | with_reducible refine wpAny_loadPart_at gC ?_ | (with_reducible refine wpAny_isSubtype_exc gC ?_; first | rw [c1] | rw [c2] | rw [c3]) | wp_step)
  show R _ _
  rw [Heap.size_push]
  exact z
theorem tcall_run {nI iI : String} {bmZ : List Value} (F : ExcBaseFacts B nI iI bmZ) (H : NewT B bm) {us : List Value} {fI : Addr} {Z : Fin → Shared → Prop}
    (gC : hp.get? C = some (excClassObj nm q C N bs bm hdct sn sub ab col dd k0 k1 k2 k3 k5 nI)) (li : W.Looks (model prog w) hp (typeLookup (.ref C) "__init__") (some (.ref fI)))
    (lb : ∀ self, W.Looks (model prog w) hp (bindSpecial (.ref fI) self) (.ref fI, [self])) (hl : us.length ≤ sizeLine)
    (z : codeAny (model prog w) A (.call (.ref fI) ⟨.ref (hp.objs.size + 1) :: us, []⟩) (fun r s' => match r with | .ok (.ret v) => v = .none ∧ Z (.done (.ret (.ref (hp.objs.size + 1)))) s' | .ok _ => False | .error e => E e s')
      ⟨(hp.push (W.kdv_tup us)).push (HandSPX.excO C hp.objs.size), g, d, t, os⟩) : wpAny (model prog w) A (Builtin.«type.__call__» ⟨.ref C :: us, []⟩) Z E ⟨hp, g, d, t, os⟩ := by
  repeat (first | with_reducible refine wpAny_loadPart_at gC ?_ | with_reducible refine wpAny_madeBy_exc gC ?_ | wp_step)
  refine codeAny_call_builtin_code (Code.quiet_builtin _ F.quiet) (chk_new F H gC ?_)
  refine new_run F H gC hl ?_
  show wpAny _ _ _ _ _ _
  have kk : ∀ b o, hp.get? b = some o → ((hp.push (W.kdv_tup us)).push (HandSPX.excO C hp.objs.size)).get? b = some o := fun b o y => Heap.get?_push_of_some _ (Heap.get?_push_of_some _ y)
  have gC' := kk _ _ gC
  have ge : ((hp.push (W.kdv_tup us)).push (HandSPX.excO C hp.objs.size)).get? (hp.objs.size + 1) = some (HandSPX.excO C hp.objs.size) := by heap_get
  have cc : (Value.ref C :: bm).contains (.ref C) = true := by simp
  have i2 := li.keeps kk
  have b2 := (lb (.ref (hp.objs.size + 1))).keeps kk
  unfold isInstance
  repeat (first | with_reducible refine wpAny_loadPart_at ge ?_ | (with_reducible refine wpAny_isSubtype_exc gC' ?_; rw [cc]) | wp_step)
  show wpAny _ _ (typeLookup (.ref C) _) _ _ _
  refine i2.at ?_
  refine wpAny_holding (wpAny_bind (b2.at ?_))
  refine wpAny_bind (wpAny_call (codeAny_mono z fun r s' y => ?_))
  rcases r with er | (v | _ | _ | _) <;> first | exact y | exact y.elim | skip
  obtain ⟨rfl, y⟩ := y
  first
    | exact wpAny_pure (wpAny_pure y)
    | (wp_walk; exact y)
theorem make_run {nI iI : String} {bmZ : List Value} (F : ExcBaseFacts B nI iI bmZ) (H : NewT B bm) {us : List Value} {fI : Addr}
    (gC : hp.get? C = some (excClassObj nm q C N bs bm hdct sn sub ab col dd k0 k1 k2 k3 k5 nI)) (li : W.Looks (model prog w) hp (typeLookup (.ref C) "__init__") (some (.ref fI)))
    (lb : ∀ self, W.Looks (model prog w) hp (bindSpecial (.ref fI) self) (.ref fI, [self])) (hl : us.length ≤ sizeLine)
    (z : codeAny (model prog w) (A.under (.builtin "type.__call__" ⟨.ref C :: us, []⟩)) (.call (.ref fI) ⟨.ref (hp.objs.size + 1) :: us, []⟩) (W.InitBack (hp.objs.size + 1) R)
      ⟨(hp.push (W.kdv_tup us)).push (HandSPX.excO C hp.objs.size), g, d, t, os⟩) : codeAny (model prog w) A (.call (.ref C) ⟨us, []⟩) R ⟨hp, g, d, t, os⟩ := by
  have l1 := tc_lookup
  have l2 := tc_bind (.ref C)
  have ty : (⟨hp, g, d, t, os⟩ : Shared).TypeIs (.ref C) "type" := ⟨_, gC, rfl⟩
  refine codeAny_of_tree ?_
  show wpAny _ _ (callAny (.ref C) _) _ _ _
  repeat (any_goals (first | assumption | with_reducible refine wpAny_loadPart_at gC ?_ | wp_step))
  refine ⟨rfl, ?_⟩
  refine codeAny_call_builtin_at (Code.quiet_builtin _ (by decide +kernel)) _root_.PySem.entry_typeCall (_root_.PySem.wpAny_check_type_call_sub gC (tcall_run F H gC li lb hl ?_))
  refine codeAny_mono z fun r s' y => ?_
  rcases r with er | (v | _ | _ | _) <;> exact y
end
structure XFacts (B newId initId : String) (bmB : List Value) : Prop where
  fb : ∃ Z iI bmZ, ExcBaseFacts Z newId iI bmZ ∧ NewT Z bmB
  ini : IniF B initId
  kf : W.KxsFacts B initId
  pass : ∀ self : Value, refuseLoop self "__setattr__" bmB = pure ()
  ob : bmB.contains (.type "object") = true
theorem NewT.tail {Z : String} {bmB bm : List Value} (h : NewT Z bmB) (x : W.excTail bmB bm = true) : NewT Z bm := ⟨by rw [W.excTail_contains Z bm x]; exact h.b, by rw [W.excTail_contains _ bm x]; exact h.a, by rw [W.excTail_contains _ bm x]; exact h.n⟩
structure OexT (K : W.Frag) (C : Addr) (newId : String) (bmB : List Value) : Prop where
  cls : ∃ nm q N bs bm sn sub ab col dd k0 k1 k2 k3 k5, K.lookup C = some (excClassObj nm q C N bs bm true sn sub ab col dd k0 k1 k2 k3 k5 newId) ∧ W.excTail bmB bm = true
  st : W.findIn K (.ref C) "__setattr__" = some (some (.builtin "object.__setattr__"))
  bx : W.subIn K (.ref C) (.type "BaseException") = some true
  ty : W.typeIn K (.ref C) = some (.type "type")
  kp : W.keepIn K (.ref C) = true
section
variable {prog : Program} {w : World} {A : Around} {R : Result → Shared → Prop} {hp : Heap} {g : Array GenState} {d : Drawn} {t : Nat} {os : OsState}
open HandSPX Builtin Builtin.ObjectAttr in
theorem osaT {K : W.Frag} {nmF : Str} {tkF : Tok} {val : Value} {ex Cx' : Addr} {fvs : Array Value} {cdt : ClassData} {bmB : List Value} (kIn : K.In hp) (gx : hp.get? ex = some { cls := .ref Cx', data := .fields fvs }) (ccd : W.clsIn K Cx' = some cdt)
    (tl : W.excTail bmB cdt.mro = true) (ps : ∀ self : Value, refuseLoop self "__setattr__" bmB = pure ()) (ob : bmB.contains (.type "object") = true) (dct : cdt.hasDict = true) (no : W.findIn K (.ref Cx') nmF = some none)
    (fin : ∀ h' tk' dx, (∀ b o, b ≠ ex → hp.get? b = some o → h'.get? b = some o) → hp.objs.size ≤ dx → dx ≠ ex → h'.get? ex = some { cls := .ref Cx', dict := some dx, data := .fields fvs } → h'.Ns1 dx (fun y => if y = nmF then some val else none) → R (.ok (.ret .none)) ⟨h', g, d, tk', os⟩) :
    codeAny (model prog w) A (.call (.builtin "object.__setattr__") ⟨[.ref ex, .str nmF tkF, val], []⟩) R ⟨hp, g, d, t, os⟩ := by
  have J : W.InstAt hp ex { cls := .ref Cx', data := .fields fvs } Cx' none := ⟨gx, rfl, rfl, trivial⟩
  have hob : cdt.mro.contains (.type "object") = true := by rw [W.excTail_contains "object" _ tl]; exact ob
  have ne : cdt.mro.isEmpty = false := by
    cases e : cdt.mro with
    | nil => rw [e] at hob; cases hob
    | cons _ _ => rfl
  have nx : ex ≠ hp.objs.size := fun z => absurd (Heap.lt_size gx) (by rw [← z]; exact Nat.lt_irrefl _)
  have ro : W.mroIn K Cx' (.type "object") = some true := by unfold W.mroIn; rw [ccd, Option.bind_some, if_neg (by rw [ne]; decide), hob]
  have SO := F.store_object
  refine codeAny_call_builtin SO.slot.plain SO.entry ?_
  refine (@W.check_slot (model prog w) _ _ ⟨hp, g, d, t, os⟩ "object.__setattr__" "object" "__setattr__" (.ref ex) [.str nmF tkF, val] [] _ SO.kind SO.split (J.type.andThen (W.looks_mroIn kIn ro)) (SO.args (.ref ex) (.str nmF tkF) val) ?_)
  have l1 : W.Looks (model prog w) hp (mroOf (.ref Cx')) cdt.mro := (W.looks_clsIn kIn ccd).andThen .now
  have l2 : W.Looks (model prog w) hp (storeTaker? none) none := .now
  have l3 : W.Looks (model prog w) hp (classData Cx') cdt := W.looks_clsIn kIn ccd
  rw [W.osa_eq, refuse_eq]
  refine wpAny_bind (wpAny_bind (J.type.at (wpAny_bind (l1.at ?_))))
  rw [W.excTail_pass _ (ps _) _ tl]
  refine wpAny_pure (wpAny_bind (J.type.at (wpAny_bind ((W.looks_findIn kIn no).at (wpAny_bind (l2.at ?_))))))
  show wpAny _ _ (storeInOwnDict (.ref ex) (.ref Cx') (.str nmF tkF) nmF val false) _ _ _
  obtain ⟨a1, a2, a3, a4, a5, a6, a7, a8, a9, a10, a11⟩ := cdt
  obtain rfl : a6 = true := dct
  unfold storeInOwnDict ownDictForStores
  repeat (first | with_reducible refine store_in_new ?_ ?_ | with_reducible refine wpAny_loadPart_at gx ?_ | with_reducible refine l3.at ?_ | wp_step)
  · exact ⟨_, #[], _, (Heap.get?_update_ne _ _ _ _ nx.symm).trans (Heap.get?_push_at rfl rfl), rfl, fun e he => absurd he (by simp), fun _ => rfl⟩
  intro h' tk' hn' hs
  have gx1 : (hp.push { cls := .type "dict", data := .dict #[] }).get? ex = some { cls := .ref Cx', data := .fields fvs } := Heap.get?_push_of_some _ gx
  refine fin h' tk' hp.objs.size (fun b o hb ho => ?_) (Nat.le_refl _) nx.symm ?_ hn'
  · exact (hs.2 b fun z => absurd (Heap.lt_size ho) (by rw [z]; exact Nat.lt_irrefl _)).trans ((Heap.get?_update_ne _ _ _ _ hb).trans (Heap.get?_push_of_some _ ho))
  · exact (hs.2 ex nx).trans (Heap.get?_update_self _ gx1 rfl)
end
section
variable {prog : Program} {w : World} {A : Around} {R : Result → Shared → Prop} {hp : Heap} {g : Array GenState} {d : Drawn} {t : Nat} {os : OsState} {K : W.Frag} {mg mb : Str → Option Value}
variable {nm q : Str} {C N fI cda cc a t0 : Addr} {bs bm bmB : List Value} {sn : List Str} {sub : List Value} {ab : Bool} {col : Option Bool} {dd od an cdd cld : Option Addr} {k0 k1 k2 k3 k5 : Option Value} {B newId initId : String}
variable {name qual selfN argN fld file : Str} {params : Arguments} {body : List Stmt} {scope : Scope} {oc kV doc pm ct ccl cl v : Value} {osl ccs csl : Array (Option Value)} {vs : Array Value} {tf : Tok} {ar : Arg} {p0 p1 p2 p3 p4 p5 p6 p7 p8 p9 : Pos}
theorem sup_init (XF : XFacts B newId initId bmB) (X : K.In hp) (hg : hp.Ns mainGlobals mg) (hb : hp.Ns builtinsNs mb) (hbb : ∀ x : Str, x ≠ "__name__" → mb x = bootBuiltins x) (hlim : hp.NoLimit)
    (hC : K.lookup C = some (excClassObj nm q C N bs bm true sn sub ab col dd k0 k1 k2 k3 k5 newId)) (hm : W.excTail bmB bm = true) (sa : W.findIn K (.ref C) "__setattr__" = some (some (.builtin "object.__setattr__"))) (hno : W.findIn K (.ref C) fld = some none)
    (lf : K.lookup fI = some ⟨oc, od, .func (W.ksFn name qual params body scope .none kV doc pm an (.ref cda) ct cc), osl⟩)
    (lcd : K.lookup cda = some ⟨ccl, cdd, .fields vs, ccs⟩) (hvs : vs[2]? = some (.str file tf)) (hfile : ((prog.main.file : Str) == file) = true) (hcdin : W.codeIn K (.ref cda) qual = true)
    (lcc : K.lookup cc = some ⟨cl, cld, .cell (some (.ref C)), csl⟩) (hsup : mg "super" = none) (hks : scope.names.lookup ("super" : Str) = some .globalImplicit) (hkc : scope.names.lookup ("__class__" : Str) = some .free) (hk : scope.kind = .function)
    (hself : scope.names.lookup selfN = some .local) (harg : scope.names.lookup argN = some .local) (hne : argN ≠ selfN) (hds : (selfN == ("__debug__" : Str)) = false) (hda : (argN == ("__debug__" : Str)) = false)
    (hpar : (params.posonlyargs ++ params.args).head? = some ar) (har : ar.arg = selfN) (hcell : ∀ x ∈ scope.names, x.2 ≠ .cell) (hco : scope.isCoroutine = false) (hgen : scope.isGenerator = false)
    (hbind : ∀ s, BindsTo s (W.ksFn name qual params body scope .none kV doc pm an (.ref cda) ct cc) ⟨[.ref a, v], []⟩ [(selfN, .ref a), (argN, v)])
    (htop : (prog.main.scope.names.lookup ("super" : Str)).isSome = false) (hop : W.nsIn K cStatics "thirdparty.any" = some none) (hal : W.ks_superIn K C C "__init__" = some (some (.builtin initId))) (hBs : W.subIn K (.ref C) (.type B) = some true)
    (hbody : body = [.Expr (.Call (.Attribute (.Call (.Name "super" p0) [] [] p1) "__init__" p2) [.Name argN p3] [] p4) p5, .Assign [.Attribute (.Name selfN p6) fld p7] (.Name argN p8) p9]) (hroom : A.depth < recursionLimit)
    (hi : ∀ L, interactive (W.ksEnv qual scope L fI (.ref cda) cc) = false) (hsw1 : ∀ L, swapsWith (.Call (.Attribute (.Call (.Name "super" p0) [] [] p1) "__init__" p2) [.Name argN p3] [] p4) none p5.line (W.ksEnv qual scope L fI (.ref cda) cc) = pure false)
    (hsw2 : ∀ L, swapsWith (.Name argN p8) (some (.Attribute (.Name selfN p6) fld p7)) p9.line (W.ksEnv qual scope L fI (.ref cda) cc) = pure false)
    (pl : Addr → Sem Bool) (hev : ∀ L, eval (.Call (.Attribute (.Call (.Name "super" p0) [] [] p1) "__init__" p2) [.Name argN p3] [] p4) (W.ksEnv qual scope L fI (.ref cda) cc) = (do
      let ov ← attributeBase (.Call (.Name "super" p0) [] [] p1) "__init__" (W.ksEnv qual scope L fI (.ref cda) cc) (eval (.Call (.Name "super" p0) [] [] p1) (W.ksEnv qual scope L fI (.ref cda) cc))
      standAt p2.atName
      let (f, first) ← holding [ov] (getMethod ov "__init__" (pl L))
      callWith p4 f first (backTo p4 (starEach [.Name argN p3] (W.ksEnv qual scope L fI (.ref cda) cc))) []))
    (ha : hp.get? a = some (HandSPX.excO C t0)) (hKa : K.lookup a = none)
    (hq : ∀ h' tk' dx t1, (∀ b o, b ≠ a → hp.get? b = some o → h'.get? b = some o) → hp.objs.size ≤ dx → dx ≠ a → h'.get? a = some { cls := .ref C, dict := some dx, data := .fields #[.ref t1, .none, .none, .none, .bool false, .none] } →
      h'.Ns1 dx (fun y => if y = fld then some v else none) → R (.ok (.ret .none)) ⟨h', g, d, tk', os⟩) :
    codeAny (model prog w) A (.call (.ref fI) ⟨[.ref a, v], []⟩) R ⟨hp, g, d, t, os⟩ := by
  subst hbody
  have FB := XF.ini
  have KF := XF.kf
  have ca : W.clsIn K C = some { name := nm, bases := bs, mro := .ref C :: bm, ns := N, qualname := q, hasDict := true, slotNames := sn, subclasses := sub, abstract := ab, collection := col, hasDel := false } := by unfold W.clsIn; rw [hC] <;> rfl
  refine PySem.ks_codeAny_call_defAt (fd := W.ksFn name qual params _ scope .none kV doc pm an (.ref cda) ct cc) (binds := [(selfN, .ref a), (argN, v)]) hroom (X _ _ lf) rfl hlim (W.codeRec_of X hcdin) rfl (hbind _) hcell ?_ (fun h₁ hns hk₁ => ?_) hco hgen hk
  · intro x hx
    rcases List.mem_cons.mp hx with rfl | hx
    · exact hself
    · rw [List.mem_singleton.mp hx]; exact harg
  have X₁ : K.In h₁ := X.keeps hk₁
  have hs1 : (([(selfN, Value.ref a), (argN, v)] : List (Str × Value)).reverse.lookup selfN) = some (.ref a) := by
    show List.lookup selfN [(argN, v), (selfN, Value.ref a)] = _
    rw [List.lookup_cons, show (selfN == argN) = false from by simpa using Ne.symm hne, List.lookup_cons, beq_self_eq_true]
  have hs2 : (([(selfN, Value.ref a), (argN, v)] : List (Str × Value)).reverse.lookup argN) = some v := by
    show List.lookup argN [(argN, v), (selfN, Value.ref a)] = _
    rw [List.lookup_cons, beq_self_eq_true]
  refine PySem.ks_wpAt_execs_cons ?_
  show _root_.PySem.wpAt _ _ _ (exec _ (W.ksEnv qual scope hp.objs.size fI (.ref cda) cc)) _ _ _
  refine PySem.ks_wpAt_Expr_any (PySem.ks_wpAt_MethodCall (pl := pl hp.objs.size) ?_ (hev _)) (hi _) (hsw1 _)
  have ha₁ : h₁.get? a = some (HandSPX.excO C t0) := hk₁ _ _ ha
  have I₁ : W.InstAt h₁ a (HandSPX.excO C t0) C none := ⟨ha₁, rfl, rfl, trivial⟩
  obtain ⟨hf1, hf2⟩ : (∃ oD, h₁.get? C = some oD ∧ oD.data = .cls { name := nm, bases := bs, mro := .ref C :: bm, ns := N, qualname := q, hasDict := true, slotNames := sn, subclasses := sub, abstract := ab, collection := col, hasDel := false }) ∧ True := ⟨⟨_, X₁ _ _ hC, rfl⟩, trivial⟩
  obtain ⟨oD, hD1, hD2⟩ := hf1
  have hsubC : W.mroIn K C (.ref C) = some true := by
    unfold W.mroIn
    rw [ca]
    simp
  refine PySem.ks_wpAt_super_base (env := W.ksEnv qual scope hp.objs.size fI (.ref cda) cc) hks hkc (by decide) rfl (X₁ _ _ lf) rfl hpar rfl (X₁ _ _ lcd) rfl hvs hfile htop ?_
  refine W.ks_loadName_global hk hks (Calls.loadGlobal_builtin (env := W.ksEnv qual scope hp.objs.size fI (.ref cda) cc) (hg.keeps hk₁) hsup (hb.keeps hk₁) ((hbb _ (by decide +kernel)).trans (by decide +kernel)) ⟨rfl, ?_⟩)
  refine wpAny_loadName_free hk hkc rfl ⟨_, X₁ _ _ lcc, rfl⟩ ?_
  rw [har]
  refine wpAny_loadName_local hk hself hns hs1 ?_
  refine ks_wpAny_isType_cls hD1 hD2 ⟨rfl, ?_⟩
  refine ks_wpAny_call_super hD1 hD2 ha₁ rfl (fun c e => by cases e) (W.looks_mroIn X₁ hsubC) (fun h₂ e₂ k₂ => ?_)
  have X₂ : K.In h₂ := X₁.keeps k₂
  have ha₂ := k₂ _ _ ha₁
  have I₂ : W.InstAt h₂ a (HandSPX.excO C t0) C none := ⟨ha₂, rfl, rfl, trivial⟩
  have hal' := hal
  unfold W.ks_superIn at hal'
  rw [ca] at hal'
  have mroL : ∀ {h : Heap}, K.In h → W.Looks (model prog w) h (mroOf (.ref C)) (.ref C :: bm) := fun Xh => (W.looks_clsIn Xh ca).andThen .now
  refine W.kxs_getMethod KF e₂ (W.looks_opaque X₂ hop) (mroL X₂) rfl X₂ hal' (I₂.type.andThen (W.looks_subIn X₂ hBs)) (W.ks_ne X₂ I₂ ca) rfl ?_
  have k₃ : ∀ y o, h₂.get? y = some o → (h₂.push (W.kxs_mw initId a)).get? y = some o := fun y o e => Heap.get?_push_of_some _ e
  have hu : (h₂.push (W.kxs_mw initId a)).get? h₂.objs.size = some (W.kxs_mw initId a) := Heap.get?_push_at rfl rfl
  have hns₃ := (hns.keeps k₂).keeps k₃
  refine W.kxs_callWith (i := initId) (x := a) (by rfl) (Calls.evalArgs_plain (Calls.spliced_cons (wpAny_Name (wpAny_loadName_local hk harg hns₃ hs2 (Calls.spliced_nil ⟨hu, ?_⟩)) hda)))
  refine call_mwI FB (X₂.keeps k₃ _ _ hC) (k₃ _ _ ha₂) hu (by show 1 ≤ sizeLine; decide) (fun h₄ t1 k₄ ha₄ => ?_)
  have nC : C ≠ a := fun z => by
    have e1 := X _ _ hC
    rw [z, ha] at e1
    cases e1
  have keepAll : ∀ b o, b ≠ a → hp.get? b = some o → h₄.get? b = some o := fun b o nb e => k₄ b o nb (k₃ _ _ (k₂ _ _ (hk₁ _ _ e)))
  have hL : hp.objs.size ≠ a := Ne.symm (Nat.ne_of_lt (Heap.lt_size ha))
  have X₄ : K.In h₄ := fun b o e => keepAll b o (fun z => by rw [z, hKa] at e; cases e) (X _ _ e)
  obtain ⟨oL, esL, epL, hoL, rL⟩ := hns₃
  have hns₄ : h₄.Ns hp.objs.size fun x => ([(selfN, Value.ref a), (argN, v)] : List (Str × Value)).reverse.lookup x := ⟨oL, esL, epL, k₄ _ _ hL hoL, rL⟩
  have sz₄ : hp.objs.size ≤ h₄.objs.size := Nat.le_of_lt (Heap.lt_size (k₄ _ _ hL hoL))
  show _root_.PySem.wpAt _ _ _ (execs _ (W.ksEnv qual scope hp.objs.size fI (.ref cda) cc)) _ _ _
  refine PySem.ks_wpAt_execs_cons (PySem.ks_wpAt_Assign_Attr (wpAt_of_wpAny (wpAny_Name (wpAny_loadName_local hk harg hns₄ hs2 (wpAny_Name (wpAny_loadName_local hk hself hns₄ hs1 ?_) hds)) hda)) (hsw2 _))
  refine W.set_plain X₄ (ox := HandSPX.excO C t1) (od := none) ⟨ha₄, rfl, rfl, trivial⟩ sa ?_
  refine osaT X₄ ha₄ ca (show W.excTail bmB (.ref C :: bm) = true from hm) XF.pass XF.ob rfl hno (fun h' tk' dx k₅ dn dne hx hn => ?_)
  show _root_.PySem.wpAt _ _ _ (execs [] (W.ksEnv qual scope hp.objs.size fI (.ref cda) cc)) _ _ _
  refine wpAt_of_wpAny ?_
  show wpAny _ _ (pure Flow.next) _ _ _
  refine wpAny_pure ?_
  exact hq h' tk' dx t1 (fun b o nb e => k₅ b o nb (keepAll b o nb e)) (Nat.le_trans sz₄ dn) dne hx hn
end
def SupRun (prog : Program) (K : W.Frag) (mg : Str → Option Value) (C fI : Addr) (fld : Str) : Prop :=
  ∀ (w : World) (A : Around) (R : Result → Shared → Prop) (hp : Heap) (g : Array GenState) (d : Drawn) (t : Nat) (os : OsState) (mb : Str → Option Value) (a t0 : Addr) (v : Value),
    K.In hp → hp.Ns mainGlobals mg → hp.Ns builtinsNs mb → (∀ x : Str, x ≠ "__name__" → mb x = bootBuiltins x) → hp.NoLimit → A.depth < recursionLimit → hp.get? a = some (HandSPX.excO C t0) → K.lookup a = none →
    (∀ h' tk' dx t1, (∀ b o, b ≠ a → hp.get? b = some o → h'.get? b = some o) → hp.objs.size ≤ dx → dx ≠ a → h'.get? a = some { cls := .ref C, dict := some dx, data := .fields #[.ref t1, .none, .none, .none, .bool false, .none] } →
      h'.Ns1 dx (fun y => if y = fld then some v else none) → R (.ok (.ret .none)) ⟨h', g, d, tk', os⟩) →
    codeAny (model prog w) A (.call (.ref fI) ⟨[.ref a, v], []⟩) R ⟨hp, g, d, t, os⟩
section
variable {X : Cx} {C fI : Addr} {x fld : Str} {e : Expr} {te : TE} {p pos : Pos} {k : Nat}
theorem pmk_sup {B newId initId : String} {bmB : List Value} (XF : XFacts B newId initId bmB) (Tc : OexT X.K C newId bmB) (iC : W.findIn X.K (.ref C) "__init__" = some (some (.ref fI))) (tI : W.typeIn X.K (.ref fI) = some (.type "function")) (S : SupRun X.prog X.K X.mg C fI fld) (hr : Room (k + 1) X.A) (hg : Gl X x) (hm : X.mg x = some (.ref C)) (he : PE X e te)
    (hs : starEach [e] X.env = (false, eval e X.env) :: starEach [] X.env := by rfl) (hdb : (x == ("__debug__" : Str)) = false := by decide) :
    PMk X (.Call (.Name x p) [e] [] pos) (fun σ H Q => te σ H fun y H1 => ∀ dx, H1 dx = none → Q (.ref C) (some dx) (upd H1 dx (.xd [(fld, y)]))) := by
  intro pins s σ H Q I h
  obtain ⟨nm, q, N, bs, bm, sn, sub, ab, col, dd, k0, k1, k2, k3, k5, hC, hbm⟩ := Tc.cls
  obtain ⟨Z, iI, bmZ, FB, NT⟩ := XF.fb
  refine wpAny_Call_Name_kw (ld_glob I hg hm ?_ hdb)
  refine W.callWith_K (h₀ := X.base) I.ok.mod.kin Tc.kp ?_ hs (by rfl)
  rw [hs]
  show wpAny _ _ (spliced ((false, eval e X.env) :: backTo pos (starEach [] X.env))) _ _ s
  refine Calls.spliced_cons (thn (he.run pins s σ H _ I h) fun u s1 ⟨y, H1, I1, ry, q1⟩ => ?_)
  refine Calls.spliced_nil ⟨I1.kIn, ?_⟩
  show wpAny _ _ (call (.ref C) [u]) _ _ _
  obtain ⟨hp, g, dr, tk, os⟩ := s1
  have kk : ∀ b o, hp.get? b = some o → ((hp.push (W.kdv_tup [u])).push (HandSPX.excO C hp.objs.size)).get? b = some o := fun b o e => Heap.get?_push_of_some _ (Heap.get?_push_of_some _ e)
  have hget : ((hp.push (W.kdv_tup [u])).push (HandSPX.excO C hp.objs.size)).get? (hp.objs.size + 1) = some (HandSPX.excO C hp.objs.size) := by heap_get
  have gone : hp.get? (hp.objs.size + 1) = none := by
    cases e1 : hp.get? (hp.objs.size + 1) with
    | none => rfl
    | some o => exact absurd (Heap.lt_size e1) (Nat.not_lt.mpr (Nat.le_succ _))
  have hKa : X.K.lookup (hp.objs.size + 1) = none := by
    cases e1 : X.K.lookup (hp.objs.size + 1) with
    | none => rfl
    | some o =>
      have e2 := I1.kIn _ _ e1
      rw [gone] at e2; cases e2
  obtain ⟨mb, b1, b2⟩ := I1.mod.blt
  refine wpAny_call (make_run FB (NT.tail hbm) (I1.kIn _ _ hC) (W.looks_findIn I1.kIn iC) (fun self => W.bind_fn I1.kIn self tI) (by show 1 ≤ sizeLine; decide) ?_)
  refine S _ _ _ _ _ _ _ _ mb (hp.objs.size + 1) hp.objs.size u (I1.kIn.keeps kk) ((I1.mod.glob.keeps I1.bk).keeps kk) ((b1.keeps I1.bk).keeps kk) b2 ((I1.mod.nolimit.keeps I1.bk).keeps kk) ((hr.make C [u] []).depth) hget hKa (fun h' tk' dx t1 keep sz ne ha' hn => ?_)
  have szdx : hp.objs.size ≤ dx := Nat.le_trans (show hp.objs.size ≤ ((hp.push (W.kdv_tup [u])).push (HandSPX.excO C hp.objs.size)).objs.size by rw [Heap.size_push, Heap.size_push]; exact Nat.le_add_right _ 2) sz
  have ndx : H1 dx = none := I1.hok.fresh szdx
  obtain ⟨G, g1, g2⟩ := restrict h' fun b => decide (b ≠ hp.objs.size + 1)
  have gk : ∀ b, b ≠ hp.objs.size + 1 → G.get? b = h'.get? b := fun b hb => g1 b (decide_eq_true hb)
  have ge : G.get? (hp.objs.size + 1) = none := g2 _ (by simp)
  have gg : ∀ b o, G.get? b = some o → h'.get? b = some o := fun b o e => by
    by_cases hb : b = hp.objs.size + 1
    · rw [hb, ge] at e; cases e
    · rw [← gk b hb]; exact e
  have ka : ∀ b o, hp.get? b = some o → G.get? b = some o := fun b o e => by
    have nb : b ≠ hp.objs.size + 1 := fun z => by rw [z, gone] at e; cases e
    rw [gk b nb]
    exact keep b o nb (kk b o e)
  obtain ⟨oD, esD, epD, hD1, hD2, hD3⟩ := hn
  have I2 : Inv X pins σ (upd H1 dx (.xd [(fld, y)])) ⟨G, g, dr, tk', os⟩ := I1.laid (t' := tk') (a := dx) (o := .xd [(fld, y)]) (h' := G) ka szdx
    ⟨_, ⟨oD, esD, epD, by rw [gk dx ne]; exact hD1, hD2, hD3⟩, relO_put (fs := []) ry fun _ => True.intro⟩
  exact ⟨rfl, hp.objs.size + 1, _, _, ⟨G, g, dr, tk', os⟩, _, .ref C, some dx, rfl, I2, gg, ge, ha', ⟨rfl, rfl⟩, rfl, rfl, by rw [upd_ne (Ne.symm ne)]; exact I1.hok.fresh (Nat.le_succ _), rfl, I1.bare, raises_own Tc.bx Tc.ty, q1 dx ndx⟩
end
structure XCls (prog : Program) (K : W.Frag) (mg : Str → Option Value) (C : Addr) (fld : Str) : Prop where
  o : ∃ B newId initId bmB, XFacts B newId initId bmB ∧ OexT K C newId bmB
  ex : ∃ fI, W.findIn K (.ref C) "__init__" = some (some (.ref fI)) ∧ W.typeIn K (.ref fI) = some (.type "function") ∧ SupRun prog K mg C fI fld
section
variable {X : Cx} {T : TX X} {ρ : Rho} {C : Cells} {N : TEnds} {e : Expr} {p pos pos' : Pos} {x fld : Str} {Cl : Addr} {k : Nat}
theorem ws_raise (hx : XCls X.prog X.K X.mg Cl fld) (hr : RoomG (k + 1) X.A) (hg : Gl X x) (hm : X.mg x = some (.ref Cl)) (h : WE T e ρ C fun d C1 => T.XQ (.ref Cl) (some ([fld], [d])) ρ C1)
    (hs : starEach [e] X.env = (false, eval e X.env) :: starEach [] X.env := by rfl) (hdb : (x == ("__debug__" : Str)) = false := by decide) (hc : X.calm = true := by rfl) :
    WS T (.Raise (some (.Call (.Name x p) [e] [] pos)) none pos') ρ C N := by
  obtain ⟨fI, i1, i2, S⟩ := hx.ex
  obtain ⟨B, newId, initId, bmB, XF, Ox⟩ := hx.o
  refine PS.imp (ps_raise hc T.tk (pmk_sup XF Ox i1 i2 S hr.rm hg hm h hs hdb)) fun Dn σ H ⟨H0, at_, _⟩ => ⟨H0, at_, fun v d C1 H1 H01 p1 c1 r1 q dx hdx => ?_⟩
  obtain ⟨p2, c2⟩ := stp_new (o := .xd [(fld, v)]) c1 hdx
  have a2 := (at_.step p1 c1).step p2 c2
  exact ⟨some ([fld], [d]), ρ, C1, _, a2.a, a2.c, a2.s, a2.l, ⟨[v], upd_same, rfl, Reps.cons (r1.mono p2.base) Reps.nil⟩, q⟩
end
theorem xf_ValueError : XFacts "ValueError" "ValueError.__new__" "ValueError.__init__" [.type "ValueError", .type "Exception", .type "BaseException", .type "object"] := ⟨⟨_, _, _, PySem.F.excBase_ValueError, by decide +kernel, by decide +kernel, by decide +kernel⟩, .of PySem.F.excBase_ValueError.toExcCallFacts, W.kxs_ValueError, fun self => F.store_ValueError.passes self, by decide +kernel⟩
end Tr

set_option maxHeartbeats 4000000
namespace Tr
open PySem L2 PySem.Spec PyProof.Rows

theorem ExcR.step {K : W.Frag} {H0 H H0' H' : Hp} {C C' : Cells} {d : Option Addr} {fs : XF} (h : ExcR K H0 H d fs) (c : CellsR K H0 C H) (p : Stp H0 C H H0' C' H') : ExcR K H0' H' d fs := by
  cases d with
  | none => cases fs with
    | none => exact True.intro
    | some f => exact h
  | some dd => cases fs with
    | none => exact h
    | some f =>
      obtain ⟨ns, ds⟩ := f
      obtain ⟨vs, h1, h2, h3⟩ := h
      refine ⟨vs, p.fr dd _ h1 fun ⟨x, hx⟩ => ?_, h2, h3.mono p.base⟩
      have ok := c.ok dd x hx
      cases x with
      | lst ds => obtain ⟨_, e, _⟩ := ok; rw [h1] at e; cases e
      | dK ks ds => obtain ⟨_, e, _⟩ := ok; rw [h1] at e; cases e
      | ins Cl ns ds => obtain ⟨_, _, e, _⟩ := ok; rw [h1] at e; cases e
section
variable {X : Cx} {T : TX X} {ρ : Rho} {C : Cells} {N : TEnds} {Q : QE} {e : Expr} {pos pos' np : Pos} {x n : Str} {c : Value} {i : Nat} {body suite : List Stmt} {b₀ : Stmt} {XQ' : Value → XF → Rho → Cells → Prop}
def tbT (T : TX X) (XQ' : Value → XF → Rho → Cells → Prop) (ρ : Rho) (C : Cells) (N : TEnds) (W : WX) : TS := fun D σ H => ∃ H0, At T H0 ρ C σ H ∧ Tail X H0 C H N D ∧
  ∀ cls d σ' H' fs ρ' C' H0', Stp H0 C H H0' C' H' → CellsR X.K H0' C' H' → SlotsR X.K H0' ρ' σ' → ρ'.length = σ'.length → ExcR X.K H0' H' d fs → XQ' cls fs ρ' C' → W cls d σ' H'
def tsT (X : Cx) (st : List Stmt) (a : Addr) (cls : Value) (d : Option Addr) : TS := fun D σ H => ∃ (fs : XF) (ρ' : Rho) (C' : Cells) (H0' : Hp) (N' : TEnds), CellsR X.K H0' C' H ∧ SlotsR X.K H0' ρ' σ ∧ ρ'.length = σ.length ∧ ExcR X.K H0' H d fs ∧ Tail X H0' C' H N' D ∧
  ∀ (oe : Obj) (pn : List (Addr × Obj)) (T' : TX (X.suite a ((a, oe) :: pn))), Zc cls d oe → (∃ vs, oe.data = .fields vs) → (∀ H0 C H, T'.A H0 C H → ExcR X.K H0 H d fs) → WSs T' st ρ' C' N'
theorem ws_try (hs : X.stack = X.env :: X.outer) (hf : X.env.frame = some X.env.locals) (hN : X.N.Nodup) (hi : X.N[i]? = some n) (hln : X.env.kindOf n = some .local) (hc : Names X x c) (XQ' : Value → XF → Rho → Cells → Prop)
    (hb : ∀ (pn : List (Addr × Obj)) (xe : Value → Shared → Prop) (T' : TX (X.tr pn xe)), T'.XQ = XQ' → WSs T' body ρ C N)
    (hh : ∀ cls fs ρ' C', XQ' cls fs ρ' C' → ∃ b, W.exmOne X.K cls c = some b ∧ (b = false → T.XQ cls fs ρ' C') ∧
      (b = true → ∀ (a : Addr) (oe : Obj) (d : Option Addr) (pn : List (Addr × Obj)) (T' : TX (X.suite a ((a, oe) :: pn))), Zc cls d oe → (∃ vs, oe.data = .fields vs) → (∀ H0 C H, T'.A H0 C H → ExcR X.K H0 H d fs) →
        WSs T' (b₀ :: suite) (ρ'.set i (some (.raw (.ref a)))) C' { nx := fun ρ C => N.nx (ρ.set i none) C, rt := N.rt, bk := fun ρ C => N.bk (ρ.set i none) C, ct := fun ρ C => N.ct (ρ.set i none) C })) :
    WS T (.Try body [.ExceptHandler (some (.Name x np)) (some n) (b₀ :: suite) pos'] [] [] pos) ρ C N := by
  refine PS.imp (ps_try_as (ts := tsT X (b₀ :: suite)) (tb := tbT T XQ' ρ C N) hs hf hN hi hln hc T.tk (fun W pn xe tkW pass => ⟨fun pins s σ H D I ⟨H0, at_, k, imp⟩ => ?_⟩) (fun a oe cls d pn hz hfl => ⟨fun pins s σ H D I ⟨fs, ρ', C', H0', N', cc, sl, l, ex, k, w⟩ => ?_⟩)) fun D σ H ⟨H0, at_, k⟩ => ⟨H0, at_, k, fun cls d σ' H' fs ρ' C' H0' p cc s l ex xq => ?_⟩
  · have T' : TX (X.tr pn xe) := { A := fun H0' C' H' => Stp H0 C H H0' C' H', up := fun a c p _ => a.trans c p, XQ := XQ', tk := tkW.imp fun cls d σ' H' ⟨fs, ρ', C', H0', a, c, s, l, ex, q⟩ => imp cls d σ' H' fs ρ' C' H0' a c s l ex q, pass := pass }
    exact (hb pn xe { A := fun H0' C' H' => Stp H0 C H H0' C' H', up := fun a c p _ => a.trans c p, XQ := XQ', tk := tkW.imp fun cls d σ' H' ⟨fs, ρ', C', H0', a, c, s, l, ex, q⟩ => imp cls d σ' H' fs ρ' C' H0' a c s l ex q, pass := pass } rfl).run pins s σ H D I ⟨H0, ⟨Stp.refl _ _ _, at_.c, at_.s, at_.l⟩, ⟨k.nx, k.rt, k.bk, k.ct⟩⟩
  · exact (w oe pn { A := fun H0 _ H => ExcR X.K H0 H d fs, up := fun h c p _ => h.step c p, XQ := fun _ _ _ _ => False, tk := fun u s' ⟨_, _, _, _, _, _, _, _, _, _, _, _, _, _, _, _, w⟩ => (let ⟨_, _, _, _, _, _, _, _, _, q⟩ := w; q), pass := PassesOwn.never } hz hfl fun _ _ _ h => h).run pins s σ H D I ⟨H0', ⟨ex, cc, sl, l⟩, ⟨k.nx, k.rt, k.bk, k.ct⟩⟩
  · obtain ⟨b, h1, h2, h3⟩ := hh cls fs ρ' C' xq
    refine ⟨b, h1, fun hb1 a ha => ?_, fun hb0 => ⟨fs, ρ', C', H0', T.up at_.a at_.c p cc, cc, s, l, ex, h2 hb0⟩⟩
    have k' := k.after p cc
    have un : ∀ {Q : QS} {R : L2.St → Hp → Prop}, ContS X H0' C' H' Q R → ContS X H0' C' H' (fun ρ C => Q (ρ.set i none) C) (fun σ H => R (σ.set i none) H) := fun kk ρ1 σ1 C1 H1 H01 p1 c1 s1 l1 q1 =>
      kk _ _ C1 H1 H01 p1 c1 (SlotsR.unset i s1) (by rw [List.length_set, List.length_set]; exact l1) q1
    exact ⟨fs, ρ'.set i (some (.raw (.ref a))), C', H0', { nx := fun ρ C => N.nx (ρ.set i none) C, rt := N.rt, bk := fun ρ C => N.bk (ρ.set i none) C, ct := fun ρ C => N.ct (ρ.set i none) C }, cc, SlotsR.set i s rfl l, by rw [List.length_set, List.length_set]; exact l, ex, ⟨un k'.nx, k'.rt, un k'.bk, un k'.ct⟩, fun oe pn T' hz hfl hA => h3 hb1 a oe d pn T' hz hfl hA⟩
end
section
variable {X : Cx} {a Cl : Addr} {oe : Obj} {d : Option Addr} {pn : List (Addr × Obj)} {T' : TX (X.suite a ((a, oe) :: pn))} {ρ : Rho} {C : Cells} {Q : QE} {e : Expr} {pos : Pos} {n : Str} {ns : List Str} {ds : List D}
theorem we_xf (Tx : XfC X.K Cl) (hno : W.findIn X.K (.ref Cl) n = some none) (hz : Zc (.ref Cl) d oe) (hfl : ∃ vs, oe.data = .fields vs) (hA : ∀ H0 C H, T'.A H0 C H → ExcR X.K H0 H d (some (ns, ds)))
    (h : WE T' e ρ C fun d1 C1 => d1 = .raw (.ref a) ∧ ∃ y, (ns.zip ds).lookup n = some y ∧ Q y C1) (hb : attributeBase e n X.env (eval e X.env) = eval e X.env := by rfl) : WE T' (.Attribute e n pos) ρ C Q :=
  PE.imp (pe_xf Tx hno hz hfl h hb) fun σ H R ⟨H0, at_, k⟩ => ⟨H0, at_, fun v d1 C1 H1 H01 p1 c1 r1 ⟨e1, y, hl, q⟩ => by
    subst e1
    have at1 := at_.step p1 c1
    have ex := hA _ _ _ at1.a
    cases d with
    | none => exact ex.elim
    | some dd =>
      obtain ⟨vs, h1, h2, h3⟩ := ex
      obtain ⟨v', g1, g2⟩ := lookup_zip h3 h2 hl
      exact ⟨r1, rfl, dd, _, v', rfl, h1, g1, k v' y C1 H1 H01 p1 c1 g2 q⟩⟩
end
section
variable {X : Cx} {a Cl : Addr} {oe : Obj} {d : Option Addr} {pn : List (Addr × Obj)} {T' : TX (X.suite a ((a, oe) :: pn))} {ρ : Rho} {C : Cells} {Q : QE} {e c : Expr} {p pos : Pos} {fs : XF}
theorem call_isX (G : ExcC X.K Cl) (hz : Zc (.ref Cl) d oe) (hf : ∃ vs, oe.data = .fields vs) : CallR (X.suite a ((a, oe) :: pn)) (.builtin "isinstance")
    (fun xs H Q => ∃ (c : V) (cv : Value) (b : Bool), xs = [.ref a, c] ∧ ClsV c cv ∧ W.kitOne X.K (.ref Cl) cv = some b ∧ (∀ dd, d = some dd → ∃ gs, H dd = some (.xd gs)) ∧ Q (.bl b) H) := by
  intro pins s σ H xs us Q I r h
  obtain ⟨c, cv, b, rfl, hcv, e, hd, q⟩ := h
  obtain ⟨u1, u2, rfl, r1, r2⟩ := vals2 r
  cases (show u1 = Value.ref a from r1)
  have ec := hcv.eq r2
  subst ec
  obtain ⟨hget, _⟩ := I.pin (a, oe) (List.mem_append.mpr (.inl List.mem_cons_self))
  obtain ⟨vs, hv⟩ := hf
  obtain ⟨oc, od, oda, osl⟩ := oe
  obtain ⟨h1, h2⟩ := hz
  dsimp only at h1 h2 hv
  subst h1 h2 hv
  obtain ⟨ob, J⟩ : ∃ ob, W.InstAt s.heap a ⟨.ref Cl, od, .fields vs, osl⟩ Cl ob := by
    cases od with
    | none => exact ⟨none, hget, rfl, rfl, trivial⟩
    | some dd =>
      obtain ⟨gs, hg⟩ := hd dd rfl
      have hx : ObjOk X.prog X.w H s.heap dd (.xd gs) := I.hok dd _ hg
      obtain ⟨mA, hns, _⟩ := hx
      obtain ⟨ob, ho, _⟩ := lookIn_ns hns
      exact ⟨some ob, hget, rfl, rfl, ho⟩
  exact W.kia_one (W.kitx_exc (by obtain ⟨cd, hc, _⟩ := PySem.W.any_some G.hd; rw [hc]; rfl) G.hg G.hk G.hs G.ha G.hn G.ht G.hm) I.kIn J e (fun z => nomatch z) fun tk => ⟨.bl b, H, I.tok tk, rfl, q⟩
end
end Tr

set_option maxHeartbeats 4000000
namespace Tr
open PySem L2 PySem.Spec PyProof.Rows
theorem iteN {c : Prop} [Decidable c] {A B : Prop} (h : ¬ c) (b : B) : if c then A else B := by rw [if_neg h]; exact b
section
variable {X : Cx} {T : TX X} {ρ : Rho} {C : Cells} {N : TEnds} {st : Stmt}
theorem kit_tyF {K : W.Frag} {C : Addr} {U : String} {b : Bool} (ss : W.subIn K (.ref C) (.type U) = some b) (m : W.kitMeta U = true) : W.kitOne K (.ref C) (.type U) = some b := by
  unfold W.kitOne
  rw [if_neg (by intro h; cases h)]
  unfold W.kitCls
  simp only [m, ss]
  rfl
end
end Tr

set_option maxHeartbeats 4000000
namespace Tr
open PySem L2 PySem.Spec PyProof.Rows
section
variable {X : Cx} {T : TX X} {ρ : Rho} {C : Cells} {Q : QE} {e a o : Expr} {es rest : List Expr} {pos apos p : Pos} {v1 v2 : Expr}

theorem pi_seq {tg l : Expr} {tl : TE} (hl : PE X l tl) : PI X tg l (fun σ H R => tl σ H fun x H1 => ∃ a xs, x = .ref a ∧ ((SqL X.K H1 a xs ∧ R (Itl X.K a) H1) ∨ (SqT X.K H1 a xs ∧ R (Itt X.K a) H1))) := by
  refine ⟨fun pins s σ H R I h => ?_⟩
  refine thn (hl.run pins s σ H _ I h) fun v s1 ⟨x, H1, I1, r1, a, xs, e, q1⟩ => ?_
  subst e
  cases r1
  have fpk : ∀ b ∈ [s1.heap.objs.size], FpOk X pins H1 b := fun b hb => by
    have e : b = s1.heap.objs.size := by simpa using hb
    subst e
    exact I1.fpOk (Nat.le_refl _) (I1.hok.fresh (Nat.le_refl _))
  rcases q1 with ⟨hq, q⟩ | ⟨hq, q⟩
  · obtain ⟨its, rv, p, hz⟩ := I1.list hq
    refine wpAny_pyIter_list p.isList ?_
    exact ⟨s1.heap.objs.size, [s1.heap.objs.size], _, _, H1, rfl, I1.kept (t' := s1.toks) fun b o e => Heap.get?_push_of_some _ e, turn_list a _, ⟨_, Heap.get?_push_size _ rfl, rfl, rfl⟩, fpk, q⟩
  · obtain ⟨its, rv, p, hz⟩ := I1.tuple hq
    refine wpAny_pyIter_tuple (show s1.heap.IsTuple a its.toArray from p) ?_
    exact ⟨s1.heap.objs.size, [s1.heap.objs.size], _, _, H1, rfl, I1.kept (t' := s1.toks) fun b o e => Heap.get?_push_of_some _ e, turn_tuple a _, ⟨_, Heap.get?_push_size _ rfl, rfl, rfl⟩, fpk, q⟩
def CMetT (K : W.Frag) (C : Addr) (m : Str) (g : Addr) : Prop := ∃ mc p, ClX.CRead K C mc ∧ ClX.CMet K C mc m p g
end
end Tr

set_option maxHeartbeats 4000000
namespace Tr
open PySem L2 PySem.Spec PyProof.Rows TL

section
variable {X : Cx} {T : TX X} {ρ : Rho} {C : Cells} {N : TEnds}
end
end Tr

set_option maxHeartbeats 4000000
namespace Tr
open PySem L2 PySem.Spec PyProof.Rows

abbrev ME := Cells → QE → Prop
abbrev MA := Cells → QA → Prop
abbrev MT := Cells → QT → Prop
abbrev MI := Cells → QI → Prop
abbrev MB := Cells → Prop
def up (F : FS) : FS := fun ds C Q Qx => ∃ Q' Qx', F ds C Q' Qx' ∧ (∀ d C', Q' d C' → Q d C') ∧ ∀ cls fs C', Qx' cls fs C' → Qx cls fs C'
theorem FnG.up {P : Program} {w : World} {K : W.Frag} {mg : Str → Option Value} {base : Heap} {k : Nat} {f : Addr} {fd : FuncData} {ps : List Str} {F : FS} (h : FnG P w K mg base k f fd ps F) : FnG P w K mg base k f fd ps (up F) :=
  ⟨fun ds C Q Qx ⟨Q', Qx', z, _, _⟩ => h.len _ _ _ _ z, fun A outer s H args us vs R E hr e0 hb rv ⟨H0, ds, C, Q, Qx, c, r, ⟨Q', Qx', z, i1, i2⟩, k1, k2⟩ => h.run A outer s H args us vs R E hr e0 hb rv
    ⟨H0, ds, C, Q', Qx', c, r, z, fun v d C' H' H0' p c' r' q => k1 v d C' H' H0' p c' r' (i1 _ _ q), fun cls dd fs C' H' H0' p c' x q => k2 cls dd fs C' H' H0' p c' x (i2 _ _ _ q)⟩⟩

section
variable {X : Cx}
def SE (T : TX X) (e : Expr) (ρ : Rho) (A : ME) : Prop := ∀ C Q, A C Q → Tr.WE T e ρ C Q
def SA (T : TX X) (es : List Expr) (ρ : Rho) (A : MA) : Prop := ∀ C Q, A C Q → WA T es ρ C Q
def ST (T : TX X) (e : Expr) (ρ : Rho) (A : MT) : Prop := ∀ C Q, A C Q → WT T e ρ C Q
def SP (T : TX X) (e : Expr) (ρ : Rho) (A : MT) : Prop := ∀ C Q, A C Q → WP T e ρ C Q
def SI (T : TX X) (tg e : Expr) (ρ : Rho) (A : MI) : Prop := ∀ C Q, A C Q → WI T tg e ρ C Q
def SB (T : TX X) (st : List Stmt) (ρ : Rho) (m : MB) (N : TEnds) : Prop := ∀ C, m C → WSs T st ρ C N
def SG (T : TX X) (tg : Expr) (d : D) (ρ : Rho) (st : List Stmt) (m : MB) (N : TEnds) : Prop := ∀ C, m C → WG T tg d ρ C fun ρ1 C1 => WSs T st ρ1 C1 N
variable {T : TX X} {ρ ρ' : Rho} {C : Cells} {N : TEnds} {e a b c o : Expr} {pos pos' p p2 apos : Pos} {es tgs : List Expr} {st : Stmt} {rest body : List Stmt} {x m : Str} {A B A' : ME} {AS : MA} {mt mf : MB}
theorem WA.mono {Q Q' : QA} (h : WA T es ρ C Q) (i : ∀ d C', Q d C' → Q' d C') : WA T es ρ C Q' :=
  PA.imp h fun σ H R ⟨H0, a, k⟩ => ⟨H0, a, fun vs ds C' H' H0' p c r q => k vs ds C' H' H0' p c r (i ds C' q)⟩
theorem WP.mono {Q Q' : QT} (h : WP T e ρ C Q) (i : ∀ d C', Q d C' → Q' d C') : WP T e ρ C Q' :=
  PW.imp h fun σ H R ⟨H0, a, k⟩ => ⟨H0, a, fun v C' H' H0' p c q => k v C' H' H0' p c (i v C' q)⟩
theorem WI.mono {tg : Expr} {Q Q' : QI} (h : WI T tg e ρ C Q) (i : ∀ ds P C', Q ds P C' → Q' ds P C') : WI T tg e ρ C Q' :=
  PI.imp h fun σ H R ⟨H0, a, k⟩ => ⟨H0, a, fun J ds P C' H' H0' p c y q => k J ds P C' H' H0' p c y (i ds P C' q)⟩
theorem OW.mono {f : Value → Value → Sem Value} {d1 d2 : D} {Q Q' : QE} (h : OW T f d1 d2 C Q) (i : ∀ d C', Q d C' → Q' d C') : OW T f d1 d2 C Q' :=
  OpR.imp h fun x y H R ⟨H0, c, r1, r2, k⟩ => ⟨H0, c, r1, r2, fun v d C' H' H0' p c r q => k v d C' H' H0' p c r (i d C' q)⟩
theorem CW.mono {f : Value} {ds : List D} {Q Q' : QE} (h : CW T f ds C Q) (i : ∀ d C', Q d C' → Q' d C') : CW T f ds C Q' :=
  CallR.imp h fun xs H R ⟨H0, c, r1, k⟩ => ⟨H0, c, r1, fun v d C' H' H0' p c r q => k v d C' H' H0' p c r (i d C' q)⟩

structure LeR (ρ ρ' : Rho) : Prop where
  l : ρ.length = ρ'.length
  s : ∀ (i : Nat) (d : D), ρ[i]? = some (some d) → ρ'[i]? = some (some d)
theorem LeR.refl (ρ : Rho) : LeR ρ ρ := ⟨rfl, fun _ _ h => h⟩
theorem LeR.nil : LeR [] [] := .refl _
theorem LeR.keep {x : Option D} (h : LeR ρ ρ') : LeR (x :: ρ) (x :: ρ') := ⟨by simp [h.l], fun i d q => by
  cases i with
  | zero => exact q
  | succ i => exact h.s i d q⟩
theorem LeR.drop {x : Option D} (h : LeR ρ ρ') : LeR (none :: ρ) (x :: ρ') := ⟨by simp [h.l], fun i d q => by
  cases i with
  | zero => cases q
  | succ i => exact h.s i d q⟩
theorem LeR.trans {ρ1 ρ2 ρ3 : Rho} (h : LeR ρ1 ρ2) (g : LeR ρ2 ρ3) : LeR ρ1 ρ3 := ⟨h.l.trans g.l, fun i d q => g.s i d (h.s i d q)⟩
theorem At.forget {H0 : Hp} {σ : L2.St} {H : Hp} (l : LeR ρ ρ') (h : At T H0 ρ' C σ H) : At T H0 ρ C σ H := ⟨h.a, h.c, fun i d q => h.s i d (l.s i d q), l.l.trans h.l⟩
theorem wss_forget (l : LeR ρ ρ') (h : WSs T rest ρ C N) : WSs T rest ρ' C N := PSs.imp h fun Dn σ H ⟨H0, at_, k⟩ => ⟨H0, at_.forget l, k⟩
theorem wg_forget {d : D} {tg : Expr} {Q : QS} (l : LeR ρ ρ') (h : WG T tg d ρ C Q) : WG T tg d ρ' C Q := PG.imp h fun v σ H R ⟨H0, at_, r, k⟩ => ⟨H0, at_.forget l, r, k⟩

abbrev eVal (d : D) : ME := fun C Q => Q d C
abbrev eBin (A B : ME) (O : D → D → ME) : ME := fun C Q => A C fun x C1 => B C1 fun y C2 => O x y C2 Q
abbrev eApp (A : ME) (O : D → ME) : ME := fun C Q => A C fun x C1 => O x C1 Q
abbrev aNil : MA := fun C Q => Q [] C
abbrev aCons (A : ME) (B : MA) : MA := fun C Q => A C fun d C1 => B C1 fun ds C2 => Q (d :: ds) C2
abbrev eArgs (A : MA) (O : List D → ME) : ME := fun C Q => A C fun ds C1 => O ds C1 Q
def pTup (ds : List D) : ME := fun C Q => ds.length ≤ 100000 ∧ Q (.tup ds) C
def pLst (ds : List D) : ME := fun C Q => ds.length ≤ 100000 ∧ Q (.lst ds) C
def pLstC (ds : List D) : ME := fun C Q => ds.length ≤ 100000 ∧ ∀ p, Q (.raw (.ref p)) ((p, .lst ds) :: C)
def pTru : D → MT
  | .bl k => fun C Q => Q k C
  | _ => fun _ _ => False
abbrev tVal (A : ME) : MT := fun C Q => A C fun d C1 => pTru d C1 Q
abbrev tNot (A : MT) : MT := fun C Q => A C fun k C1 => Q (!k) C1
abbrev tAnd (A B : MT) : MT := fun C Q => A C fun k C1 => if k = true then B C1 Q else Q false C1
abbrev tOr (A B : MT) : MT := fun C Q => A C fun k C1 => if k = true then Q true C1 else B C1 Q
abbrev tBin (A B : ME) (O : D → D → ME) : MT := fun C Q => A C fun x C1 => B C1 fun y C2 => O x y C2 fun d C3 => pTru d C3 Q
abbrev eIf (c : MT) (A B : ME) : ME := fun C Q => c C fun k C1 => if k = true then A C1 Q else B C1 Q
abbrev eAnd (A B : ME) : ME := fun C Q => A C fun d C1 => pTru d C1 fun k C2 => if k = true then B C2 Q else Q (.bl false) C2
abbrev eOr (A B : ME) : ME := fun C Q => A C fun d C1 => pTru d C1 fun k C2 => if k = true then Q (.bl true) C2 else B C2 Q
def pNeg : D → ME
  | .int i => fun C Q => Q (.int (-i)) C
  | _ => fun _ _ => False
theorem pTru_ex {d : D} {Q : QT} (h : pTru d C Q) : ∃ k, d = .bl k ∧ Q k C := by
  cases d with
  | bl k => exact ⟨k, rfl, h⟩
  | _ => exact False.elim h

theorem se_var {d : D} (i : Nat) (hd : ρ[i]? = some (some d)) (h : PE X (.Name x pos) (tVar i)) : SE T (.Name x pos) ρ (eVal d) := fun C Q q => we_var i hd q h
theorem se_glob {v : V} {d : D} (h : PE X (.Name x pos) (tC v)) (r : ∀ H0 : Hp, Rep X.K H0 d v) : SE T (.Name x pos) ρ (eVal d) := fun C Q q => we_glob h r q
theorem se_ty {n : String} (hg : Gl X x) (hm : X.mg x = none) (hv : bootBuiltins x = some (.type n)) (hn : x ≠ "__name__" := by decide) (hd : (x == ("__debug__" : Str)) = false := by decide) : SE T (.Name x pos) ρ (eVal (.raw (.ty n))) :=
  fun C Q q => we_ty hg hm hv q hn hd
theorem se_int {i j} : SE T (.Constant (.int i) j pos) ρ (eVal (.int i)) := fun C Q q => we_int q
theorem se_str {i j} : SE T (.Constant (.str i) j pos) ρ (eVal (.str i)) := fun C Q q => we_str q
theorem se_bl {i j} : SE T (.Constant (.bool i) j pos) ρ (eVal (.bl i)) := fun C Q q => we_bl q
theorem se_non {j} : SE T (.Constant .none j pos) ρ (eVal .non) := fun C Q q => we_non q
theorem se_bin {op : Operator} {O : D → D → ME} (ha : SE T a ρ A) (hb : SE T b ρ B) (ho : ∀ x y C Q, O x y C Q → OW T (binaryOp op) x y C Q) : SE T (.BinOp a op b pos) ρ (eBin A B O) :=
  fun C Q h => we_bin ((ha C _ h).mono fun x C1 h1 => (hb C1 _ h1).mono fun y C2 h2 => ho x y C2 Q h2)
theorem se_cmp {op : CmpOp} {O : D → D → ME} (ha : SE T a ρ A) (hb : SE T b ρ B) (ho : ∀ x y C Q, O x y C Q → OW T (compareOp op) x y C Q) (hm : behindInMarks op b = false := by rfl) : SE T (.Compare a [op] [b] pos) ρ (eBin A B O) :=
  fun C Q h => we_cmp ((ha C _ h).mono fun x C1 h1 => (hb C1 _ h1).mono fun y C2 h2 => ho x y C2 Q h2) hm
theorem st_cmp {op : CmpOp} {O : D → D → ME} (ha : SE T a ρ A) (hb : SE T b ρ B) (ho : ∀ x y C Q, O x y C Q → OW T (compareOp op) x y C Q) (hm : behindInMarks op b = false := by rfl) : ST T (.Compare a [op] [b] pos) ρ (tBin A B O) :=
  fun C Q h => wt_cmp ((ha C _ h).mono fun x C1 h1 => (hb C1 _ h1).mono fun y C2 h2 => (ho x y C2 _ h2).mono fun d C3 h3 => pTru_ex h3) hm
abbrev tChain (A B A' : ME) (O O' : D → D → ME) : MT := fun C Q => A C fun x C1 => B C1 fun y C2 => O x y C2 fun d C3 => pTru d C3 fun k C3 => if k = true then A' C3 fun z C4 => O' y z C4 fun d C5 => pTru d C5 Q else Q false C3
theorem st_chain {op op' : CmpOp} {O O' : D → D → ME} (ha : SE T a ρ A) (hb : SE T b ρ B) (hc : SE T c ρ A') (ho : ∀ x y C Q, O x y C Q → OW T (compareOp op) x y C Q) (ho' : ∀ x y C Q, O' x y C Q → OW T (compareOp op') x y C Q)
    (hm : lastMarks [op, op'] [b, c] = false := by with_unfolding_all rfl) : ST T (.Compare a [op, op'] [b, c] pos) ρ (tChain A B A' O O') :=
  fun C Q h => wt_chain2 ((ha C _ h).mono fun x C1 h1 => (hb C1 _ h1).mono fun y C2 h2 => (ho x y C2 _ h2).mono fun d C3 h3 => by
    obtain ⟨k, e, h4⟩ := pTru_ex h3
    refine ⟨k, e, ?_⟩
    cases k with
    | false => exact h4
    | true => exact (hc C3 _ h4).mono fun z C4 h5 => (ho' y z C4 _ h5).mono fun d C5 h6 => pTru_ex h6) hm
theorem st_val (h : SE T e ρ A) (he : ∀ whole, isTrue e X.env whole = (do let v ← whole; standAt e.pos; holding [v] (truthy v)) := by intro _; rfl) : ST T e ρ (tVal A) :=
  fun C Q q => wt_val ((h C _ q).mono fun d C1 h1 => pTru_ex h1) he
theorem st_not {t : MT} (h : ST T a ρ t) : ST T (.UnaryOp .Not a pos) ρ (tNot t) := fun C Q q => wt_not (h C _ q)
theorem st_p {t : MT} (h : SP T a ρ t) : ST T a ρ t := fun C Q q => wt_p (h C Q q)
theorem sp_and1 {t : MT} (h : ST T a ρ t) : SP T (.BoolOp .And [a] pos) ρ t := fun C Q q => wp_and1 (h C Q q)
theorem sp_or1 {t : MT} (h : ST T a ρ t) : SP T (.BoolOp .Or [a] pos) ρ t := fun C Q q => wp_or1 (h C Q q)
theorem sp_and {t u : MT} (h : ST T a ρ t) (g : SP T (.BoolOp .And (b :: es) pos) ρ u) : SP T (.BoolOp .And (a :: b :: es) pos) ρ (tAnd t u) :=
  fun C Q q => wp_and ((h C _ q).mono fun k C1 h1 => by
    cases k with
    | true => exact g C1 Q h1
    | false => exact h1)
theorem sp_or {t u : MT} (h : ST T a ρ t) (g : SP T (.BoolOp .Or (b :: es) pos) ρ u) : SP T (.BoolOp .Or (a :: b :: es) pos) ρ (tOr t u) :=
  fun C Q q => wp_or ((h C _ q).mono fun k C1 h1 => by
    cases k with
    | true => exact h1
    | false => exact g C1 Q h1)
theorem se_one {op} (h : SE T a ρ A) : SE T (.BoolOp op [a] pos) ρ A := fun C Q q => we_one (h C Q q)
theorem se_and (h : SE T a ρ A) (g : SE T (.BoolOp .And (b :: es) pos) ρ B) : SE T (.BoolOp .And (a :: b :: es) pos) ρ (eAnd A B) :=
  fun C Q q => we_and ((h C _ q).mono fun d C1 h1 => by
    obtain ⟨k, e, h4⟩ := pTru_ex h1
    refine ⟨k, e, ?_⟩
    cases k with
    | false => exact h4
    | true => exact g C1 Q h4)
theorem se_or (h : SE T a ρ A) (g : SE T (.BoolOp .Or (b :: es) pos) ρ B) : SE T (.BoolOp .Or (a :: b :: es) pos) ρ (eOr A B) :=
  fun C Q q => we_or ((h C _ q).mono fun d C1 h1 => by
    obtain ⟨k, e, h4⟩ := pTru_ex h1
    refine ⟨k, e, ?_⟩
    cases k with
    | true => exact h4
    | false => exact g C1 Q h4)
theorem se_neg (h : SE T a ρ A) : SE T (.UnaryOp .USub a pos) ρ (eApp A pNeg) := fun C Q q => we_neg (i := 0) ((h C _ q).mono fun d C1 h1 => by
  cases d with
  | int i => exact ⟨i, rfl, h1⟩
  | _ => exact False.elim h1)
theorem se_if {t : MT} (h : ST T c ρ t) (ha : SE T a ρ A) (hb : SE T b ρ B) : SE T (.IfExp c a b pos) ρ (eIf t A B) :=
  fun C Q q => we_ifExp ((h C _ q).mono fun k C1 h1 => by
    cases k with
    | true => exact ha C1 Q h1
    | false => exact hb C1 Q h1)
theorem sa_nil : SA T [] ρ aNil := fun C Q q => wa_nil q
theorem sa_cons (h : SE T e ρ A) (g : SA T es ρ AS) (hs : starEach (e :: es) X.env = (false, eval e X.env) :: starEach es X.env := by rfl) : SA T (e :: es) ρ (aCons A AS) :=
  fun C Q q => wa_cons ((h C _ q).mono fun d C1 h1 => (g C1 _ h1)) hs
theorem se_tup {k} (h : SA T es ρ AS) : SE T (.Tuple es k pos) ρ (eArgs AS pTup) := fun C Q q => we_tup (h C _ q)
theorem se_lst (h : SA T es ρ AS) : SE T (.List es pos) ρ (eArgs AS pLst) := fun C Q q => we_lst (h C _ q)
theorem se_lstC (h : SA T es ρ AS) : SE T (.List es pos) ρ (eArgs AS pLstC) := fun C Q q => we_lstC (h C _ q)
theorem se_callB {q : Pos} {id : String} {O : List D → ME} (hg : Gl X x) (hm : X.mg x = none) (hv : bootBuiltins x = some (.builtin id)) (h : SA T (a :: es) ρ AS) (ho : ∀ ds C Q, O ds C Q → CW T (.builtin id) ds C Q)
    (hn : x ≠ "__name__" := by decide) (hdb : (x == ("__debug__" : Str)) = false := by decide) (he : starEach (a :: es) X.env = (false, eval a X.env) :: starEach es X.env := by rfl) (hpl : (backTo pos (starEach es X.env)).any (·.1) = false := by rfl) :
    SE T (.Call (.Name x q) (a :: es) [] pos) ρ (eArgs AS O) := fun C Q z => we_callB hg hm hv ((h C _ z).mono fun ds C1 h1 => ho ds C1 Q h1) hn hdb he hpl
theorem se_callTy {q : Pos} {id : String} {O : List D → ME} (hg : Gl X x) (hm : X.mg x = none) (hv : bootBuiltins x = some (.type id)) (h : SA T (a :: es) ρ AS) (ho : ∀ ds C Q, O ds C Q → CW T (.type id) ds C Q)
    (hn : x ≠ "__name__" := by decide) (hdb : (x == ("__debug__" : Str)) = false := by decide) (he : starEach (a :: es) X.env = (false, eval a X.env) :: starEach es X.env := by rfl) (hpl : (backTo pos (starEach es X.env)).any (·.1) = false := by rfl) :
    SE T (.Call (.Name x q) (a :: es) [] pos) ρ (eArgs AS O) := fun C Q z => we_callTy hg hm hv ((h C _ z).mono fun ds C1 h1 => ho ds C1 Q h1) hn hdb he hpl

def callW (F : FS) (Xq : QX) (ds : List D) : ME := fun C Q => ∃ μ r, C.Perm (μ ++ r) ∧ F ds μ (fun d μ' => Q d (μ' ++ r)) fun cls fs μ' => Xq cls fs (μ' ++ r)
theorem call_all {F : FS} {Xq : QX} {ds : List D} {Q : QE} (h : F ds C Q Xq) : callW F Xq ds C Q := ⟨C, [], by simp, by simpa using h⟩
theorem call_none {F : FS} {Xq : QX} {ds : List D} {Q : QE} (h : F ds [] (fun d μ' => Q d (μ' ++ C)) fun cls fs μ' => Xq cls fs (μ' ++ C)) : callW F Xq ds C Q := ⟨[], C, by simp, h⟩
theorem callW.asks {F : FS} {Xq : QX} {ds : List D} {Q : QE} (h : callW F Xq ds C Q) (hX : ∀ cls fs C, Xq cls fs C → T.XQ cls fs ρ C) : Asks T (up F) ρ ds C Q :=
  let ⟨μ, r, pm, z⟩ := h
  ⟨μ, r, pm, _, _, z, fun _ _ q => q, fun cls fs C' q => hX cls fs _ q⟩
variable {k : Nat} {f Cl : Addr} {fd : FuncData} {ps : List Str} {F : FS} {dvs : List V} {dds : List D} {dus : List Value} {Xq : QX}
theorem se_call {q : Pos} (Fk : FnG X.prog X.w X.K X.mg X.base k f fd ps F) (hr : RoomG k X.A) (hg : Gl X x) (hm : X.mg x = some (.ref f)) (hk : W.keepIn X.K (.ref f) = true) (hb : Binds X.K fd ps dus) (hd : Vals dvs dus) (hdd : ∀ H, Reps X.K H dds dvs)
    (hX : ∀ cls fs C, Xq cls fs C → T.XQ cls fs ρ C) (h : SA T (a :: es) ρ AS) (hdb : (x == ("__debug__" : Str)) = false := by decide) (he : starEach (a :: es) X.env = (false, eval a X.env) :: starEach es X.env := by rfl) (hpl : (backTo pos (starEach es X.env)).any (·.1) = false := by rfl) :
    SE T (.Call (.Name x q) (a :: es) [] pos) ρ (eArgs AS fun ds => callW F Xq (ds ++ dds)) :=
  fun C Q z => we_call Fk.up hr hg hm hk hb hd hdd ((h C _ z).mono fun ds C1 h1 => h1.asks hX) hdb he hpl
def makeW (F : FS) (Xq : QX) (Cl : Addr) (ds : List D) : ME := fun C Q => ∃ μ r, C.Perm (μ ++ r) ∧ ∀ z, F (.raw (.ref z) :: ds) ((z, .ins Cl [] []) :: μ) (fun d μ' => d = .non ∧ Q (.raw (.ref z)) (μ' ++ r)) fun cls fs μ' => Xq cls fs (μ' ++ r)
abbrev pFrz (A : ME) : ME := fun C Q => A C fun d C1 => ∃ (i : Nat) (z Cl : Addr) (ns : List Str) (ds : List D), d = .raw (.ref z) ∧ C1[i]? = some (z, .ins Cl ns ds) ∧ Q (.ins Cl ns ds) (C1.eraseIdx i)
theorem se_frz (h : SE T e ρ A) : SE T e ρ (pFrz A) := fun C Q q => we_frzI (h C _ q)
theorem makeW.asks {ds : List D} {Q : QE} (h : makeW F Xq Cl ds C Q) (hX : ∀ cls fs C, Xq cls fs C → T.XQ cls fs ρ C) : AsksM T (up F) Cl ρ ds C Q :=
  let ⟨μ, r, pm, w⟩ := h
  ⟨μ, r, pm, fun z => ⟨_, _, w z, fun _ _ q => q, fun cls fs C' q => hX cls fs _ q⟩⟩
theorem se_make {q : Pos} (M : Mk X.K Cl f) (Fk : FnG X.prog X.w X.K X.mg X.base k f fd ps F) (hr : RoomG (k + 1) X.A) (hg : Gl X x) (hm : X.mg x = some (.ref Cl)) (hb : Binds X.K fd ps dus) (hd : Vals dvs dus) (hdd : ∀ H, Reps X.K H dds dvs)
    (hX : ∀ cls fs C, Xq cls fs C → T.XQ cls fs ρ C) (h : SA T (a :: es) ρ AS) (hdb : (x == ("__debug__" : Str)) = false := by decide) (he : starEach (a :: es) X.env = (false, eval a X.env) :: starEach es X.env := by rfl) (hpl : (backTo pos (starEach es X.env)).any (·.1) = false := by rfl) :
    SE T (.Call (.Name x q) (a :: es) [] pos) ρ (eArgs AS fun ds => makeW F Xq Cl (ds ++ dds)) :=
  fun C Q z => we_make M Fk.up hr hg hm hb hd hdd ((h C _ z).mono fun ds C1 h1 => h1.asks hX) hdb he hpl
end
end Tr

set_option maxHeartbeats 4000000
namespace Tr
open PySem L2 PySem.Spec PyProof.Rows
section
variable {X : Cx} {T : TX X} {ρ ρ' : Rho} {C : Cells} {N : TEnds} {e a b c o i elt : Expr} {pos pos' p p2 apos spos : Pos} {es tgs : List Expr} {st : Stmt} {rest body tb fb : List Stmt} {x m : Str} {A B A' : ME} {AS : MA} {mt mf mm : MB} {scope : Scope} {tg : Expr}

def pFld (K : W.Frag) (m : Str) (d : D) : ME := fun C Q => ∃ Cl ns ds d', InsD C d Cl ns ds ∧ Cls K Cl ∧ NoAttr K Cl m ∧ (ns.zip ds).lookup m = some d' ∧ Q d' C
theorem se_fld (h : SE T e ρ A) (hb : attributeBase e m X.env (eval e X.env) = eval e X.env := by rfl) : SE T (.Attribute e m pos) ρ (eApp A (pFld X.K m)) :=
  fun C Q q => we_fld hb ((h C _ q).mono fun d C1 ⟨Cl, ns, ds, d', h1, h2, h3, h4, h5⟩ => ⟨Cl, ns, ds, d', h1, h2, h3, h4, h5⟩)
variable {k : Nat} {f Cl g : Addr} {fd : FuncData} {ps : List Str} {F : FS} {dvs : List V} {dds : List D} {dus : List Value} {Xq : QX}
def pIx : D → D → ME
  | .tup ds, .int i => fun C Q => ∃ d, atI ds i = some d ∧ Q d C
  | .lst ds, .int i => fun C Q => ∃ d, atI ds i = some d ∧ Q d C
  | .str s, .int i => fun C Q => s.length ≤ 100000 ∧ ∃ c, atI s.cps.toList i = some c ∧ Q (.str ⟨#[c]⟩) C
  | d, .int i => fun C Q => ∃ ds d', LstD C d ds ∧ atI ds i = some d' ∧ Q d' C
  | _, _ => fun _ _ => False
theorem pIx_iw {x y : D} {Q : QE} (h : pIx x y C Q) : IW T x y C Q := by
  cases y with
  | int i =>
    cases x with
    | tup ds => obtain ⟨d, h1, h2⟩ := h; exact iw_tup h1 h2
    | lst ds => obtain ⟨d, h1, h2⟩ := h; exact iw_lst .l h1 h2
    | str s => obtain ⟨h0, c, h1, h2⟩ := h; exact iw_str h0 h1 h2
    | _ => obtain ⟨ds, d', h1, h2, h3⟩ := h; exact iw_lst h1 h2 h3
  | _ => cases x <;> exact False.elim h
theorem se_ix (ha : SE T a ρ A) (hb : SE T b ρ B) (hs : PlainIx b := by intro _ _; rfl) : SE T (.Subscript a b pos) ρ (eBin A B pIx) :=
  fun C Q h => we_ix ((ha C _ h).mono fun x C1 h1 => (hb C1 _ h1).mono fun y C2 h2 => pIx_iw h2) hs
abbrev MO := Cells → (Option Int → Cells → Prop) → Prop
def SO (T : TX X) (e : Option Expr) (ρ : Rho) (A : MO) : Prop := ∀ C Q, A C Q → WO T e ρ C Q
abbrev oNone : MO := fun C Q => Q none C
def pOI : D → MO
  | .int i => fun C Q => Q (some i) C
  | _ => fun _ _ => False
abbrev oSome (A : ME) : MO := fun C Q => A C fun d C1 => pOI d C1 Q
theorem so_none : SO T none ρ oNone := fun C Q q => wo_none q
theorem so_some (h : SE T e ρ A) : SO T (some e) ρ (oSome A) := fun C Q q => wo_some ((h C _ q).mono fun d C1 h1 => by
  cases d with
  | int i => exact ⟨i, rfl, h1⟩
  | _ => exact False.elim h1)
def pSl (d : D) (l u : Option Int) : ME := match d with
  | .tup ds => fun C Q => Q (.tup (cutD ds l u)) C
  | .lst ds => fun C Q => Q (.lst (cutD ds l u)) C
  | .str s => fun C Q => s.length ≤ 100000 ∧ Q (.str (cutS s l u)) C
  | d => fun C Q => ∃ ds, LstD C d ds ∧ Q (.lst (cutD ds l u)) C
abbrev eSl (A : ME) (L U : MO) : ME := fun C Q => A C fun d C1 => L C1 fun l C2 => U C2 fun u C3 => pSl d l u C3 Q
theorem WO.mono {e : Option Expr} {Q Q' : Option Int → Cells → Prop} (h : WO T e ρ C Q) (i : ∀ d C', Q d C' → Q' d C') : WO T e ρ C Q' :=
  PO.imp h fun σ H R ⟨H0, a, k⟩ => ⟨H0, a, fun j C' H' H0' p c q => k j C' H' H0' p c (i j C' q)⟩
theorem se_slice {lo hi : Option Expr} {L U : MO} (h : SE T e ρ A) (hl : SO T lo ρ L) (hu : SO T hi ρ U) : SE T (.Subscript e (.Slice lo hi none p2) pos) ρ (eSl A L U) :=
  fun C Q q => we_slice ((h C _ q).mono fun d C1 h1 => (hl C1 _ h1).mono fun l C2 h2 => (hu C2 _ h2).mono fun u C3 h3 => by
    cases d with
    | tup ds => exact sw_tup h3
    | lst ds => exact sw_lst .l h3
    | str s => exact sw_str h3.1 h3.2
    | _ => obtain ⟨ds, h4, h5⟩ := h3; exact sw_lst h4 h5)
def pRev (d : D) : ME := fun C Q => ∃ ds, LstD C d ds ∧ Q (.lst ds.reverse) C
def pRevC (d : D) : ME := fun C Q => ∃ ds, LstD C d ds ∧ ∀ p, Q (.raw (.ref p)) ((p, .lst ds.reverse) :: C)
theorem se_revC {k : Nat} {p1 p2 p3 : Pos} (h : SE T e ρ A) : SE T (.Subscript e (.Slice none none (some (.UnaryOp .USub (.Constant (.int 1) k p1) p2)) p3) pos) ρ (eApp A pRevC) := fun C Q q => we_revC (h C _ q)

def pIter (d : D) : MI := match d with
  | .lst ds => fun C Q => Q ds (fun _ => True) C
  | .tup ds => fun C Q => Q ds (fun _ => True) C
  | d => fun C Q => ∃ ds, SeqD C d ds ∧ Q ds (fun C' => SeqD C' d ds) C
abbrev iApp (A : ME) (O : D → MI) : MI := fun C Q => A C fun d C1 => O d C1 Q
theorem wi_iter {Q : QI} (h : Tr.WE T e ρ C fun d C1 => pIter d C1 Q) : WI T tg e ρ C Q := by
  refine PI.imp (pi_seq h) fun σ H R ⟨H0, at_, k⟩ => ⟨H0, at_, fun v d C1 H1 H01 p1 c1 r1 q => ?_⟩
  have gen : ∀ {d : D}, Rep X.K H01 d v → (∃ ds, SeqD C1 d ds ∧ Q ds (fun C' => SeqD C' d ds) C1) → ∃ a xs, v = .ref a ∧ ((SqL X.K H1 a xs ∧ R (Itl X.K a) H1) ∨ (SqT X.K H1 a xs ∧ R (Itt X.K a) H1)) := by
    rintro d r1 ⟨ds, hq, q⟩
    rcases hq with (e1 | ⟨z, e1, hz⟩) | e1
    · subst e1
      obtain ⟨a, vs, e2, g1, g2⟩ := r1
      subst e2
      exact ⟨a, vs, rfl, .inl ⟨Same.sqL c1.same g1, k _ _ _ C1 H1 H01 p1 c1 ((yields_list g1 g2).weak fun _ _ => trivial) q⟩⟩
    · subst e1
      obtain rfl : v = .ref z := r1
      obtain ⟨vs, g1, g2⟩ := c1.ok z _ hz
      refine ⟨z, vs, rfl, .inl ⟨.inl (.inl g1), k _ _ _ C1 H1 H01 p1 c1 (yields_cell.weak fun C' h => ?_) q⟩⟩
      rcases h with (h | ⟨z', h, hm⟩) | h
      · cases h
      · cases h; exact hm
      · cases h
    · subst e1
      obtain ⟨a, vs, e2, g1, g2⟩ := r1
      subst e2
      exact ⟨a, vs, rfl, .inr ⟨Same.sqT c1.same g1, k _ _ _ C1 H1 H01 p1 c1 ((yields_tup g1 g2).weak fun _ _ => trivial) q⟩⟩
  cases d with
  | lst ds =>
    obtain ⟨a, vs, e2, g1, g2⟩ := r1
    subst e2
    exact ⟨a, vs, rfl, .inl ⟨Same.sqL c1.same g1, k _ _ _ C1 H1 H01 p1 c1 (yields_list g1 g2) q⟩⟩
  | tup ds =>
    obtain ⟨a, vs, e2, g1, g2⟩ := r1
    subst e2
    exact ⟨a, vs, rfl, .inr ⟨Same.sqT c1.same g1, k _ _ _ C1 H1 H01 p1 c1 (yields_tup g1 g2) q⟩⟩
  | _ => exact gen r1 q
theorem si_iter (h : SE T e ρ A) : SI T tg e ρ (iApp A pIter) := fun C Q q => wi_iter (h C _ q)
def pIterS (d : D) : MI := match d with
  | .str s => fun C Q => Q (signsD s) (fun _ => True) C
  | _ => fun _ _ => False
theorem si_iterS (h : SE T e ρ A) : SI T tg e ρ (iApp A pIterS) := fun C Q q => wi_str ((h C _ q).mono fun d C1 h1 => by
  cases d with
  | str s => exact ⟨s, rfl, h1⟩
  | _ => exact False.elim h1)
def pRange1 : D → MI
  | .int j => fun C Q => (-(2 ^ 62) ≤ j ∧ j < 2 ^ 62) ∧ Q (rangeD 0 j.toNat) (fun _ => True) C
  | _ => fun _ _ => False
def pRange2 : D → D → MI
  | .int i, .int j => fun C Q => (-(2 ^ 62) ≤ i ∧ i < 2 ^ 62 ∧ -(2 ^ 62) ≤ j ∧ j < 2 ^ 62) ∧ Q (rangeD i (j - i).toNat) (fun _ => True) C
  | _, _ => fun _ _ => False
theorem si_range1 (hg : Gl X "range") (hm : X.mg "range" = none) (h : SE T a ρ A) (hs : starEach [a] X.env = [(false, eval a X.env)] := by rfl) (hs2 : starEach [a] X.env = (false, eval a X.env) :: starEach [] X.env := by rfl) : SI T tg (.Call (.Name "range" p) [a] [] pos) ρ (iApp A pRange1) :=
  fun C Q q => wi_range1 hg hm ((h C _ q).mono fun d C1 h1 => by
    cases d with
    | int j => exact ⟨j, rfl, h1.1.1, h1.1.2, h1.2⟩
    | _ => exact False.elim h1) hs hs2
def pEnum (d : D) : MI := match d with
  | .lst ds => fun C Q => Q (enumD 0 ds) (fun _ => True) C
  | .tup ds => fun C Q => Q (enumD 0 ds) (fun _ => True) C
  | d => fun C Q => ∃ ds, SeqD C d ds ∧ Q (enumD 0 ds) (fun C' => SeqD C' d ds) C
theorem wi_enumI {Q : QI} {elts : List Expr} {kk : Nat} {tpos : Pos} (hg : Gl X "enumerate") (hm : X.mg "enumerate" = none) (h : Tr.WE T e ρ C fun d C1 => pEnum d C1 Q)
    (hs : starEach [e] X.env = [(false, eval e X.env)] := by rfl) (hs2 : starEach [e] X.env = (false, eval e X.env) :: starEach [] X.env := by rfl) : WI T (.Tuple elts kk tpos) (.Call (.Name "enumerate" p) [e] [] pos) ρ C Q :=
  wi_enum hg hm (h.mono fun d C1 h1 => by
    have gen : ∀ {d : D}, (∃ ds, SeqD C1 d ds ∧ Q (enumD 0 ds) (fun C' => SeqD C' d ds) C1) → (∀ ds, d ≠ .lst ds) → (∀ ds, d ≠ .tup ds) → ∃ ds, ((d = .lst ds ∨ d = .tup ds) ∧ Q (enumD 0 ds) (fun _ => True) C1) ∨ (∃ z, d = .raw (.ref z) ∧ (z, Cell.lst ds) ∈ C1 ∧ Q (enumD 0 ds) (fun C => (z, Cell.lst ds) ∈ C) C1) := by
      rintro d ⟨ds, hq, q⟩ n1 n2
      rcases hq with (e1 | ⟨z, e1, hz⟩) | e1
      · exact absurd e1 (n1 _)
      · refine ⟨ds, .inr ⟨z, e1, hz, ?_⟩⟩
        have : (fun C' => SeqD C' d ds) = fun C => (z, Cell.lst ds) ∈ C := by
          subst e1
          funext C'
          refine propext ⟨fun h => ?_, fun h => .inl (.inr ⟨z, rfl, h⟩)⟩
          rcases h with (h | ⟨z', h, hm⟩) | h
          · cases h
          · cases h; exact hm
          · cases h
        rw [← this]; exact q
      · exact absurd e1 (n2 _)
    cases d with
    | lst ds => exact ⟨ds, .inl ⟨.inl rfl, h1⟩⟩
    | tup ds => exact ⟨ds, .inl ⟨.inr rfl, h1⟩⟩
    | _ => exact gen h1 (fun _ h => by cases h) (fun _ h => by cases h)) hs hs2
theorem si_enum {elts : List Expr} {kk : Nat} {tpos : Pos} (hg : Gl X "enumerate") (hm : X.mg "enumerate" = none) (h : SE T e ρ A)
    (hs : starEach [e] X.env = [(false, eval e X.env)] := by rfl) (hs2 : starEach [e] X.env = (false, eval e X.env) :: starEach [] X.env := by rfl) : SI T (.Tuple elts kk tpos) (.Call (.Name "enumerate" p) [e] [] pos) ρ (iApp A pEnum) :=
  fun C Q q => wi_enumI hg hm (h C _ q) hs hs2

def lcB (P : Cells → Prop) (f : D → ME) (Q : QE) : List D → List D → Cells → Prop
  | [], acc, C => P C ∧ Q (.lst acc) C
  | d :: r, acc, C => P C ∧ f d C fun y C2 => acc.length < 100000 ∧ lcB P f Q r (acc ++ [y]) C2
def lcB1 (P : Cells → Prop) (t : D → MT) (f : D → ME) (Q : QE) : List D → List D → Cells → Prop
  | [], acc, C => P C ∧ Q (.lst acc) C
  | d :: r, acc, C => P C ∧ t d C fun k C1 => if k = true then f d C1 fun y C2 => acc.length < 100000 ∧ lcB1 P t f Q r (acc ++ [y]) C2 else lcB1 P t f Q r acc C1
abbrev eLc (I : MI) (f : D → ME) : ME := fun C Q => I C fun ds P C1 => lcB P f Q ds [] C1
abbrev eLc1 (I : MI) (t : D → MT) (f : D → ME) : ME := fun C Q => I C fun ds P C1 => lcB1 P t f Q ds [] C1
abbrev SEb (T : TX X) (scope : Scope) (e : Expr) (ρ : Rho) (A : ME) : Prop := ∀ (s : Shared) (H : Hp) (Ca : Addr) (cl : List (Str × Addr)) (fp : List Addr), SE (T.blk s H scope (compEnvC scope cl Ca X.env) fp) e ρ A
abbrev STb (T : TX X) (scope : Scope) (e : Expr) (ρ : Rho) (A : MT) : Prop := ∀ (s : Shared) (H : Hp) (Ca : Addr) (cl : List (Str × Addr)) (fp : List Addr), ST (T.blk s H scope (compEnvC scope cl Ca X.env) fp) e ρ A
structure BdOk (bd : Bind) (ρ : Rho) (T : TX X) (scope : Scope) (e : Expr) (f : D → ME) : Prop where
  run : ∀ d C Q, f d C Q → ∃ ρ', bd.to d ρ = some ρ' ∧ ∀ (s : Shared) (H : Hp) (Ca : Addr) (cl : List (Str × Addr)) (fp : List Addr), Tr.WE (T.blk s H scope (compEnvC scope cl Ca X.env) fp) e ρ' C Q
structure BdOkT (bd : Bind) (ρ : Rho) (T : TX X) (scope : Scope) (e : Expr) (f : D → MT) : Prop where
  run : ∀ d C Q, f d C Q → ∃ ρ', bd.to d ρ = some ρ' ∧ ∀ (s : Shared) (H : Hp) (Ca : Addr) (cl : List (Str × Addr)) (fp : List Addr), WT (T.blk s H scope (compEnvC scope cl Ca X.env) fp) e ρ' C Q
theorem bd_one {j : Nat} {f : D → ME} {r : D → Rho} (hr : ∀ d, ρ.set j (some d) = r d) (h : ∀ d, SEb T scope e (r d) (f d)) : BdOk (.one j) ρ T scope e f :=
  ⟨fun d C Q q => ⟨_, rfl, fun s H Ca cl fp => by rw [hr d]; exact h d s H Ca cl fp C Q q⟩⟩
theorem bdT_one {j : Nat} {f : D → MT} {r : D → Rho} (hr : ∀ d, ρ.set j (some d) = r d) (h : ∀ d, STb T scope e (r d) (f d)) : BdOkT (.one j) ρ T scope e f :=
  ⟨fun d C Q q => ⟨_, rfl, fun s H Ca cl fp => by rw [hr d]; exact h d s H Ca cl fp C Q q⟩⟩
def un2 {β : Sort _} (d : D) (f : D → D → Cells → β → Prop) : Cells → β → Prop := match d with
  | .tup [x, y] => f x y
  | _ => fun _ _ => False
def un3 {β : Sort _} (d : D) (f : D → D → D → Cells → β → Prop) : Cells → β → Prop := match d with
  | .tup [x, y, z] => f x y z
  | _ => fun _ _ => False
theorem un2_ex {β : Sort _} {d : D} {f : D → D → Cells → β → Prop} {q : β} (h : un2 d f C q) : ∃ x y, d = .tup [x, y] ∧ f x y C q := by
  unfold un2 at h
  split at h
  · exact ⟨_, _, rfl, h⟩
  · exact False.elim h
theorem bd_two {j k : Nat} {f : D → D → ME} {r : D → D → Rho} (hr : ∀ x y, (ρ.set j (some x)).set k (some y) = r x y) (h : ∀ x y, SEb T scope e (r x y) (f x y)) : BdOk (.tup [j, k]) ρ T scope e (fun d => un2 d f) :=
  ⟨fun d C Q q => by
    obtain ⟨x, y, e1, q⟩ := un2_ex q
    subst e1
    exact ⟨_, rfl, fun s H Ca cl fp => by show Tr.WE _ _ ((ρ.set j (some x)).set k (some y)) _ _; rw [hr]; exact h x y s H Ca cl fp C Q q⟩⟩
theorem bdT_two {j k : Nat} {f : D → D → MT} {r : D → D → Rho} (hr : ∀ x y, (ρ.set j (some x)).set k (some y) = r x y) (h : ∀ x y, STb T scope e (r x y) (f x y)) : BdOkT (.tup [j, k]) ρ T scope e (fun d => un2 d f) :=
  ⟨fun d C Q q => by
    obtain ⟨x, y, e1, q⟩ := un2_ex q
    subst e1
    exact ⟨_, rfl, fun s H Ca cl fp => by show WT _ _ ((ρ.set j (some x)).set k (some y)) _ _; rw [hr]; exact h x y s H Ca cl fp C Q q⟩⟩
theorem lc_mirror {bd : Bind} {vs : List Nat} {P : Cells → Prop} {Q Q' : QE} {f : D → ME} (hb : BdOk bd (wipeR ρ vs) T scope elt f) (i : ∀ d C, Q d C → Q' d C) : ∀ {ds acc : List D} {C : Cells}, lcB P f Q ds acc C → LcW T scope bd elt vs ρ P Q' ds acc C
  | [], acc, C, h => ⟨h.1, i _ _ h.2⟩
  | d :: r, acc, C, ⟨hp, h⟩ => by
    obtain ⟨ρ', e1, h1⟩ := hb.run d C _ h
    exact ⟨hp, ρ', e1, fun s H Ca cl fp => (h1 s H Ca cl fp).mono fun y C2 ⟨hl, q⟩ => ⟨hl, lc_mirror hb i q⟩⟩
theorem lc1_mirror {bd : Bind} {vs : List Nat} {P : Cells → Prop} {Q Q' : QE} {t : D → MT} {f : D → ME} (ht : BdOkT bd (wipeR ρ vs) T scope i t) (hb : BdOk bd (wipeR ρ vs) T scope elt f) (im : ∀ d C, Q d C → Q' d C) : ∀ {ds acc : List D} {C : Cells}, lcB1 P t f Q ds acc C → LcW1 T scope bd i elt vs ρ P Q' ds acc C
  | [], acc, C, h => ⟨h.1, im _ _ h.2⟩
  | d :: r, acc, C, ⟨hp, h⟩ => by
    obtain ⟨ρ', e1, h1⟩ := ht.run d C _ h
    refine ⟨hp, ρ', e1, fun s H Ca cl fp => (h1 s H Ca cl fp).mono fun k C1 q => ?_⟩
    cases k with
    | false => exact lc1_mirror ht hb im q
    | true =>
      obtain ⟨ρ2, e2, h2⟩ := hb.run d C1 _ q
      rw [e1] at e2; cases e2
      exact fun s H Ca cl fp => (h2 s H Ca cl fp).mono fun y C2 ⟨hl, q⟩ => ⟨hl, lc1_mirror ht hb im q⟩
theorem se_lc {iter : Expr} {I : MI} {f : D → ME} (own : List (Str × Nat)) (bd : Bind) (hc : X.calm = true) (hN : X.N.Nodup) (ok : BlkOk X.N X.env.scope scope own)
    (hg : ∀ (s : Shared) (H : Hp) (Ca : Addr) (cl : List (Str × Addr)) (fp : List Addr), PG (X.blk s H scope (compEnvC scope cl Ca X.env) fp) tg (bd.g X.K)) (hv : ∀ i ∈ bd.slots, i ∈ own.map (·.2))
    (hI : SI T tg iter ρ I) (hb : BdOk bd (wipeR ρ (own.map (·.2))) T scope elt f) (hs : ∀ x, foldedSetIterable iter X.env x = pure x := by intro _; rfl) : SE T (.ListComp elt [⟨tg, iter, [], 0⟩] scope pos) ρ (eLc I f) :=
  fun C Q q => we_lc own bd hc hN ok hg hv ((hI C _ q).mono fun ds P C1 h => lc_mirror hb (fun _ _ q => q) h) hs
theorem se_lc1 {iter : Expr} {I : MI} {t : D → MT} {f : D → ME} (own : List (Str × Nat)) (bd : Bind) (hc : X.calm = true) (hN : X.N.Nodup) (ok : BlkOk X.N X.env.scope scope own)
    (hg : ∀ (s : Shared) (H : Hp) (Ca : Addr) (cl : List (Str × Addr)) (fp : List Addr), PG (X.blk s H scope (compEnvC scope cl Ca X.env) fp) tg (bd.g X.K)) (hv : ∀ i ∈ bd.slots, i ∈ own.map (·.2))
    (hI : SI T tg iter ρ I) (ht : BdOkT bd (wipeR ρ (own.map (·.2))) T scope i t) (hb : BdOk bd (wipeR ρ (own.map (·.2))) T scope elt f) (hs : ∀ x, foldedSetIterable iter X.env x = pure x := by intro _; rfl) : SE T (.ListComp elt [⟨tg, iter, [i], 0⟩] scope pos) ρ (eLc1 I t f) :=
  fun C Q q => we_lc1 own bd hc hN ok hg hv ((hI C _ q).mono fun ds P C1 h => lc1_mirror ht hb (fun _ _ q => q) h) hs

abbrev mSet (A : ME) (k : D → MB) : MB := fun C => A C fun d C1 => k d C1
abbrev mExp (A : ME) (m : MB) : MB := fun C => A C fun _ C1 => m C1
abbrev mRet (A : ME) (Q : QE) : MB := fun C => A C Q
abbrev mIf (t : MT) (m1 m2 : MB) : MB := fun C => t C fun k C1 => if k = true then m1 C1 else m2 C1
theorem sb_nil (h : ∀ C, mm C → N.nx ρ C) : SB T [] ρ mm N := fun C q => wss_nil (h C q)
theorem sb_more {mm : MB} (h : SB T rest ρ mm N) : SB T [] ρ mm { N with nx := fun ρ1 C1 => WSs T rest ρ1 C1 N } := fun C q => wss_nil (h C q)
theorem sb_le {α : Type} {enc : α → Rho} {J : α → MB} {W : QS} {V B' : QS} {R : QE} {s : α} (hJ : ∀ a ρ' C, LeR (enc a) ρ' → J a C → W ρ' C) (l : LeR (enc s) ρ) : SB T [] ρ (J s) { nx := W, rt := R, bk := V, ct := B' } := fun C q => wss_nil (hJ s _ C l q)
theorem sb_set {kk : D → MB} {r : D → Rho} (j : Nat) (hN : X.N.Nodup) (hi : X.N[j]? = some x) (hx : Loc X.env.scope x) (hr : ∀ d, ρ.set j (some d) = r d) (h : SE T e ρ A) (hk : ∀ d, SB T rest (r d) (kk d) N)
    (hs : swapsWith e (some (.Name x pos')) pos.line X.env = pure false := by rfl) (hf : X.fn x = true ∨ X.env.scope.names.lookup x = some .local := by first | exact .inl rfl | exact .inr rfl | assumption) :
    SB T (.Assign [.Name x pos'] e pos :: rest) ρ (mSet A kk) N :=
  fun C q => wss_cons (ws_set j hN hi hx ((h C _ q).mono fun d C1 h1 => by show WSs T rest (ρ.set j (some d)) C1 N; rw [hr]; exact hk d C1 h1) hs hf)
theorem sb_setLc {iter : Expr} {I : MI} {f : D → ME} {kk : D → MB} {r : D → Rho} {py : Pos} (own : List (Str × Nat)) (bd : Bind) (j : Nat) (hc : X.calm = true) (hN : X.N.Nodup) (hy : X.N[j]? = some x) (hyl : X.env.scope.names.lookup x = some .local)
    (hsw : swapsWith (.ListComp elt [⟨tg, iter, [], 0⟩] scope pos) (some (.Name x py)) spos.line X.env = pure true) (ok : BlkOk X.N X.env.scope scope own)
    (hg : ∀ (s : Shared) (H : Hp) (Ca : Addr) (cl : List (Str × Addr)) (fp : List Addr), PG (X.blk s H scope (compEnvC scope cl Ca X.env) fp) tg (bd.g X.K)) (hv : ∀ i ∈ bd.slots, i ∈ own.map (·.2))
    (hI : SI T tg iter ρ I) (hb : BdOk bd (wipeR ρ (own.map (·.2))) T scope elt f) (hr : ∀ d, ρ.set j (some d) = r d) (hk : ∀ d, SB T rest (r d) (kk d) N) (hs : ∀ x, foldedSetIterable iter X.env x = pure x := by intro _; rfl) :
    SB T (.Assign [.Name x py] (.ListComp elt [⟨tg, iter, [], 0⟩] scope pos) spos :: rest) ρ (mSet (eLc I f) kk) N :=
  fun C q => wss_cons (ws_setLc own bd j hc hN hy hyl hsw ok hg hv ((hI C _ q).mono fun ds P C1 h => lc_mirror hb (fun d C2 h => by show WSs T rest (ρ.set j (some d)) C2 N; rw [hr]; exact hk d C2 h) h) hs)
theorem sb_ret {Q : QE} (h : SE T e ρ A) (hQ : ∀ d C, Q d C → N.rt d C) : SB T (.Return (some e) pos :: rest) ρ (mRet A Q) N := fun C q => wss_cons (ws_ret ((h C _ q).mono hQ))
theorem sb_exp {m1 : MB} (h : SE T e ρ A) (hk : SB T rest ρ m1 N) (hs : swapsWith e none pos.line X.env = pure false := by rfl) : SB T (.Expr e pos :: rest) ρ (mExp A m1) N :=
  fun C q => wss_cons (ws_expr ((h C _ q).mono fun d C1 h1 => hk C1 h1) hs)
theorem sb_if {t : MT} (h : ST T c ρ t) (ht : SB T tb ρ mt { N with nx := fun ρ1 C1 => WSs T rest ρ1 C1 N }) (hf : SB T fb ρ mf { N with nx := fun ρ1 C1 => WSs T rest ρ1 C1 N }) : SB T (.If c tb fb pos :: rest) ρ (mIf t mt mf) N :=
  fun C q => wss_cons (ws_if ((h C _ q).mono fun k C1 h1 => by
    cases k with
    | true => exact ht C1 h1
    | false => exact hf C1 h1))
def mLoop {α : Type} (f : D → α → (α → MB) → (α → MB) → MB) (after : α → MB) (P : Cells → Prop) : List D → α → MB
  | [], s => fun C => P C ∧ after s C
  | d :: r, s => fun C => P C ∧ f d s (fun s' => mLoop f after P r s') after C
abbrev mFor {α : Type} (I : MI) (f : D → α → (α → MB) → (α → MB) → MB) (s0 : α) (after : α → MB) : MB := fun C => I C fun ds P C1 => mLoop f after P ds s0 C1
theorem loop_mirror {α : Type} {f : D → α → (α → MB) → (α → MB) → MB} {after : α → MB} {P : Cells → Prop} {enc : α → Rho}
    (hb : ∀ d s (nx bk : α → MB) (W V : QS), (∀ a ρ' C, LeR (enc a) ρ' → nx a C → W ρ' C) → (∀ a ρ' C, LeR (enc a) ρ' → bk a C → V ρ' C) → SG T tg d (enc s) body (f d s nx bk) { nx := W, rt := N.rt, bk := V, ct := W })
    (ha : ∀ a ρ' C, LeR (enc a) ρ' → after a C → N.nx ρ' C) : ∀ {ds : List D} {s : α} {ρ : Rho} {C : Cells}, LeR (enc s) ρ → mLoop f after P ds s C → ForW T tg body P N ds ρ C
  | [], s, ρ, C, l, ⟨hp, h⟩ => ⟨hp, ha s ρ C l h⟩
  | d :: r, s, ρ, C, l, ⟨hp, h⟩ => ⟨hp, wg_forget l (hb d s (fun s' => mLoop f after P r s') after (ForW T tg body P N r) N.nx (fun a ρ' C l h => loop_mirror hb ha l h) ha C h)⟩
theorem sb_for {α : Type} {f : D → α → (α → MB) → (α → MB) → MB} {iter : Expr} {I : MI} {s0 : α} {after : α → MB} (enc : α → Rho) (hc : X.calm = true) (hI : SI T tg iter ρ I) (h0 : LeR (enc s0) ρ)
    (hb : ∀ d s (nx bk : α → MB) (W V : QS), (∀ a ρ' C, LeR (enc a) ρ' → nx a C → W ρ' C) → (∀ a ρ' C, LeR (enc a) ρ' → bk a C → V ρ' C) → SG T tg d (enc s) body (f d s nx bk) { nx := W, rt := N.rt, bk := V, ct := W })
    (ha : ∀ s, SB T rest (enc s) (after s) N) (hs : ∀ x, foldedSetIterable iter X.env x = pure x := by intro _; rfl) : SB T (.For tg iter body [] pos :: rest) ρ (mFor I f s0 after) N :=
  fun C q => wss_cons (ws_for hc ((hI C _ q).mono fun ds P C1 h => loop_mirror (N := { N with nx := fun ρ1 C1 => WSs T rest ρ1 C1 N }) hb (fun a ρ' C l h => wss_forget l (ha a C h)) h0 h) hs)
theorem sg_name {d : D} {r : Rho} (j : Nat) (hr : ρ.set j (some d) = r) (h : SB T body r mm N) (hg : PG X (.Name x pos) (gName j)) : SG T (.Name x pos) d ρ body mm N :=
  fun C q => wg_name j (by rw [hr]; exact h C q) hg
def mUn2 (d : D) (f : D → D → MB) : MB := match d with
  | .tup [x, y] => f x y
  | _ => fun _ => False
def mUn3 (d : D) (f : D → D → D → MB) : MB := match d with
  | .tup [x, y, z] => f x y z
  | _ => fun _ => False
def mUn4 (d : D) (f : D → D → D → D → MB) : MB := match d with
  | .tup [x, y, z, u] => f x y z u
  | _ => fun _ => False
def mUn5 (d : D) (f : D → D → D → D → D → MB) : MB := match d with
  | .tup [x, y, z, u, v] => f x y z u v
  | _ => fun _ => False
theorem mUn2_ex {d : D} {f : D → D → MB} (h : mUn2 d f C) : ∃ x y, d = .tup [x, y] ∧ f x y C := by
  unfold mUn2 at h
  split at h
  · exact ⟨_, _, rfl, h⟩
  · exact False.elim h
def GsOk (T : TX X) (tgs : List Expr) (ds : List D) (ρ r : Rho) : Prop := ∀ (C : Cells) (Q : QS), Q r C → WGs T tgs ds ρ C Q
theorem gs_nil : GsOk T [] [] ρ ρ := fun C Q q => wgs_nil q
theorem gs_cons {d : D} {ds : List D} {r : Rho} (j : Nat) (hg : PG X (.Name x pos) (gName j)) (h : GsOk T tgs ds (ρ.set j (some d)) r)
    (hs : (assignEach (.Name x pos :: tgs) X.env).map (·.2) = assign (.Name x pos) X.env :: (assignEach tgs X.env).map (·.2) := by rfl) : GsOk T (.Name x pos :: tgs) (d :: ds) ρ r :=
  fun C Q q => wgs_cons (wg_name j (h C Q q) hg) hs
theorem wg_tupG {tgs : List Expr} {kk : Nat} {ds : List D} {Q : QS} {r : Rho} (hc : X.calm = true) (h : GsOk T tgs ds ρ r) (q : Q r C) (hn : (assignEach tgs X.env).length = ds.length) (hst : (assignEach tgs X.env).findIdx? (·.1) = none := by rfl) : WG T (.Tuple tgs kk pos) (.tup ds) ρ C Q :=
  wg_tup hc (h C Q q) rfl hn hst
theorem sg_two {d : D} {kk : Nat} {f : D → D → MB} {r : D → D → Rho} (hc : X.calm = true) (h : ∀ x y, GsOk T tgs [x, y] ρ (r x y)) (hb : ∀ x y, SB T body (r x y) (f x y) N) (hn : (assignEach tgs X.env).length = 2 := by rfl) (hst : (assignEach tgs X.env).findIdx? (·.1) = none := by rfl) : SG T (.Tuple tgs kk pos) d ρ body (mUn2 d f) N :=
  fun C q => by
    obtain ⟨x, y, e, q⟩ := mUn2_ex q
    subst e
    exact wg_tupG hc (h x y) (hb x y C q) hn hst
theorem sb_asg {kk : D → MB} (h : SE T e ρ A) (hk : ∀ d, SG T tg d ρ rest (kk d) N) (hs : swapsWithSole [tg] e pos.line X.env = pure false := by rfl) (hw : swappedStores [tg] e X.env = pure none := by rfl)
    (h1 : (assignEach [tg] X.env).map (·.2) = [assign tg X.env] := by rfl) : SB T (.Assign [tg] e pos :: rest) ρ (mSet A kk) N :=
  fun C q => wss_cons (ws_asg ((h C _ q).mono fun d C1 h1 => hk d C1 h1) hs hw h1)
theorem sb_par {kk : D → D → MB} {r : D → D → Rho} {px py pt pt2 : Pos} {y : Str} {kt k2 : Nat} (i j : Nat) (hN : X.N.Nodup) (hi : X.N[i]? = some x) (hj : X.N[j]? = some y) (hij : i ≠ j) (hx : X.env.scope.names.lookup x = some .local) (hy : X.env.scope.names.lookup y = some .local)
    (hw : swappedStores [.Tuple [.Name x px, .Name y py] kt pt] (.Tuple [a, b] k2 pt2) X.env = pure (some [x, y])) (ha : SE T a ρ A) (hb : SE T b ρ B) (hr : ∀ d d2, (ρ.set i (some d)).set j (some d2) = r d d2) (hk : ∀ d d2, SB T rest (r d d2) (kk d d2) N)
    (hs : swapsWithSole [.Tuple [.Name x px, .Name y py] kt pt] (.Tuple [a, b] k2 pt2) pos.line X.env = pure false := by rfl) (hc : X.calm = true := by rfl)
    (hst : starEach [a, b] X.env = (false, eval a X.env) :: starEach [b] X.env := by rfl) (hst2 : starEach [b] X.env = (false, eval b X.env) :: starEach [] X.env := by rfl) :
    SB T (.Assign [.Tuple [.Name x px, .Name y py] kt pt] (.Tuple [a, b] k2 pt2) pos :: rest) ρ (mSet A fun d => mSet B fun d2 => kk d d2) N :=
  fun C q => wss_cons (ws_par i j hN hi hj hij hx hy hw (wa_cons ((ha C _ q).mono fun d C1 h1 => wa_cons ((hb C1 _ h1).mono fun d2 C2 h2 => wa_nil ⟨d, d2, rfl, by show WSs T rest _ C2 N; rw [hr]; exact hk d d2 C2 h2⟩) hst2) hst) hs hc)
end
end Tr

set_option maxHeartbeats 4000000
namespace Tr
open PySem L2 PySem.Spec PyProof.Rows
section
variable {X : Cx} {T : TX X} {ρ ρ' : Rho} {C : Cells} {N : TEnds} {e a b c o i elt : Expr} {pos pos' p p2 apos cpos : Pos} {es tgs : List Expr} {st : Stmt} {rest body tb fb : List Stmt} {x m : Str} {A B A' : ME} {AS : MA} {mt mf mm : MB} {Q : QE}

def oAdd : D → D → ME
  | .int i, .int j => fun C Q => Q (.int (i + j)) C
  | .str x, .str y => fun C Q => x.length + y.length ≤ 100000 ∧ Q (.str (x ++ y)) C
  | .tup xs, .tup ys => fun C Q => xs.length + ys.length ≤ 100000 ∧ Q (.tup (xs ++ ys)) C
  | .lst xs, .lst ys => fun C Q => xs.length + ys.length ≤ 100000 ∧ Q (.lst (xs ++ ys)) C
  | x, y => fun C Q => ∃ xs ys, LstD C x xs ∧ LstD C y ys ∧ xs.length + ys.length ≤ 100000 ∧ Q (.lst (xs ++ ys)) C
theorem oAdd_ok (x y : D) (C : Cells) (Q : QE) (h : oAdd x y C Q) : OW T (binaryOp .Add) x y C Q := by
  unfold oAdd at h
  split at h
  · exact ow_add h
  · exact ow_add_str h.1 h.2
  · exact ow_catT h.1 h.2
  · exact ow_cat .l .l h.1 h.2
  · obtain ⟨xs, ys, h1, h2, h3, h4⟩ := h; exact ow_cat h1 h2 h3 h4
def oAddC (x y : D) : ME := fun C Q => ∃ xs ys, LstD C x xs ∧ LstD C y ys ∧ xs.length + ys.length ≤ 100000 ∧ ∀ p, Q (.raw (.ref p)) ((p, .lst (xs ++ ys)) :: C)
theorem oAddC_ok (x y : D) (C : Cells) (Q : QE) (h : oAddC x y C Q) : OW T (binaryOp .Add) x y C Q := by
  obtain ⟨xs, ys, h1, h2, h3, h4⟩ := h; exact ow_catC h1 h2 h3 h4
def oSub : D → D → ME
  | .int i, .int j => fun C Q => Q (.int (i - j)) C
  | _, _ => fun _ _ => False
theorem oSub_ok (x y : D) (C : Cells) (Q : QE) (h : oSub x y C Q) : OW T (binaryOp .Sub) x y C Q := by
  unfold oSub at h; split at h
  · exact ow_sub h
  · exact h.elim
def oMul : D → D → ME
  | .int i, .int j => fun C Q => CMul i j ∧ Q (.int (i * j)) C
  | _, _ => fun _ _ => False
theorem oMul_ok (x y : D) (C : Cells) (Q : QE) (h : oMul x y C Q) : OW T (binaryOp .Mult) x y C Q := by
  unfold oMul at h; split at h
  · exact ow_mul h.1 h.2
  · exact h.elim
def oFdiv : D → D → ME
  | .int i, .int j => fun C Q => (0 < j ∧ j < 1073741824) ∧ Q (.int (i / j)) C
  | _, _ => fun _ _ => False
theorem oFdiv_ok (x y : D) (C : Cells) (Q : QE) (h : oFdiv x y C Q) : OW T (binaryOp .FloorDiv) x y C Q := by
  unfold oFdiv at h; split at h
  · exact ow_fdiv h.1 h.2
  · exact h.elim
def oMod : D → D → ME
  | .int i, .int j => fun C Q => 0 < j ∧ Q (.int (i % j)) C
  | _, _ => fun _ _ => False
theorem oMod_ok (x y : D) (C : Cells) (Q : QE) (h : oMod x y C Q) : OW T (binaryOp .Mod) x y C Q := by
  unfold oMod at h; split at h
  · exact ow_mod h.1 h.2
  · exact h.elim
def oPow : D → D → ME
  | .int i, .int j => fun C Q => CPow i j ∧ Q (.int (i ^ j.toNat)) C
  | _, _ => fun _ _ => False
theorem oPow_ok (x y : D) (C : Cells) (Q : QE) (h : oPow x y C Q) : OW T (binaryOp .Pow) x y C Q := by
  unfold oPow at h; split at h
  · exact ow_pow h.1 h.2
  · exact h.elim
theorem ow_lt_str {x y : Str} (q : Q (.bl (decide (x.cps.toList < y.cps.toList))) C) : OW T (compareOp .Lt) (.str x) (.str y) C Q :=
  ow_look (d := .bl (decide (x.cps.toList < y.cps.toList))) op_lt_str (fun u v H H0 c r1 r2 => by cases r1; cases r2; exact ⟨.bl (decide (x.cps.toList < y.cps.toList)), rfl, fun R k => ⟨x, y, rfl, rfl, k⟩⟩) q
theorem ow_le_str {x y : Str} (q : Q (.bl (!decide (y.cps.toList < x.cps.toList))) C) : OW T (compareOp .LtE) (.str x) (.str y) C Q :=
  ow_look (d := .bl (!decide (y.cps.toList < x.cps.toList))) op_le_str (fun u v H H0 c r1 r2 => by cases r1; cases r2; exact ⟨.bl (!decide (y.cps.toList < x.cps.toList)), rfl, fun R k => ⟨x, y, rfl, rfl, k⟩⟩) q
def oLt : D → D → ME
  | .int i, .int j => fun C Q => Q (.bl (decide (i < j))) C
  | .str x, .str y => fun C Q => Q (.bl (decide (x.cps.toList < y.cps.toList))) C
  | _, _ => fun _ _ => False
theorem oLt_ok (x y : D) (C : Cells) (Q : QE) (h : oLt x y C Q) : OW T (compareOp .Lt) x y C Q := by
  unfold oLt at h; split at h
  · exact ow_lt h
  · exact ow_lt_str h
  · exact h.elim
def oLe : D → D → ME
  | .int i, .int j => fun C Q => Q (.bl (decide (i ≤ j))) C
  | .str x, .str y => fun C Q => Q (.bl (!decide (y.cps.toList < x.cps.toList))) C
  | _, _ => fun _ _ => False
theorem oLe_ok (x y : D) (C : Cells) (Q : QE) (h : oLe x y C Q) : OW T (compareOp .LtE) x y C Q := by
  unfold oLe at h; split at h
  · exact ow_le h
  · exact ow_le_str h
  · exact h.elim
def oGt : D → D → ME
  | .int i, .int j => fun C Q => Q (.bl (decide (j < i))) C
  | _, _ => fun _ _ => False
theorem oGt_ok (x y : D) (C : Cells) (Q : QE) (h : oGt x y C Q) : OW T (compareOp .Gt) x y C Q := by
  unfold oGt at h; split at h
  · exact ow_gt h
  · exact h.elim
def oGe : D → D → ME
  | .int i, .int j => fun C Q => Q (.bl (decide (j ≤ i))) C
  | _, _ => fun _ _ => False
theorem oGe_ok (x y : D) (C : Cells) (Q : QE) (h : oGe x y C Q) : OW T (compareOp .GtE) x y C Q := by
  unfold oGe at h; split at h
  · exact ow_ge h
  · exact h.elim
def oEq (own : D → D → ME) : D → D → ME
  | .int i, .int j => fun C Q => Q (.bl (decide (i = j))) C
  | .str x, .str y => fun C Q => Q (.bl (decide (x = y))) C
  | .bl x, .bl y => fun C Q => Q (.bl (x == y)) C
  | x, y => fun C Q => (∃ p1 p2, PyR C x p1 ∧ PyR C y p2 ∧ SeqAt.shaped p1 = true ∧ SeqAt.shaped p2 = true ∧ Q (.bl (PyData.eqv p1 p2)) C) ∨ own x y C Q
theorem oEq_ok {own : D → D → ME} (hu : X.A.units + 64 < cLine) (ho : ∀ x y C Q, own x y C Q → OW T (compareOp .Eq) x y C Q) (x y : D) (C : Cells) (Q : QE) (h : oEq own x y C Q) : OW T (compareOp .Eq) x y C Q := by
  unfold oEq at h; split at h
  · exact ow_eq_int h
  · exact ow_eq_str h
  · exact ow_eq_bl h
  · rcases h with ⟨p1, p2, h1, h2, h3, h4, h5⟩ | h
    · exact ow_eq hu h1 h2 h3 h4 h5
    · exact ho _ _ _ _ h
def oNe (own : D → D → ME) : D → D → ME
  | .int i, .int j => fun C Q => Q (.bl (!decide (i = j))) C
  | .str x, .str y => fun C Q => Q (.bl (!decide (x = y))) C
  | .bl x, .bl y => fun C Q => Q (.bl (x != y)) C
  | x, y => fun C Q => (∃ p1 p2, PyR C x p1 ∧ PyR C y p2 ∧ SeqAt.shaped p1 = true ∧ SeqAt.shaped p2 = true ∧ Q (.bl (!PyData.eqv p1 p2)) C) ∨ own x y C Q
theorem oNe_ok {own : D → D → ME} (hu : X.A.units + 64 < cLine) (ho : ∀ x y C Q, own x y C Q → OW T (compareOp .NotEq) x y C Q) (x y : D) (C : Cells) (Q : QE) (h : oNe own x y C Q) : OW T (compareOp .NotEq) x y C Q := by
  unfold oNe at h; split at h
  · exact ow_ne_int h
  · exact ow_ne_str h
  · exact ow_ne_bl h
  · rcases h with ⟨p1, p2, h1, h2, h3, h4, h5⟩ | h
    · exact ow_ne hu h1 h2 h3 h4 h5
    · exact ho _ _ _ _ h
abbrev noOwn : D → D → ME := fun _ _ _ _ => False
theorem noOwn_ok {f : Value → Value → Sem Value} (x y : D) (C : Cells) (Q : QE) (h : noOwn x y C Q) : OW T f x y C Q := h.elim
theorem ow_is_bl {x y : Bool} (q : Q (.bl (decide (x = y))) C) : OW T (compareOp .Is) (.bl x) (.bl y) C Q :=
  ow_look (d := .bl (decide (x = y))) op_isBl (fun u v H H0 c r1 r2 => by cases r1; cases r2; exact ⟨.bl (decide (x = y)), rfl, fun R k => ⟨x, y, rfl, rfl, k⟩⟩) q
theorem ow_isnot_bl {x y : Bool} (q : Q (.bl (!decide (x = y))) C) : OW T (compareOp .IsNot) (.bl x) (.bl y) C Q :=
  ow_look (d := .bl (!decide (x = y))) op_notBl (fun u v H H0 c r1 r2 => by cases r1; cases r2; exact ⟨.bl (!decide (x = y)), rfl, fun R k => ⟨x, y, rfl, rfl, k⟩⟩) q
theorem ow_isN_ref {a : Addr} (q : Q (.bl false) C) : OW T (compareOp .Is) (.raw (.ref a)) .non C Q :=
  ow_look (d := .bl false) op_isN (fun x y H H0 c r1 r2 => by cases r1; cases r2; exact ⟨.bl false, rfl, fun R k => ⟨rfl, by rw [show decide (V.ref a = .non) = false from rfl]; exact k⟩⟩) q
theorem ow_isNotN_ref {a : Addr} (q : Q (.bl true) C) : OW T (compareOp .IsNot) (.raw (.ref a)) .non C Q :=
  ow_look (d := .bl true) op_notN (fun x y H H0 c r1 r2 => by cases r1; cases r2; exact ⟨.bl true, rfl, fun R k => ⟨rfl, by rw [show (!decide (V.ref a = .non)) = true from rfl]; exact k⟩⟩) q
def oIs : D → D → ME
  | .bl x, .bl y => fun C Q => Q (.bl (decide (x = y))) C
  | .raw (.ref _), .non => fun C Q => Q (.bl false) C
  | d, .non => fun C Q => (∀ w, d ≠ .raw w) ∧ Q (.bl (isNon d)) C
  | _, _ => fun _ _ => False
theorem oIs_ok (x y : D) (C : Cells) (Q : QE) (h : oIs x y C Q) : OW T (compareOp .Is) x y C Q := by
  unfold oIs at h; split at h
  · exact ow_is_bl h
  · exact ow_isN_ref h
  · exact ow_isN h.1 h.2
  · exact h.elim
def oIsNot : D → D → ME
  | .bl x, .bl y => fun C Q => Q (.bl (!decide (x = y))) C
  | .raw (.ref _), .non => fun C Q => Q (.bl true) C
  | d, .non => fun C Q => (∀ w, d ≠ .raw w) ∧ Q (.bl (!isNon d)) C
  | _, _ => fun _ _ => False
theorem oIsNot_ok (x y : D) (C : Cells) (Q : QE) (h : oIsNot x y C Q) : OW T (compareOp .IsNot) x y C Q := by
  unfold oIsNot at h; split at h
  · exact ow_isnot_bl h
  · exact ow_isNotN_ref h
  · exact ow_isNotN h.1 h.2
  · exact h.elim
def oIn (x y : D) : ME := fun C Q => (∃ ds, SeqD C y ds ∧ flatD x = true ∧ ds.all flatD = true ∧ Q (.bl (inD x ds)) C) ∨ (∃ n z, x = .str ⟨#[n]⟩ ∧ y = .str z ∧ Q (.bl (decide (n ∈ z.cps.toList))) C)
theorem oIn_ok (x y : D) (C : Cells) (Q : QE) (h : oIn x y C Q) : OW T (compareOp .In) x y C Q := by
  rcases h with ⟨ds, h1, h2, h3, h4⟩ | ⟨n, z, rfl, rfl, h⟩
  · exact ow_in h1 h2 h3 h4
  · exact ow_inSign h
def oNotIn (x y : D) : ME := fun C Q => ∃ ds, SeqD C y ds ∧ flatD x = true ∧ ds.all flatD = true ∧ Q (.bl (!inD x ds)) C
theorem oNotIn_ok (x y : D) (C : Cells) (Q : QE) (h : oNotIn x y C Q) : OW T (compareOp .NotIn) x y C Q := by
  obtain ⟨ds, h1, h2, h3, h4⟩ := h
  exact ow_notIn h1 h2 h3 h4

abbrev no1 : D → ME := fun _ _ _ => False
def pLen1 (own : D → ME) : D → ME
  | .lst ds => fun C Q => Q (.int ds.length) C
  | .tup ds => fun C Q => Q (.int ds.length) C
  | .str s => fun C Q => s.length ≤ 100000 ∧ Q (.int s.length) C
  | d => fun C Q => (∃ ds, LstD C d ds ∧ Q (.int ds.length) C) ∨ own d C Q
def on1 (P : D → ME) : List D → ME
  | [d] => P d
  | _ => fun _ _ => False
def on2 (P : D → D → ME) : List D → ME
  | [d, d2] => P d d2
  | _ => fun _ _ => False
theorem on1_ok {P : D → ME} {f : Value} (h : ∀ d C Q, P d C Q → CW T f [d] C Q) (ds : List D) (C : Cells) (Q : QE) (q : on1 P ds C Q) : CW T f ds C Q := by
  unfold on1 at q; split at q
  · exact h _ _ _ q
  · exact q.elim
theorem on2_ok {P : D → D → ME} {f : Value} (h : ∀ d d2 C Q, P d d2 C Q → CW T f [d, d2] C Q) (ds : List D) (C : Cells) (Q : QE) (q : on2 P ds C Q) : CW T f ds C Q := by
  unfold on2 at q; split at q
  · exact h _ _ _ _ q
  · exact q.elim
theorem no1_ok {f : Value} (d : D) (C : Cells) (Q : QE) (q : no1 d C Q) : CW T f [d] C Q := q.elim
theorem pLen_ok {own : D → ME} (ho : ∀ d C Q, own d C Q → CW T (.builtin "len") [d] C Q) (ds : List D) (C : Cells) (Q : QE) (h : on1 (pLen1 own) ds C Q) : CW T (.builtin "len") ds C Q :=
  on1_ok (fun d C Q h => by
    unfold pLen1 at h; split at h
    · exact cw_len .l h
    · exact cw_len .t h
    · exact cw_len_str h.1 h.2
    · rcases h with ⟨ds, h1, h2⟩ | h
      · exact cw_len (.inl h1) h2
      · exact ho _ _ _ h) ds C Q h
def pStr1 (own : D → ME) : D → ME
  | .str s => fun C Q => Q (.str s) C
  | .int i => fun C Q => i.natAbs.log2 < 1920 ∧ Q (.str (toString i)) C
  | d => own d
def pInt1 : D → ME
  | .int i => fun C Q => Q (.int i) C
  | .bl k => fun C Q => Q (.int (if k then 1 else 0)) C
  | .str s => fun C Q => s.length ≤ 640 ∧ ∃ n, intText? s = some n ∧ Q (.int n) C
  | _ => fun _ _ => False
theorem pInt_ok (ds : List D) (C : Cells) (Q : QE) (h : on1 pInt1 ds C Q) : CW T (.type "int") ds C Q :=
  on1_ok (fun d C Q h => by
    unfold pInt1 at h; split at h
    · exact cw_int h
    · exact cw_int_bl h
    · obtain ⟨h1, n, h2, h3⟩ := h; exact cw_int_str h2 h1 h3
    · exact h.elim) ds C Q h
def pList1 : D → ME
  | .lst ds => fun C Q => Q (.lst ds) C
  | .tup ds => fun C Q => Q (.lst ds) C
  | d => fun C Q => ∃ ds, SeqD C d ds ∧ Q (.lst ds) C
theorem pList_ok (ds : List D) (C : Cells) (Q : QE) (h : on1 pList1 ds C Q) : CW T (.type "list") ds C Q :=
  on1_ok (fun d C Q h => by
    unfold pList1 at h; split at h
    · exact cw_list .l h
    · exact cw_list .t h
    · obtain ⟨ds, h1, h2⟩ := h; exact cw_list h1 h2) ds C Q h
def pListC1 : D → ME
  | .lst ds => fun C Q => ∀ p, Q (.raw (.ref p)) ((p, .lst ds) :: C)
  | .tup ds => fun C Q => ∀ p, Q (.raw (.ref p)) ((p, .lst ds) :: C)
  | d => fun C Q => ∃ ds, SeqD C d ds ∧ ∀ p, Q (.raw (.ref p)) ((p, .lst ds) :: C)
theorem pListC_ok (ds : List D) (C : Cells) (Q : QE) (h : on1 pListC1 ds C Q) : CW T (.type "list") ds C Q :=
  on1_ok (fun d C Q h => by
    unfold pListC1 at h; split at h
    · exact cw_listC .l h
    · exact cw_listC .t h
    · obtain ⟨ds, h1, h2⟩ := h; exact cw_listC h1 h2) ds C Q h
def pTuple1 : D → ME
  | .lst ds => fun C Q => Q (.tup ds) C
  | .tup ds => fun C Q => Q (.tup ds) C
  | d => fun C Q => ∃ ds, SeqD C d ds ∧ Q (.tup ds) C
theorem pTuple_ok (ds : List D) (C : Cells) (Q : QE) (h : on1 pTuple1 ds C Q) : CW T (.type "tuple") ds C Q :=
  on1_ok (fun d C Q h => by
    unfold pTuple1 at h; split at h
    · exact cw_tuple .l h
    · exact cw_tuple .t h
    · obtain ⟨ds, h1, h2⟩ := h; exact cw_tuple h1 h2) ds C Q h
def pAll1 (d : D) : ME := fun C Q => ∃ bs : List Bool, d = .lst (bs.map D.bl) ∧ Q (.bl (bs.all id)) C
def pAny1 (d : D) : ME := fun C Q => ∃ bs : List Bool, d = .lst (bs.map D.bl) ∧ Q (.bl (bs.any id)) C
theorem pAll_ok (hc : X.calm = true) (ds : List D) (C : Cells) (Q : QE) (h : on1 pAll1 ds C Q) : CW T (.builtin "all") ds C Q :=
  on1_ok (fun d C Q ⟨bs, h1, h2⟩ => by subst h1; exact cw_all hc h2) ds C Q h
def pAbs1 : D → ME
  | .int i => fun C Q => Q (.int (if i < 0 then -i else i)) C
  | _ => fun _ _ => False
theorem pAbs_ok (ds : List D) (C : Cells) (Q : QE) (h : on1 pAbs1 ds C Q) : CW T (.builtin "abs") ds C Q :=
  on1_ok (fun d C Q h => by
    unfold pAbs1 at h; split at h
    · exact cw_abs h
    · exact h.elim) ds C Q h
def pMax2 : D → D → ME
  | .int i, .int j => fun C Q => Q (.int (if j > i then j else i)) C
  | _, _ => fun _ _ => False
def pIsI (K : W.Frag) (x y : D) : ME := fun C Q => (∃ t u b, ClsD y u ∧ TyD K C x t ∧ W.kitOne K t u = some b ∧ Q (.bl b) C) ∨ (∃ ds t us b, y = .tup ds ∧ Paired ClsD ds us ∧ TyD K C x t ∧ W.kitAny K t us = some b ∧ Q (.bl b) C)
theorem pIsI_ok {K : W.Frag} (hK : X.K = K := by rfl) (ds : List D) (C : Cells) (Q : QE) (h : on2 (pIsI K) ds C Q) : CW T (.builtin "isinstance") ds C Q := by
  subst hK
  exact on2_ok (fun d d2 C Q h => by
    rcases h with ⟨t, u, b, h1, h2, h3, h4⟩ | ⟨es, t, us, b, rfl, h1, h2, h3, h4⟩
    · exact cw_isi h1 h2 h3 h4
    · exact cw_isiT h1 h2 h3 h4) ds C Q h
structure ShowOk (p : PyData) : Prop where
  lay : p.canLay0 = true
  sh : p.showable = true
  nd : p.hasDict = false
  shi : p.intsShort 12 = true
structure ShowsOk (ps : List PyData) : Prop where
  lay : PyData.canLayAll0 ps = true
  sh : PyData.showableAll ps = true
  nd : PyData.hasDictAll ps = false
  shi : PyData.intsShortAll 12 ps = true
def reprD (d : D) : Str := PyData.shown (toPy d)
theorem cw_reprG {d : D} (hg : X.A.guards = some []) (hu : X.A.units + 64 < cLine) (hp : plainD d = true) (hd : isDisplay (toPy d) = true) (h : ShowOk (toPy d)) (hdep : (toPy d).depth ≤ 60) (hw : (toPy d).weight ≤ 7000) (q : Q (.str (reprD d)) C) : CW T (.builtin "repr") [d] C Q := by
  refine cw_repr (p := toPy d) hg (pyR_t hp) hd h.sh h.nd (by omega) ?_ q
  have := PyData.shown_le 12 (by decide) (toPy d) (PyData.leavesShort_of_canLay0 12 _ h.lay h.shi)
  omega
theorem call_repr_str : CallR X (.builtin "repr") (fun xs H Q => ∃ z, xs = [.str z] ∧ (reprText z).length ≤ sizeLine ∧ Q (.str (reprText z)) H) := by
  intro pins s σ H xs us Q I r h
  obtain ⟨z, rfl, hz, q⟩ := h
  obtain ⟨u, rfl, ru⟩ := r.one
  obtain ⟨t, rfl⟩ := ru
  exact PySem.P.repr_of_str ⟨.str _, H, I.tok _, ⟨_, rfl⟩, q⟩ hz
theorem call_repr_bl : CallR X (.builtin "repr") (fun xs H Q => ∃ b : Bool, xs = [.bl b] ∧ Q (.str (if b then "True" else "False")) H) := by
  intro pins s σ H xs us Q I r h
  obtain ⟨z, rfl, q⟩ := h
  obtain ⟨u, rfl, ru⟩ := r.one
  cases ru
  exact PySem.P.repr_of_bool ⟨.str _, H, I.tok _, ⟨_, rfl⟩, q⟩
theorem call_repr_non : CallR X (.builtin "repr") (fun xs H Q => xs = [.non] ∧ Q (.str "None") H) := by
  intro pins s σ H xs us Q I r h
  obtain ⟨rfl, q⟩ := h
  obtain ⟨u, rfl, ru⟩ := r.one
  cases ru
  exact PySem.P.repr_of_none ⟨.str _, H, I.tok _, ⟨_, rfl⟩, q⟩
def pRepr1 : D → ME
  | .str z => fun C Q => (reprText z).length ≤ 100000 ∧ Q (.str (reprText z)) C
  | .int i => fun C Q => i.natAbs.log2 < 1920 ∧ Q (.str (toString i)) C
  | .bl b => fun C Q => Q (.str (if b then "True" else "False")) C
  | .non => fun C Q => Q (.str "None") C
  | d => fun C Q => plainD d = true ∧ isDisplay (toPy d) = true ∧ ShowOk (toPy d) ∧ (toPy d).depth ≤ 60 ∧ (toPy d).weight ≤ 7000 ∧ Q (.str (reprD d)) C
theorem pRepr_ok (hg : X.A.guards = some []) (hu : X.A.units + 64 < cLine) (ds : List D) (C : Cells) (Q : QE) (h : on1 pRepr1 ds C Q) : CW T (.builtin "repr") ds C Q :=
  on1_ok (fun d C Q h => by
    unfold pRepr1 at h; split at h
    · rename_i z
      exact cw_look (d := .str (reprText z)) call_repr_str (fun xs H H0 c r => by
        obtain ⟨v, e1, r1⟩ := r.one
        cases r1; subst e1
        exact ⟨_, rfl, fun R k => ⟨z, rfl, Nat.le_trans h.1 (by decide), k⟩⟩) h.2
    · rename_i i
      exact cw_look (d := .str (toString i)) SkE.call_repr_int (fun xs H H0 c r => by
        obtain ⟨v, e1, r1⟩ := r.one
        cases r1; subst e1
        exact ⟨_, rfl, fun R k => ⟨i, rfl, h.1, k⟩⟩) h.2
    · rename_i b
      exact cw_look (d := .str (if b then "True" else "False")) call_repr_bl (fun xs H H0 c r => by
        obtain ⟨v, e1, r1⟩ := r.one
        cases r1; subst e1
        exact ⟨_, rfl, fun R k => ⟨b, rfl, k⟩⟩) h
    · exact cw_look (d := .str "None") call_repr_non (fun xs H H0 c r => by
        obtain ⟨v, e1, r1⟩ := r.one
        cases r1; subst e1
        exact ⟨_, rfl, fun R k => ⟨rfl, k⟩⟩) h
    · obtain ⟨h1, h2, h3, h4, h5, h6⟩ := h; exact cw_reprG hg hu h1 h2 h3 h4 h5 h6) ds C Q h
theorem ShowsOk.nil : ShowsOk [] := ⟨rfl, rfl, rfl, rfl⟩
theorem ShowsOk.cons {p : PyData} {ps : List PyData} (h : ShowOk p) (t : ShowsOk ps) : ShowsOk (p :: ps) :=
  ⟨by rw [PyData.canLayAll0, h.lay, t.lay]; rfl, by rw [PyData.showableAll, h.sh, t.sh]; rfl, by rw [PyData.hasDictAll, h.nd, t.nd]; rfl, by rw [PyData.intsShortAll, h.shi, t.shi]; rfl⟩
theorem ShowOk.tup {ps : List PyData} (t : ShowsOk ps) : ShowOk (.tuple ps) := ⟨by rw [PyData.canLay0]; exact t.lay, by rw [PyData.showable]; exact t.sh, by rw [PyData.hasDict]; exact t.nd, by rw [PyData.intsShort]; exact t.shi⟩
theorem ShowOk.lst {ps : List PyData} (t : ShowsOk ps) : ShowOk (.list ps) := ⟨by rw [PyData.canLay0]; exact t.lay, by rw [PyData.showable]; exact t.sh, by rw [PyData.hasDict]; exact t.nd, by rw [PyData.intsShort]; exact t.shi⟩
theorem shorts : ∀ xs : List Str, PyData.intsShortAll 12 (toPys (xs.map D.str)) = true
  | [] => rfl
  | x :: xs => by
    show PyData.intsShortAll 12 (toPy (.str x) :: toPys (xs.map D.str)) = true
    rw [PyData.intsShortAll, shorts xs]; rfl
theorem ShowsOk.strs {xs : List Str} (h : ∀ x ∈ xs, PyData.strOk x = true) : ShowsOk (toPys (xs.map D.str)) := ⟨(lay_strs h).1, (show_strs h).1, (show_strs h).2.1, shorts xs⟩
theorem ShowOk.str {x : Str} (h : PyData.strOk x = true) : ShowOk (.str x) := by
  have z := ShowsOk.strs (xs := [x]) (by simpa using h)
  obtain ⟨a, b, c, d⟩ := z
  simp only [List.map, toPys, toPy, PyData.canLayAll0, PyData.showableAll, PyData.hasDictAll, PyData.intsShortAll, Bool.and_true, Bool.or_false] at a b c d
  exact ⟨a, b, c, d⟩

variable {k : Nat} {f Cl : Addr} {fd : FuncData} {ps : List Str} {F : FS} {Xq : QX}
def callN (F : FS) (ds : List D) : ME := fun C Q => ∃ μ r, C.Perm (μ ++ r) ∧ F ds μ (fun d μ' => Q d (μ' ++ r)) fun _ _ _ => False
theorem callN.asks {ds : List D} (h : callN F ds C Q) : AsksN (up F) ds C Q := let ⟨μ, r, pm, z⟩ := h; ⟨μ, r, pm, _, _, z, fun _ _ q => q, fun _ _ _ q => q⟩
theorem AsksN.mono {ds : List D} {Q' : QE} (h : AsksN (up F) ds C Q) (i : ∀ d C, Q d C → Q' d C) : AsksN (up F) ds C Q' :=
  let ⟨μ, r, pm, Q1, Qx1, z, i1, i2⟩ := h; ⟨μ, r, pm, Q1, Qx1, z, fun d C' q => i _ _ (i1 d C' q), i2⟩
def onStr {β : Sort _} (d : D) (k : Str → Cells → β → Prop) : Cells → β → Prop := match d with
  | .str s => k s
  | _ => fun _ _ => False
def pSplit (s : Str) (y : D) : ME := onStr y fun t C Q => (t.length == 0) = false ∧ s.length ≤ 100000 ∧ Q (.lst ((Txt.split s t).map D.str)) C
def pPart (s : Str) (y : D) : ME := onStr y fun t C Q => (t.length == 0) = false ∧ s.length ≤ 100000 ∧ Q (.tup [.str (Txt.partition s t).1, .str (Txt.partition s t).2.1, .str (Txt.partition s t).2.2]) C
def pStarts (s : Str) (y : D) : ME := onStr y fun t C Q => Q (.bl (Txt.startswith s t)) C
def pJoin (s : Str) (y : D) : ME := fun C Q => ∃ ys : List Str, SeqD C y (ys.map D.str) ∧ (ys.map (·.length)).sum + ys.length * s.length ≤ 100000 ∧ Q (.str (Txt.join s ys)) C
def pFmt : D → ME
  | .str y => fun C Q => y.length ≤ 100000 ∧ Q (.str y) C
  | .int i => fun C Q => i.natAbs.log2 < 1920 ∧ Q (.str (toString i)) C
  | _ => fun _ _ => False
def isL (d : D) (C : Cells) : Prop := ∃ z ds, d = .raw (.ref z) ∧ (z, Cell.lst ds) ∈ C
def pApp (od d : D) : ME := fun C Q => ∃ (i : Nat) (z : Addr) (ds : List D), od = .raw (.ref z) ∧ C[i]? = some (z, .lst ds) ∧ ds.length < 100000 ∧ Q .non (C.set i (z, .lst (ds ++ [d])))
abbrev eL1 (A B : ME) (O : D → D → ME) : ME := fun C Q => A C fun od C1 => isL od C1 ∧ B C1 fun d C2 => O od d C2 Q
theorem se_append (ho : SE T o ρ A) (ha : SE T a ρ B)
    (hbase : attributeBase o "append" X.env (eval o X.env) = eval o X.env := by rfl) (hline : (apos.endLine == cpos.line) = true := by rfl) (hs : starEach [a] X.env = (false, eval a X.env) :: starEach [] X.env := by rfl)
    (hfew : ((backTo cpos (starEach [a] X.env)).all (fun x => !x.1) && (backToKw cpos (keywordEach [] X.env)).all (fun x => x.1.isSome)
      && decide (([a] : List Expr).length + ([] : List Keyword).length + (if ([] : List Keyword).isEmpty then 0 else 1) < 30)) = true := by rfl) (hplain : (backTo cpos (starEach [] X.env)).any (·.1) = false := by rfl) :
    SE T (.Call (.Attribute o "append" apos) [a] [] cpos) ρ (eL1 A B pApp) := fun C Q q => by
  have h : Tr.WE T o ρ C fun od C1 => isL od C1 ∧ Tr.WE T a ρ C1 fun d C2 => pApp od d C2 Q := (ho C _ q).mono fun od C1 ⟨h1, h2⟩ => ⟨h1, ha C1 _ h2⟩
  refine PE.imp (pe_bm F.plainAttrs_list F.slot_list_append F.type_list_append mt_append h (pa_cons (pe_some T ρ a) pa_nil hs) hbase hfew hline hs hplain) fun σ H R ⟨H0, at_, k⟩ => ⟨H0, at_, fun v od C1 H1 H01 p1 c1 r1 ⟨⟨z, ds, e1, hz⟩, hw⟩ => ?_⟩
  subst e1
  obtain rfl : v = .ref z := r1
  obtain ⟨vs, g1, g2⟩ := c1.ok z _ hz
  refine ⟨.inl ⟨rfl, vs, .inl (.inl g1)⟩, C1, _, hw, H01, at_.step p1 c1, fun v2 d C2 H2 H02 p2 c2 r2 ⟨i, z2, ds2, ez, hi2, hl, q⟩ => ?_⟩
  cases ez
  obtain ⟨vs2, f1, f2⟩ := c2.ok z _ (List.mem_iff_getElem?.mpr ⟨i, hi2⟩)
  refine ⟨z, vs2, v2, rfl, rfl, f1, ?_, ?_⟩
  · rw [← f2.length]; exact Nat.lt_trans hl (by decide)
  · obtain ⟨p3, c3⟩ := stp_write (o := .lst (vs2 ++ [v2])) c2 hi2 (c' := .lst (ds2 ++ [d])) ⟨_, upd_same, f2.append (Reps.cons r2 Reps.nil)⟩
    exact k _ .non _ _ _ ((p1.trans c1 p2).trans c2 p3) c3 rfl q
def pPop (od : D) : ME := fun C Q => ∃ (i : Nat) (z : Addr) (ds : List D) (d : D), od = .raw (.ref z) ∧ C[i]? = some (z, .lst (ds ++ [d])) ∧ Q d (C.set i (z, .lst ds))
theorem se_pop (ho : SE T o ρ A) (hbase : attributeBase o "pop" X.env (eval o X.env) = eval o X.env := by rfl) (hline : (apos.endLine == cpos.line) = true := by rfl) :
    SE T (.Call (.Attribute o "pop" apos) [] [] cpos) ρ (eApp A pPop) := fun C Q q => by
  refine PE.imp (pe_bm0 F.plainAttrs_list F.slot_list_pop F.type_list_pop mt_pop (ho C _ q) hbase hline) fun σ H R ⟨H0, at_, k⟩ => ⟨H0, at_, fun v od C1 H1 H01 p1 c1 r1 ⟨i, z, ds, d, e1, hi, q⟩ => ?_⟩
  subst e1
  obtain rfl : v = .ref z := r1
  obtain ⟨vs, g1, g2⟩ := c1.ok z _ (List.mem_iff_getElem?.mpr ⟨i, hi⟩)
  obtain ⟨vs1, vs2, e2, f1, f2⟩ := g2.split
  obtain ⟨v2, e3, f3⟩ := f2.one
  subst e3; subst e2
  refine ⟨.inl ⟨rfl, _, .inl (.inl g1)⟩, z, _, v2, rfl, rfl, g1, by simp, ?_⟩
  obtain ⟨p3, c3⟩ := stp_write (o := .lst vs1) c1 hi (c' := .lst ds) ⟨_, upd_same, f1⟩
  rw [List.dropLast_concat]
  exact k v2 d _ _ _ (p1.trans c1 p3) c3 f3 q
abbrev mSub (A B : ME) (d : D) (mm : MB) : MB := fun C => A C fun od C1 => B C1 fun id C2 => ∃ (j : Nat) (z : Addr) (ds : List D) (k : Int) (n : Nat), od = .raw (.ref z) ∧ id = .int k ∧ C2[j]? = some (z, .lst ds) ∧ ixN ds.length k = some n ∧ mm (C2.set j (z, .lst (ds.set n d)))
theorem sg_sub {d : D} (ho : SE T o ρ A) (hb : SE T b ρ B) (h : SB T body ρ mm N)
    (ha : ∀ v, assign (.Subscript o b pos) X.env v = (do
      let ov ← holding [v] (eval o X.env)
      let iv ← holding [v, ov] (eval b X.env)
      standAt pos
      holding [v, ov, iv] (setItem ov iv v)
      release [v, ov, iv] []) := by intro _; rfl) : SG T (.Subscript o b pos) d ρ body (mSub A B d mm) N := fun C q => by
  refine PG.imp (pg_sub (ho C _ q) (pe_some T ρ b) set_list ha) fun v σ H R ⟨H0, at_, r, k⟩ => ⟨H0, at_, fun v1 od C1 H1 H01 p1 c1 r1 q1 => ⟨C1, _, hb C1 _ q1, H01, at_.step p1 c1, fun v2 id C2 H2 H02 p2 c2 r2 ⟨j, z, ds, kk, n, e1, e2, hi, hn, q⟩ => ?_⟩⟩
  subst e1; subst e2
  obtain rfl : v1 = .ref z := r1
  cases r2
  obtain ⟨vs, g1, g2⟩ := c2.ok z _ (List.mem_iff_getElem?.mpr ⟨j, hi⟩)
  obtain ⟨p3, c3⟩ := stp_write (o := .lst (vs.set n v)) c2 hi (c' := .lst (ds.set n d)) ⟨_, upd_same, Reps.set ((r.mono p1.base).mono p2.base) n g2⟩
  have at3 := ((at_.step p1 c1).step p2 c2).step p3 c3
  exact ⟨z, vs, kk, n, rfl, rfl, g1, by rw [← g2.length]; exact hn, k _ _ _ _ _ ((p1.trans c1 p2).trans c2 p3) c3 at3.s at3.l (h _ q)⟩
abbrev mFld (K : W.Frag) (A B : ME) (m : Str) (mm : MB) : MB := fun C => A C fun d C1 => B C1 fun od C2 => ∃ (i : Nat) (z Cl : Addr) (ns : List Str) (ds : List D), od = .raw (.ref z) ∧ C2[i]? = some (z, .ins Cl ns ds) ∧ Cls K Cl ∧ NoAttr K Cl m ∧ ns.length < 1000 ∧ mm (C2.set i (z, .ins Cl (putN m d ns ds).1 (putN m d ns ds).2))
theorem sb_fld {pos' : Pos} (h : SE T e ρ A) (ho : SE T o ρ B) (hk : SB T rest ρ mm N) (hs : swapsWith e (some (.Attribute o m pos')) pos.line X.env = pure false := by rfl) : SB T (.Assign [.Attribute o m pos'] e pos :: rest) ρ (mFld X.K A B m mm) N :=
  fun C q => wss_cons (PS.imp (ps_fld (pe_some T ρ o) (h C _ q) hs) fun Dn σ H ⟨H0, at_, k⟩ => ⟨H0, at_, fun v d C1 H1 H01 p1 c1 r1 q1 => ⟨C1, _, ho C1 _ q1, H01, at_.step p1 c1, fun v2 od C2 H2 H02 p2 c2 r2 ⟨i, z, Cl, ns, ds, e1, hi, hc, hn, hl, q⟩ => by
    subst e1
    obtain rfl : v2 = .ref z := r2
    obtain ⟨dx, vs, g1, g2, g3⟩ := c2.ok z _ (List.mem_iff_getElem?.mpr ⟨i, hi⟩)
    obtain ⟨vs', f1, f2, f3⟩ := reps_put (f := m) (r1.mono p2.base) g3 g2
    obtain ⟨p3, c3⟩ := stp_write (o := .ins Cl dx (putF m v (ns.zip vs))) c2 hi (c' := .ins Cl (putN m d ns ds).1 (putN m d ns ds).2) ⟨dx, vs', by rw [upd_same, f1], f2, f3⟩
    have at3 := ((at_.step p1 c1).step p2 c2).step p3 c3
    refine ⟨z, Cl, dx, _, rfl, g1, hc, hn, ?_, ContS.here (((k.after p1 c1).after p2 c2).after p3 c3).nx at3 (hk _ q)⟩
    rw [List.length_zip, ← g2]; omega⟩⟩)

abbrev mRaise (A : ME) (Cl : Addr) (fld : Str) (Xq : QX) : MB := fun C => A C fun d C1 => Xq (.ref Cl) (some ([fld], [d])) C1
theorem sb_raise {fld : Str} {pos' : Pos} (hx : XCls X.prog X.K X.mg Cl fld) (hr : RoomG (k + 1) X.A) (hg : Gl X x) (hm : X.mg x = some (.ref Cl)) (h : SE T e ρ A) (hX : ∀ cls fs C, Xq cls fs C → T.XQ cls fs ρ C)
    (hs : starEach [e] X.env = (false, eval e X.env) :: starEach [] X.env := by rfl) (hdb : (x == ("__debug__" : Str)) = false := by decide) (hc : X.calm = true := by rfl) : SB T (.Raise (some (.Call (.Name x p) [e] [] pos)) none pos' :: rest) ρ (mRaise A Cl fld Xq) N :=
  fun C q => wss_cons (ws_raise hx hr hg hm ((h C _ q).mono fun d C1 h1 => hX _ _ _ h1) hs hdb hc)
def mPart (m : MB) : MB := fun C => ∃ C' r, C.Perm (C' ++ r) ∧ m C'
theorem sb_part (h : SB T rest ρ mm N) : SB T rest ρ (mPart mm) N := fun C ⟨C', r, pm, q⟩ => wss_part pm (h C' q)
theorem part_id {m : MB} (h : m C) : mPart m C := ⟨C, [], by simp, h⟩
def mWhile {α : Type} (t : α → MT) (f : α → (α → MB) → (α → MB) → MB) (s0 : α) (after : α → MB) : MB := fun C => ∃ I : Nat → α → Cells → Prop, (∃ n, I n s0 C) ∧ ∀ n s C, I n s C → t s C fun k C1 => if k = true then f s (fun s' C' => ∃ n', n' < n ∧ I n' s' C') after C1 else after s C1
theorem sb_while {α : Type} {t : α → MT} {f : α → (α → MB) → (α → MB) → MB} {s0 : α} {after : α → MB} {cond : Expr} (enc : α → Rho) (h0 : LeR (enc s0) ρ) (ht : ∀ s, ST T cond (enc s) (t s))
    (hb : ∀ s (nx bk : α → MB) (W V : QS), (∀ a ρ' C, LeR (enc a) ρ' → nx a C → W ρ' C) → (∀ a ρ' C, LeR (enc a) ρ' → bk a C → V ρ' C) → SB T body (enc s) (f s nx bk) { nx := W, rt := N.rt, bk := V, ct := W })
    (ha : ∀ s, SB T rest (enc s) (after s) N) : SB T (.While cond body [] pos :: rest) ρ (mWhile t f s0 after) N := fun C ⟨I, ⟨n0, i0⟩, hI⟩ => by
  refine wss_cons (ws_while (fun n ρ C => ∃ s, LeR (enc s) ρ ∧ I n s C) n0 ⟨s0, h0, i0⟩ fun n ρ C ⟨s, l, i⟩ => ?_)
  refine PT.imp (show PT X cond _ from (ht s C _ (hI n s C i)).mono (Q' := fun k C1 => if k = true then WSs T body (enc s) C1 { nx := fun ρ' C' => ∃ m', m' < n ∧ ∃ s, LeR (enc s) ρ' ∧ I m' s C', ct := fun ρ' C' => ∃ m', m' < n ∧ ∃ s, LeR (enc s) ρ' ∧ I m' s C', bk := fun ρ' C' => WSs T rest ρ' C' N, rt := N.rt } else WSs T rest (enc s) C1 N) fun k C1 h1 => ?_) fun σ H R ⟨H0, at_, kk⟩ => ⟨H0, at_.forget l, fun b C' H' H0' p c q => kk b C' H' H0' p c ?_⟩
  · cases k with
    | true => exact hb s _ _ _ _ (fun a ρ' C l ⟨n', h1, h2⟩ => ⟨n', h1, a, l, h2⟩) (fun a ρ' C l h => wss_forget l (ha a C h)) C1 h1
    | false => exact ha s C1 h1
  · cases b with
    | true => exact wss_forget l q
    | false => exact wss_forget l q
abbrev mTry (K : W.Frag) (c : Value) (body : QX → MB) (suite : XF → Value → MB) (Xq : QX) : MB := body fun cls fs C' => ∃ b, W.exmOne K cls c = some b ∧ if b = true then suite fs cls C' else Xq cls fs C'
end
end Tr

set_option maxHeartbeats 4000000
namespace Tr
open PySem L2 PySem.Spec PyProof.Rows
section
variable {X : Cx} {T : TX X} {ρ ρ' : Rho} {C : Cells} {N : TEnds} {e a b c o i elt : Expr} {pos pos' p p2 apos cpos np : Pos} {es tgs : List Expr} {st b₀ : Stmt} {rest body tb fb suite : List Stmt} {x m n : Str} {A B A' : ME} {AS : MA} {mt mf mm : MB} {Q : QE}
theorem se_globS {s : Str} (hg : Gl X x) (h : ∃ t, X.mg x = some (.str s t)) (hn : x ≠ "__name__" := by decide) (hd : (x == ("__debug__" : Str)) = false := by decide) : SE T (.Name x pos) ρ (eVal (.str s)) := by
  obtain ⟨t, ht⟩ := h
  exact se_glob (d := .str s) (v := .str s) (pe_glob (v := .str s) hg ht ⟨_, rfl⟩ hd) (fun _ => rfl)
def mFrz (v : D) (k : D → MB) : MB := fun C => ∃ (i : Nat) (z : Addr) (c : Cell), v = .raw (.ref z) ∧ C[i]? = some (z, c) ∧ k c.toD (C.eraseIdx i)
theorem sb_frz {v : D} {k : D → MB} {r : D → Rho} (j : Nat) (hj : ρ[j]? = some (some v)) (hr : ∀ d, ρ.set j (some d) = r d) (h : ∀ d, SB T rest (r d) (k d) N) : SB T rest ρ (mFrz v k) N := fun C ⟨i, z, c, e, hi, q⟩ => by
  subst e
  refine wss_frz j i hj hi ?_
  rw [hr]
  exact h _ _ q
def eXf (K : W.Frag) (n : Str) (cls : Value) (fs : XF) : ME := fun C Q => ∃ Cl ns ds y, cls = .ref Cl ∧ fs = some (ns, ds) ∧ XfC K Cl ∧ W.findIn K (.ref Cl) n = some none ∧ (ns.zip ds).lookup n = some y ∧ Q y C
abbrev eIsX (K : W.Frag) (cls : Value) (D2 : ME) : ME := fun C Q => ∃ Cl, cls = .ref Cl ∧ ExcC K Cl ∧ D2 C fun d2 C1 => ∃ b u, ClsD d2 u ∧ W.kitOne K (.ref Cl) u = some b ∧ Q (.bl b) C1
theorem se_xf {a : Addr} {oe : Obj} {d : Option Addr} {cls : Value} {fs : XF} {pn : List (Addr × Obj)} {T' : TX (X.suite a ((a, oe) :: pn))} (hz : Zc cls d oe) (hfl : ∃ vs, oe.data = .fields vs) (hA : ∀ H0 C H, T'.A H0 C H → ExcR X.K H0 H d fs)
    (h : SE T' e ρ (eVal (.raw (.ref a)))) (hb : attributeBase e n (X.suite a ((a, oe) :: pn)).env (eval e (X.suite a ((a, oe) :: pn)).env) = eval e (X.suite a ((a, oe) :: pn)).env := by rfl) : SE T' (.Attribute e n pos) ρ (eXf X.K n cls fs) := fun C Q q => by
  obtain ⟨Cl, ns, ds, y, rfl, rfl, h1, h2, h3, h4⟩ := q
  exact we_xf h1 h2 hz hfl hA ((h C _ (show _ ∧ _ from ⟨rfl, y, h3, h4⟩))) hb
theorem se_isX {a : Addr} {oe : Obj} {d : Option Addr} {cls : Value} {fs : XF} {pn : List (Addr × Obj)} {T' : TX (X.suite a ((a, oe) :: pn))} (hz : Zc cls d oe) (hfl : ∃ vs, oe.data = .fields vs) (hA : ∀ H0 C H, T'.A H0 C H → ExcR X.K H0 H d fs) (hg : Gl X "isinstance") (hm : X.mg "isinstance" = none)
    (h : SE T' e ρ (eVal (.raw (.ref a)))) (h2 : SE T' c ρ A)
    (he : starEach [e, c] (X.suite a ((a, oe) :: pn)).env = (false, eval e (X.suite a ((a, oe) :: pn)).env) :: starEach [c] (X.suite a ((a, oe) :: pn)).env := by rfl) (hpl : (backTo pos (starEach [c] (X.suite a ((a, oe) :: pn)).env)).any (·.1) = false := by rfl)
    (he2 : starEach [c] (X.suite a ((a, oe) :: pn)).env = (false, eval c (X.suite a ((a, oe) :: pn)).env) :: starEach [] (X.suite a ((a, oe) :: pn)).env := by rfl) : SE T' (.Call (.Name "isinstance" p) [e, c] [] pos) ρ (eIsX X.K cls A) := fun C Q q => by
  obtain ⟨Cl, rfl, G, q⟩ := q
  have hw : WA T' [e, c] ρ C fun ds C1 => ∃ d2 u b, ds = [.raw (.ref a), d2] ∧ ClsD d2 u ∧ W.kitOne X.K (.ref Cl) u = some b ∧ Q (.bl b) C1 :=
    wa_cons (h C _ (wa_cons ((h2 C _ q).mono fun d2 C1 ⟨b, u, h3, h4, h5⟩ => wa_nil ⟨d2, u, b, rfl, h3, h4, h5⟩) he2)) he
  exact PE.imp (pe_callB (call_isX G hz hfl) hg hm (by rfl) hw (by decide) (by decide) he hpl) fun σ H R ⟨H0, at_, k⟩ => ⟨H0, at_, fun vs ds C1 H1 H01 p1 c1 r1 q1 => by
    obtain ⟨d2, u, b, e1, hc, hk, q⟩ := q1
    subst e1
    have at1 := at_.step p1 c1
    have ex := hA _ _ _ at1.a
    obtain ⟨v, w, e1, r2, r3⟩ := r1.two
    subst e1
    cases r2
    refine ⟨w, u, b, rfl, cls_at r3 hc, hk, fun dd hd => ?_, k (.bl b) (.bl b) C1 H1 H01 p1 c1 rfl q⟩
    subst hd
    cases fs with
    | none => exact ex.elim
    | some f => obtain ⟨vs, h1, _⟩ := ex; exact ⟨_, h1⟩⟩
theorem LeR.set {v : Option D} {j : Nat} (h : LeR ρ ρ') : LeR (ρ.set j v) (ρ'.set j v) := ⟨by simp [h.l], fun i d q => by
  rw [List.getElem?_set] at q ⊢
  split at q
  · rename_i e; subst e
    split at q
    · rename_i hl; rw [if_pos rfl, if_pos (by rw [← h.l]; exact hl)]; exact q
    · cases q
  · rename_i e; rw [if_neg e]; exact h.s i d q⟩
theorem LeR.unset {j : Nat} (h : LeR ρ ρ') (hn : ∀ d, ρ[j]? ≠ some (some d)) : LeR ρ (ρ'.set j none) := ⟨by simp [h.l], fun i d q => by
  rw [List.getElem?_set]
  split
  · rename_i e; subst e; exact absurd q (hn d)
  · exact h.s i d q⟩
theorem sb_try {α : Type} {i : Nat} {cv : Value} {mb : QX → MB} {ms : XF → Value → MB} {Xq : QX} (enc : α → Rho) (J : α → MB) (ρe : Rho) (hs : X.stack = X.env :: X.outer) (hf : X.env.frame = some X.env.locals) (hN : X.N.Nodup) (hi : X.N[i]? = some n) (hln : X.env.kindOf n = some .local) (hc : Names X x cv)
    (hX : ∀ ρ' cls fs C, Xq cls fs C → T.XQ cls fs ρ' C) (hJ : ∀ a, SB T rest (enc a) (J a) N) (hn : ∀ a d, (enc a)[i]? ≠ some (some d))
    (hb : ∀ (pn : List (Addr × Obj)) (xe : Value → Shared → Prop) (T' : TX (X.tr pn xe)) (X' : QX), (∀ ρ', LeR ρe ρ' → ∀ cls fs C, X' cls fs C → T'.XQ cls fs ρ' C) → ∀ W : QS, (∀ a ρ' C, LeR (enc a) ρ' → J a C → W ρ' C) → SB T' body ρ (mb X') { N with nx := W })
    (hh : ∀ (cls : Value) (fs : XF) (a : Addr) (oe : Obj) (d : Option Addr) (pn : List (Addr × Obj)) (T' : TX (X.suite a ((a, oe) :: pn))), Zc cls d oe → (∃ vs, oe.data = .fields vs) → (∀ H0 C H, T'.A H0 C H → ExcR X.K H0 H d fs) → ∀ W V B' : QS, (∀ a ρ' C, LeR (enc a) ρ' → J a C → W ρ' C) →
      SB T' (b₀ :: suite) (ρe.set i (some (.raw (.ref a)))) (ms fs cls) { nx := W, rt := N.rt, bk := V, ct := B' }) :
    SB T (.Try body [.ExceptHandler (some (.Name x np)) (some n) (b₀ :: suite) pos'] [] [] pos :: rest) ρ (mTry X.K cv mb ms Xq) N := fun C q => by
  have hw : ∀ a ρ' C, LeR (enc a) ρ' → J a C → WSs T rest ρ' C N := fun a ρ' C l q => wss_forget l (hJ a C q)
  refine wss_cons (ws_try hs hf hN hi hln hc (fun cls fs ρ' C' => LeR ρe ρ' ∧ ∃ b, W.exmOne X.K cls cv = some b ∧ if b = true then ms fs cls C' else Xq cls fs C') (fun pn xe T' eX => hb pn xe T' _ (fun ρ' l cls fs C' h => by rw [eX]; exact ⟨l, h⟩) _ hw C q) ?_)
  rintro cls fs ρ' C' ⟨l, b, h1, h2⟩
  refine ⟨b, h1, fun hb0 => ?_, fun hb1 a oe d pn T' hz hfl hA => ?_⟩
  · subst hb0; exact hX _ _ _ _ h2
  · subst hb1
    exact wss_forget l.set (hh cls fs a oe d pn T' hz hfl hA _ _ _ (fun a ρ' C l q => hw a _ C (l.unset (hn a)) q) C' h2)

abbrev eDrop (A : ME) : ME := fun C Q => A C fun d C1 => ∃ C' r, C1.Perm (C' ++ r) ∧ Q d C'
theorem se_drop (h : SE T e ρ A) : SE T e ρ (eDrop A) := fun C Q q => PE.imp (h C _ q) fun σ H R ⟨H0, at_, k⟩ => ⟨H0, at_, fun v d C1 H1 H01 p1 c1 r1 ⟨C', r, pm, q⟩ =>
  let ⟨p2, c2⟩ := stp_part c1 pm
  k v d C' H1 H01 (p1.trans c1 p2) c2 r1 q⟩
variable {k : Nat} {f Cl : Addr} {fd : FuncData} {ps : List Str} {F : FS} {dvs : List V} {dds : List D} {Xq : QX}
theorem loop_inv {α : Type} {f : D → α → (α → MB) → (α → MB) → MB} {after : α → MB} {P : Cells → Prop} {ds : List D} {s : α} (I : Nat → α → Cells → Prop) (h0 : I 0 s C)
    (step : ∀ i d s C (nx : α → MB), ds[i]? = some d → I i s C → (∀ s' C', I (i + 1) s' C' → nx s' C') → P C ∧ f d s nx after C) (last : ∀ s C, I ds.length s C → P C ∧ after s C) : mLoop f after P ds s C := by
  have go : ∀ (r : List D) (j : Nat), j + r.length = ds.length → (∀ i, r[i]? = ds[j + i]?) → ∀ s C, I j s C → mLoop f after P r s C := by
    intro r
    induction r with
    | nil => intro j hj _ s C h; have : j = ds.length := by simpa using hj
             subst this; exact last s C h
    | cons d r ih =>
      intro j hj hg s C h
      refine step j d s C _ (by rw [← Nat.add_zero j, ← hg 0]; rfl) h fun s' C' h' => ?_
      exact ih (j + 1) (by simp at hj; omega) (fun i => by rw [Nat.add_assoc, Nat.add_comm 1 i, ← hg (i + 1)]; rfl) s' C' h'
  exact go ds 0 (by simp) (fun i => by simp) s C h0
theorem lcB_inv {P : Cells → Prop} {f : D → ME} {Q : QE} {ds : List D} (J : Nat → List D → Cells → Prop) (h0 : J 0 [] C)
    (step : ∀ i d acc C (k : QE), ds[i]? = some d → J i acc C → (∀ y C', J (i + 1) (acc ++ [y]) C' → k y C') → P C ∧ f d C k) (last : ∀ acc C, J ds.length acc C → P C ∧ Q (.lst acc) C) (hl : ds.length ≤ 100000) (hlen : ∀ i acc C, J i acc C → acc.length ≤ i) : lcB P f Q ds [] C := by
  have go : ∀ (r : List D) (j : Nat), j + r.length = ds.length → (∀ i, r[i]? = ds[j + i]?) → ∀ acc C, J j acc C → lcB P f Q r acc C := by
    intro r
    induction r with
    | nil => intro j hj _ s C h; have : j = ds.length := by simpa using hj
             subst this; exact last s C h
    | cons d r ih =>
      intro j hj hg acc C h
      refine step j d acc C _ (by rw [← Nat.add_zero j, ← hg 0]; rfl) h fun y C' h' => ⟨?_, ih (j + 1) (by simp at hj; omega) (fun i => by rw [Nat.add_assoc, Nat.add_comm 1 i, ← hg (i + 1)]; rfl) _ C' h'⟩
      have := hlen j acc C h
      simp at hj; omega
  exact go ds 0 (by simp) (fun i => by simp) [] C h0
theorem lcB_map {α : Type} {P : Cells → Prop} {f : D → ME} {Q : QE} {l : List α} (g h : α → D) (hp : P C) (hf : ∀ a ∈ l, ∀ k : QE, k (h a) C → f (g a) C k) (hl : l.length ≤ 100000) (q : Q (.lst (l.map h)) C) : lcB P f Q (l.map g) [] C := by
  have go : ∀ (r : List α) (acc : List D), (∀ a ∈ r, a ∈ l) → acc.length + r.length ≤ 100000 → Q (.lst (acc ++ r.map h)) C → lcB P f Q (r.map g) acc C := by
    intro r
    induction r with
    | nil => intro acc _ _ q; exact ⟨hp, by simpa using q⟩
    | cons a r ih =>
      intro acc hm hl q
      refine ⟨hp, hf a (hm a List.mem_cons_self) _ ⟨by simp at hl; omega, ih _ (fun b hb => hm b (List.mem_cons_of_mem _ hb)) (by simp at hl ⊢; omega) (by simpa using q)⟩⟩
  exact go l [] (fun _ h => h) (by simpa using hl) (by simpa using q)
theorem lcB1_map {α : Type} {P : Cells → Prop} {f : D → ME} {t : D → MT} {Q : QE} {l : List α} (g h : α → D) (b : α → Bool) (hp : P C) (ht : ∀ a ∈ l, ∀ k : QT, k (b a) C → t (g a) C k) (hf : ∀ a ∈ l, b a = true → ∀ k : QE, k (h a) C → f (g a) C k) (hl : l.length ≤ 100000) (q : Q (.lst ((l.filter b).map h)) C) : lcB1 P t f Q (l.map g) [] C := by
  have go : ∀ (r : List α) (acc : List D), (∀ a ∈ r, a ∈ l) → acc.length + r.length ≤ 100000 → Q (.lst (acc ++ (r.filter b).map h)) C → lcB1 P t f Q (r.map g) acc C := by
    intro r
    induction r with
    | nil => intro acc _ _ q; exact ⟨hp, by simpa using q⟩
    | cons a r ih =>
      intro acc hm hl q
      refine ⟨hp, ht a (hm a List.mem_cons_self) _ ?_⟩
      have hm' : ∀ b ∈ r, b ∈ l := fun b hb => hm b (List.mem_cons_of_mem _ hb)
      have hl' : acc.length + 1 + r.length ≤ 100000 := by simp at hl; omega
      cases e : b a with
      | true =>
        rw [if_pos rfl]
        rw [List.filter_cons_of_pos e] at q
        exact hf a (hm a List.mem_cons_self) e _ ⟨by omega, ih _ hm' (by simp; omega) (by simpa using q)⟩
      | false =>
        rw [if_neg (by decide)]
        rw [List.filter_cons_of_neg (by simp [e])] at q
        exact ih _ hm' (by omega) q
  exact go l [] (fun _ h => h) (by simpa using hl) (by simpa using q)
end
end Tr
namespace Tr
open PySem L2 PySem.Spec PyProof.Rows
def pMkF (F : FS) (Xq : QX) (Cl : Addr) (ds : List D) : ME := pFrz (makeW F Xq Cl ds)
theorem se_mkF {X : Cx} {T : TX X} {ρ : Rho} {e : Expr} {AS : MA} {F : FS} {Xq : QX} {Cl : Addr} {dds : List D} (h : SE T e ρ (eArgs AS fun ds => makeW F Xq Cl (ds ++ dds))) : SE T e ρ (eArgs AS fun ds => pMkF F Xq Cl (ds ++ dds)) := fun C Q q => se_frz h C Q q
theorem mkF_of {F : FS} {Xq : QX} {Cl : Addr} {ds fs : List D} {ns : List Str} {C : Cells} {Q : QE} (h : ∀ z, F (.raw (.ref z) :: ds) ((z, .ins Cl [] []) :: C) (fun d C' => d = .non ∧ ∃ (i : Nat) (z' Cl' : Addr) (ns : List Str) (ds : List D), D.raw (.ref z) = .raw (.ref z') ∧ C'[i]? = some (z', .ins Cl' ns ds) ∧ Q (.ins Cl' ns ds) (C'.eraseIdx i)) Xq) : pMkF F Xq Cl ds C Q :=
  ⟨C, [], by simp, fun z => by simpa using h z⟩
end Tr
namespace Tr
open PySem L2 PySem.Spec PyProof.Rows
section
variable {X : Cx} {T : TX X} {ρ : Rho} {C : Cells} {N : TEnds} {rest : List Stmt} {p pos pos' : Pos} {x : Str} {Cl : Addr} {Xq : QX}
structure X0 (K : W.Frag) (C : Addr) : Prop where
  q : PySem.W.excIn K C [.type "ValueError", .type "Exception", .type "BaseException", .type "object"] "ValueError.__new__" = true
  k : W.keepIn K (.ref C) = true
  s : W.subIn K (.ref C) (.type "BaseException") = some true
  t : W.typeIn K (.ref C) = some (.type "type")
end
end Tr

set_option maxHeartbeats 4000000
namespace Tr
open PySem L2 PySem.Spec PyProof.Rows
section
variable {X : Cx} {T : TX X} {ρ : Rho} {C : Cells} {N : TEnds} {e a b c o i elt : Expr} {pos pos' p p2 apos : Pos} {es : List Expr} {rest body : List Stmt} {x m : Str} {A B : ME} {AS : MA} {Q : QE} {k : Nat} {f Cl : Addr} {fd : FuncData} {ps : List Str} {F : FS} {dvs : List V} {dds : List D} {dus : List Value} {d1 d2 d : D} {ns ns2 : List Str} {ds ds2 : List D} {Xq : QX}
def isInsD : D → Bool
  | .ins _ _ _ => true
  | _ => false
def oAddO (own : D → D → ME) (x y : D) : ME := match x with
  | .ins c ns ds => own (.ins c ns ds) y
  | x => oAdd x y
def pIxO (Cl : Addr) (F : FS) (Xq : QX) (x y : D) : ME := match x with
  | .ins c ns ds => fun C Q => c = Cl ∧ callW F Xq [.ins c ns ds, y] C Q
  | x => pIx x y
def pMin2 : D → D → ME
  | .int i, .int j => fun C Q => Q (.int (if j < i then j else i)) C
  | _, _ => fun _ _ => False
end
end Tr

set_option maxHeartbeats 4000000
namespace Tr
open PySem L2 PySem.Spec PyProof.Rows
def putD (ks : List Key) (ds : List D) (j : Key) (x : D) : List D := if (ks.any fun k => decide (k = j)) = true then (ks.zip ds).map fun p => if p.1 = j then x else p.2 else ds ++ [x]
def putKs (ks : List Key) (j : Key) : List Key := if (ks.any fun k => decide (k = j)) = true then ks else ks ++ [j]
def keyD : D → Option Key
  | .str s => some (.inr s)
  | .int i => some (.inl i)
  | _ => none
section
variable {K : W.Frag} {H : Hp}
theorem putD_reps {ks : List Key} {ds : List D} {vs : List V} {j : Key} {d : D} {v : V} (r : Reps K H ds vs) (l : ks.length = vs.length) (rd : Rep K H d v) :
    ∃ vs', putK (ks.zip vs) j v = (putKs ks j).zip vs' ∧ (putKs ks j).length = vs'.length ∧ Reps K H (putD ks ds j d) vs' := by
  have any : ∀ (ks : List Key) (vs : List V), ks.length = vs.length → ((ks.zip vs).any fun kv => decide (kv.1 = j)) = ks.any fun k => decide (k = j) := by
    intro ks
    induction ks with
    | nil => intro vs _; simp
    | cons k ks ih =>
      intro vs l
      cases vs with
      | nil => cases l
      | cons v vs =>
        rw [List.zip_cons_cons, List.any_cons, List.any_cons, ih vs (by simpa using l)]
  unfold putK putKs putD
  rw [any ks vs l]
  by_cases c : (ks.any fun k => decide (k = j)) = true
  · rw [if_pos c, if_pos c, if_pos c]
    refine ⟨(ks.zip vs).map fun p => if p.1 = j then v else p.2, ?_, by simp [l], ?_⟩
    · clear any c r
      induction ks generalizing vs with
      | nil => simp
      | cons k ks ih =>
        cases vs with
        | nil => cases l
        | cons u vs =>
          simp only [List.zip_cons_cons, List.map_cons]
          rw [ih (by simpa using l)]
          by_cases c : k = j <;> simp [c]
    · clear any c
      induction ks generalizing vs ds with
      | nil => simp; exact Reps.nil
      | cons k ks ih =>
        cases vs with
        | nil => cases l
        | cons u vs =>
          cases ds with
          | nil => cases r
          | cons d0 ds =>
            obtain ⟨_, _, e, r1, r2⟩ := r
            cases e
            simp only [List.zip_cons_cons, List.map_cons]
            refine Reps.cons ?_ (ih r2 (by simpa using l))
            by_cases c : k = j
            · rw [if_pos c, if_pos c]; exact rd
            · rw [if_neg c, if_neg c]; exact r1
  · rw [if_neg c, if_neg c, if_neg c]
    exact ⟨vs ++ [v], by rw [List.zip_append l]; rfl, by simp [l], Reps.append r (Reps.cons rd Reps.nil)⟩
end
section
variable {X : Cx} {T : TX X} {ρ : Rho} {C : Cells} {N : TEnds} {e a b c o i elt : Expr} {pos pos' p p2 apos : Pos} {es : List Expr} {rest body : List Stmt} {x m : Str} {A B : ME} {AS : MA} {mm : MB} {Q : QE} {d d1 d2 : D} {ks : List Key} {ds : List D} {key : Key}
theorem keyD_rep {H0 : Hp} {y : V} (h : keyD d = some key) (r : Rep X.K H0 d y) : y = kV key := by
  cases d with
  | str s => cases h; exact r
  | int i => cases h; exact r
  | _ => cases h
def oNotInS (x y : D) : ME := fun C Q => ∃ n z, x = .str ⟨#[n]⟩ ∧ y = .str z ∧ Q (.bl (!decide (n ∈ z.cps.toList))) C
variable {cpos : Pos}
def pPopAt (od d : D) : ME := fun C Q => ∃ (i : Nat) (z : Addr) (ds : List D) (k : Int) (n : Nat) (e : D), od = .raw (.ref z) ∧ d = .int k ∧ C[i]? = some (z, .lst ds) ∧ (-100000 ≤ k ∧ k < 100000) ∧ ixN ds.length k = some n ∧ ds[n]? = some e ∧ Q e (C.set i (z, .lst (ds.eraseIdx n)))
theorem Reps.erase {K : W.Frag} {H : Hp} : ∀ {ds : List D} {vs : List V} (n : Nat), Reps K H ds vs → Reps K H (ds.eraseIdx n) (vs.eraseIdx n)
  | [], vs, n, h => by
    have := h.length
    obtain rfl : vs = [] := by cases vs <;> simp_all
    simpa using h
  | d :: ds, vs, n, h => by
    obtain ⟨v, vs', rfl, h1, h2⟩ := h
    cases n with
    | zero => exact h2
    | succ n => exact Reps.cons h1 (Reps.erase n h2)
theorem se_popAt (ho : SE T o ρ A) (ha : SE T a ρ B)
    (hbase : attributeBase o "pop" X.env (eval o X.env) = eval o X.env := by rfl) (hline : (apos.endLine == cpos.line) = true := by rfl) (hs : starEach [a] X.env = (false, eval a X.env) :: starEach [] X.env := by rfl)
    (hfew : ((backTo cpos (starEach [a] X.env)).all (fun x => !x.1) && (backToKw cpos (keywordEach [] X.env)).all (fun x => x.1.isSome)
      && decide (([a] : List Expr).length + ([] : List Keyword).length + (if ([] : List Keyword).isEmpty then 0 else 1) < 30)) = true := by rfl) (hplain : (backTo cpos (starEach [] X.env)).any (·.1) = false := by rfl) :
    SE T (.Call (.Attribute o "pop" apos) [a] [] cpos) ρ (eL1 A B pPopAt) := fun C Q q => by
  have h : Tr.WE T o ρ C fun od C1 => isL od C1 ∧ Tr.WE T a ρ C1 fun d C2 => pPopAt od d C2 Q := (ho C _ q).mono fun od C1 ⟨h1, h2⟩ => ⟨h1, ha C1 _ h2⟩
  refine PE.imp (pe_bm F.plainAttrs_list F.slot_list_pop F.type_list_pop mt_popAt h (pa_cons (pe_some T ρ a) pa_nil hs) hbase hfew hline hs hplain) fun σ H R ⟨H0, at_, k⟩ => ⟨H0, at_, fun v od C1 H1 H01 p1 c1 r1 ⟨⟨z, ds, e1, hz⟩, hw⟩ => ?_⟩
  subst e1
  obtain rfl : v = .ref z := r1
  obtain ⟨vs, g1, g2⟩ := c1.ok z _ hz
  refine ⟨.inl ⟨rfl, vs, .inl (.inl g1)⟩, C1, _, hw, H01, at_.step p1 c1, fun v2 d C2 H2 H02 p2 c2 r2 ⟨i, z2, ds2, kk, n, e, ez, ed, hi2, hb, hn, he, q⟩ => ?_⟩
  cases ez
  subst ed
  cases r2
  obtain ⟨vs2, f1, f2⟩ := c2.ok z _ (List.mem_iff_getElem?.mpr ⟨i, hi2⟩)
  obtain ⟨ve, h1, h2⟩ := f2.get he
  refine ⟨z, vs2, kk, n, ve, rfl, rfl, f1, by omega, by omega, by rw [← f2.length]; exact (ixN_seq hn).1, h1, ?_⟩
  obtain ⟨p3, c3⟩ := stp_write (o := .lst (vs2.eraseIdx n)) c2 hi2 (c' := .lst (ds2.eraseIdx n)) ⟨_, upd_same, Reps.erase n f2⟩
  exact k ve e _ _ _ ((p1.trans c1 p2).trans c2 p3) c3 h2 q
def DcW (T : TX X) (scope : Scope) (bd : Bind) (kx vx : Expr) (vs : List Nat) (ρ : Rho) (P : Cells → Prop) (Q : QE) : List D → List Key → List D → Cells → Prop
  | [], ks, ds, C => P C ∧ Q (.dic ks ds) C
  | d :: r, ks, ds, C => P C ∧ ∃ ρ', bd.to d (wipeR ρ vs) = some ρ' ∧ InBlk T scope fun T' => Tr.WE T' kx ρ' C fun y C2 => InBlk T scope fun T2 => Tr.WE T2 vx ρ' C2 fun z C3 => ∃ key, keyD y = some key ∧ ks.length < 100000 ∧ DcW T scope bd kx vx vs ρ P Q r (putKs ks key) (putD ks ds key z) C3
structure WayD (X : Cx) (H01 : Hp) (C1 : Cells) (H1 : Hp) (L : Addr) (ks : List Key) (acc : List D) (H0 : Hp) (C : Cells) (H : Hp) : Prop where
  st : Stp H01 C1 H1 H0 C H
  c : CellsR X.K H0 C H
  at_ : ∃ vs, H L = some (.dK (ks.zip vs)) ∧ ks.length = vs.length ∧ Reps X.K H0 acc vs
  n0 : H0 L = none
  nd : ¬ Dom C L
theorem WayD.step {H01 H1 H0 H H0' H' : Hp} {C1 C' : Cells} {L : Addr} {acc : List D} (w : WayD X H01 C1 H1 L ks acc H0 C H) (p : Stp H0 C H H0' C' H') (c' : CellsR X.K H0' C' H') : WayD X H01 C1 H1 L ks acc H0' C' H' := by
  obtain ⟨vs, h1, hl, h2⟩ := w.at_
  obtain ⟨q1, q2⟩ := p.own L (by rw [h1]; simp) w.n0 w.nd
  exact ⟨w.st.trans w.c p, c', ⟨vs, p.fr L _ h1 w.nd, hl, h2.mono p.base⟩, q1, q2⟩
theorem WayD.add {H01 H1 H0 H : Hp} {C1 : Cells} {L : Addr} {acc : List D} {d : D} {v : V} (w : WayD X H01 C1 H1 L ks acc H0 C H) (hL : H1 L = none) (r : Rep X.K H0 d v) : ∃ vs, H L = some (.dK (ks.zip vs)) ∧ ks.length = vs.length ∧ WayD X H01 C1 H1 L (putKs ks key) (putD ks acc key d) H0 C (upd H L (.dK (putK (ks.zip vs) key v))) := by
  obtain ⟨vs, h1, hl, h2⟩ := w.at_
  have off : ∀ a x, (a, x) ∈ C → a ≠ L := fun a x hx e => w.nd ⟨x, e ▸ hx⟩
  obtain ⟨vs', e1, e2, e3⟩ := putD_reps (j := key) h2 hl r
  refine ⟨vs, h1, hl, ⟨⟨w.st.base, fun a o h n => ?_, w.st.own⟩, ⟨fun a o h => ?_, w.c.free, fun a x hx => (w.c.ok a x hx).mono (Same.refl _) (upd_ne (off a x hx)), w.c.nd⟩, ⟨vs', by rw [upd_same, e1], e2, e3⟩, w.n0, w.nd⟩⟩
  · rw [upd_ne (ne_of_none h hL)]; exact w.st.fr a o h n
  · rw [upd_ne (ne_of_none h w.n0)]; exact w.c.same a o h
theorem WayD.fin {H01 H1 H0 H : Hp} {C1 : Cells} {L : Addr} {acc : List D} (w : WayD X H01 C1 H1 L ks acc H0 C H) (hL : H1 L = none) : ∃ H0', Stp H01 C1 H1 H0' C H ∧ CellsR X.K H0' C H ∧ Rep X.K H0' (.dic ks acc) (.ref L) := by
  obtain ⟨vs, h1, hl, h2⟩ := w.at_
  have s0 : Same H0 (upd H0 L (.dK (ks.zip vs))) := fun a u h => by rw [upd_ne (ne_of_none h w.n0)]; exact h
  refine ⟨upd H0 L (.dK (ks.zip vs)), ⟨w.st.base.trans s0, w.st.fr, fun a h e n => ?_⟩, ⟨fun a o h => ?_, fun a d => ?_, fun a x hx => (w.c.ok a x hx).mono s0 rfl, w.c.nd⟩, ⟨L, vs, rfl, .inl upd_same, hl, h2.mono s0⟩⟩
  · obtain ⟨q1, q2⟩ := w.st.own a h e n
    exact ⟨by rw [upd_ne (show a ≠ L from fun z => h (by rw [z]; exact hL))]; exact q1, q2⟩
  · by_cases q : a = L
    · subst q; rw [upd_same] at h; cases h; exact h1
    · rw [upd_ne q] at h; exact w.c.same a o h
  · rw [upd_ne (show a ≠ L from fun z => w.nd (by rw [← z]; exact d))]; exact w.c.free a d
theorem wayD0 {H0 H : Hp} {L : Addr} (c : CellsR X.K H0 C H) (hL : H L = none) : WayD X H0 C H L [] [] H0 C (upd H L (.dK [])) := by
  have n0 := c.nn hL
  refine ⟨⟨Same.refl _, fun a o h n => by rw [upd_ne (ne_of_none h hL)]; exact h, fun a h e n => ⟨e, n⟩⟩, ⟨fun a o h => by rw [upd_ne (ne_of_none h n0)]; exact c.same a o h, c.free, fun a x hx => (c.ok a x hx).mono (Same.refl _) (upd_ne fun z => (c.ok a x hx).some (by rw [z]; exact hL)), c.nd⟩, ⟨[], upd_same, rfl, Reps.nil⟩, n0, c.notDom hL⟩
section
variable {scope : Scope} {own : List (Str × Nat)} {tg iter kx vx : Expr} {bd : Bind}
theorem read_dc (own : List (Str × Nat)) (bd : Bind) (hv : ∀ i ∈ bd.slots, i ∈ own.map (·.2)) : ∀ σ H R, TEx T ρ C Q σ H R → tDc (TIx T ρ C fun ds P C1 => DcW T scope bd kx vx (own.map (·.2)) ρ P Q ds [] [] C1) (bd.g X.K) tYes (someB T scope kx) (someB T scope vx) (own.map (·.2)) σ H R := by
  refine fun σ H R ⟨H0, at_, k⟩ => ⟨H0, at_, fun J ds P C1 H1 H01 p1 c1 y1 q1 L hL => ?_⟩
  have at1 := at_.step p1 c1
  refine ⟨fun j m H2 => m = ds.length - j ∧ j ≤ ds.length ∧ ∃ ks acc C2 H02, WayD X H01 C1 H1 L ks acc H02 C2 H2 ∧ DcW T scope bd kx vx (own.map (·.2)) ρ P Q (ds.drop j) ks acc C2, ⟨_, rfl, Nat.zero_le _, [], [], C1, H01, wayD0 c1 hL, q1⟩, ?_⟩
  rintro j m H2 ⟨rfl, hj, ks, acc, C2, H02, w2, q2⟩
  have hP : P C2 := by
    generalize ds.drop j = l at q2
    cases l with
    | nil => exact q2.1
    | cons d r => exact q2.1
  by_cases hlt : j < ds.length
  · rw [List.drop_eq_getElem_cons hlt] at q2
    obtain ⟨_, ρ', hb, qe⟩ := q2
    refine .inr ⟨y1.go j _ _ _ w2.st.base w2.c hP hlt, fun H3 => ∃ ks acc C3 H03, WayD X H01 C1 H1 L ks acc H03 C3 H3 ∧ DcW T scope bd kx vx (own.map (·.2)) ρ P Q (ds.drop (j + 1)) ks acc C3, fun H3 ⟨ks, acc, C3, H03, w3, q3⟩ => ⟨_, by omega, rfl, hlt, ks, acc, C3, H03, w3, q3⟩, fun x H3 hy => ?_⟩
    obtain ⟨H03, p3, c3, r3⟩ := y1.yld j _ _ _ x H3 ds[j] w2.st.base w2.c hP (by simp [hlt]) hy
    have w3 := w2.step p3 c3
    have at3 := at1.step w3.st c3
    refine bind_to c3.same hb hv r3 (at3.wipe _).s (at3.wipe _).l fun σ' s' l' ew => ⟨by rw [ew, wipe_wipe], ρ', C2, _, qe, H03, ⟨at3.a, c3, s', l'⟩, fun v y C4 H4 H04 p4 c4 r4 q4 => ?_⟩
    have w4 := w3.step p4 c4
    have at4 : At T H04 ρ' C4 σ' H4 := ⟨(at1.step w4.st c4).a, c4, SlotsR.mono s' p4.base, l'⟩
    refine ⟨ρ', C4, _, q4, H04, at4, fun v5 z C5 H5 H05 p5 c5 r5 ⟨key, hk, hlen, q5⟩ => ?_⟩
    obtain ⟨vs, f1, f2, w6⟩ := (w4.step p5 c5).add (key := key) hL r5
    refine ⟨_, key, keyD_rep hk r4, f1, ?_, _, _, C5, H05, w6, q5⟩
    rw [List.length_zip, ← f2, Nat.min_self]
    exact Nat.lt_trans hlen (by decide)
  · have e : j = ds.length := by omega
    subst e
    rw [List.drop_length] at q2
    obtain ⟨H0', f1, f2, f3⟩ := w2.fin hL
    exact .inl ⟨y1.stop _ _ _ _ w2.st.base w2.c hP (Nat.le_refl _), k _ _ C2 H2 H0' (p1.trans c1 f1) f2 f3 q2.2⟩
theorem we_dc (own : List (Str × Nat)) (bd : Bind) (hc : X.calm = true) (hN : X.N.Nodup) (ok : BlkOk X.N X.env.scope scope own)
    (hg : ∀ (s : Shared) (H : Hp) (Ca : Addr) (cl : List (Str × Addr)) (fp : List Addr), PG (X.blk s H scope (compEnvC scope cl Ca X.env) fp) tg (bd.g X.K)) (hv : ∀ i ∈ bd.slots, i ∈ own.map (·.2))
    (h : WI T tg iter ρ C fun ds P C1 => DcW T scope bd kx vx (own.map (·.2)) ρ P Q ds [] [] C1) (hs : ∀ x, foldedSetIterable iter X.env x = pure x := by intro _; rfl) : Tr.WE T (.DictComp kx vx [⟨tg, iter, [], 0⟩] scope pos) ρ C Q := by
  exact PE.imp (pe_dc hc hN h ok hg (fun _ _ _ _ _ => pts_nil) (pe_someB T scope kx) (pe_someB T scope vx) hs) (read_dc own bd hv)
def dcB (P : Cells → Prop) (f g : D → ME) (Q : QE) : List D → List Key → List D → Cells → Prop
  | [], ks, ds, C => P C ∧ Q (.dic ks ds) C
  | d :: r, ks, ds, C => P C ∧ f d C fun y C2 => g d C2 fun z C3 => ∃ key, keyD y = some key ∧ ks.length < 100000 ∧ dcB P f g Q r (putKs ks key) (putD ks ds key z) C3
abbrev eDc (I : MI) (f g : D → ME) : ME := fun C Q => I C fun ds P C1 => dcB P f g Q ds [] [] C1
theorem dc_mirror {bd : Bind} {vs : List Nat} {P : Cells → Prop} {Q : QE} {f g : D → ME} (hb : BdOk bd (wipeR ρ vs) T scope kx f) (hb2 : BdOk bd (wipeR ρ vs) T scope vx g) : ∀ {ds : List D} {ks : List Key} {acc : List D} {C : Cells}, dcB P f g Q ds ks acc C → DcW T scope bd kx vx vs ρ P Q ds ks acc C
  | [], ks, acc, C, h => h
  | d :: r, ks, acc, C, ⟨hp, h⟩ => by
    obtain ⟨ρ', e1, h1⟩ := hb.run d C _ h
    refine ⟨hp, ρ', e1, fun s H Ca cl fp => (h1 s H Ca cl fp).mono fun y C2 q => ?_⟩
    obtain ⟨ρ2, e2, h2⟩ := hb2.run d C2 _ q
    rw [e1] at e2; cases e2
    exact fun s H Ca cl fp => (h2 s H Ca cl fp).mono fun z C3 ⟨key, hk, hl, q⟩ => ⟨key, hk, hl, dc_mirror hb hb2 q⟩
theorem se_dc {I : MI} {f g : D → ME} (own : List (Str × Nat)) (bd : Bind) (hc : X.calm = true) (hN : X.N.Nodup) (ok : BlkOk X.N X.env.scope scope own)
    (hg : ∀ (s : Shared) (H : Hp) (Ca : Addr) (cl : List (Str × Addr)) (fp : List Addr), PG (X.blk s H scope (compEnvC scope cl Ca X.env) fp) tg (bd.g X.K)) (hv : ∀ i ∈ bd.slots, i ∈ own.map (·.2))
    (hI : SI T tg iter ρ I) (hb : BdOk bd (wipeR ρ (own.map (·.2))) T scope kx f) (hb2 : BdOk bd (wipeR ρ (own.map (·.2))) T scope vx g) (hs : ∀ x, foldedSetIterable iter X.env x = pure x := by intro _; rfl) : SE T (.DictComp kx vx [⟨tg, iter, [], 0⟩] scope pos) ρ (eDc I f g) :=
  fun C Q q => we_dc own bd hc hN ok hg hv ((hI C _ q).mono fun ds P C1 h => dc_mirror hb hb2 h) hs
end
section
variable {X : Cx} {e : Expr} {es : List Expr} {p : Pos} {te : TE} {t : TA}
end
def pII (g : Int → Int → Int) : D → D → ME
  | .int i, .int j => fun C Q => Q (.int (g i j)) C
  | _, _ => fun _ _ => False
section
variable {scope : Scope} {own : List (Str × Nat)} {tg iter : Expr} {bd : Bind}
end
end
end Tr

set_option maxHeartbeats 4000000
namespace Tr
open PySem L2 PySem.Spec PyProof.Rows
section
variable {X : Cx} {T : TX X} {ρ : Rho} {C : Cells} {e a b : Expr} {es : List Expr} {pos : Pos} {A B : ME}
end
end Tr
namespace Tr
open PySem L2 PySem.Spec PyProof.Rows
theorem tupN_made {X : Cx} : CallR X (.type "tuple") (fun vs H Q => ∃ a xs, vs = [.ref a] ∧ SqL X.K H a xs ∧ ∀ z o, H z = none → o.dict = none → Q (.ref z) (upd H z (.frz o (.tup xs)))) := by
  rintro pins s σ H vs us Q I r ⟨a, xs, rfl, hq, q⟩
  obtain ⟨u, rfl, ru⟩ := vals1 r
  cases ru
  obtain ⟨its, rv, pl, hz⟩ := I.list hq
  refine call_tuple_list pl.isList (fun h' kp => ?_) (by rw [List.size_toArray, ← rv.length]; exact hz)
  have J : Inv X pins σ H { s with heap := h' } := Inv.kept (t' := s.toks) I kp
  let ob : Obj := { cls := .type "tuple", data := .seq its.toArray }
  have J2 : Inv X pins σ (upd H h'.objs.size (.frz ob (.tup xs))) { s with heap := h'.push ob } := J.laid (t' := s.toks) (fun b o e => Heap.get?_push_of_some _ e) (Nat.le_refl _)
    (show ObjOk X.prog X.w _ _ _ (.frz ob (.tup xs)) from ⟨Heap.get?_push_size _ rfl, hz, its, rv, IsTup.new _ _⟩)
  exact ⟨.ref h'.objs.size, _, J2, rfl, q _ ob (J.hok.fresh (Nat.le_refl _)) rfl⟩
theorem nd_sq {K : W.Frag} {H : Hp} {a : Addr} {vs : List V} (h : NdT H a vs) : SqT K H a vs := let ⟨o, h1, _⟩ := h; .inl (.inr ⟨o, h1⟩)
theorem NdT.mono {H H' : Hp} {a : Addr} {vs : List V} (e : Same H H') (h : NdT H a vs) : NdT H' a vs := let ⟨o, h1, h2⟩ := h; ⟨o, e _ _ h1, h2⟩
def wk : D → D
  | .tpn ds => .tup ds
  | d => d
theorem rep_wk {K : W.Frag} {H : Hp} {d : D} {v : V} (r : Rep K H d v) : Rep K H (wk d) v := by
  unfold wk
  split
  · obtain ⟨a, vs, e, h, rr⟩ := r
    exact ⟨a, vs, e, nd_sq h, rr⟩
  · exact r
section
variable {X : Cx} {T : TX X} {ρ : Rho} {C : Cells} {o a e : Expr} {apos cpos pos : Pos} {A B : ME}
theorem cw_tupleN {d : D} {ds : List D} {Q : QE} (h : LstD C d ds) (q : Q (.tpn ds) C) : CW T (.type "tuple") [d] C Q :=
  CallR.imp tupN_made fun xs H R ⟨H0, c, r, k⟩ => by
    obtain ⟨v, e1, r1⟩ := r.one
    subst e1
    obtain ⟨a, vs, e2, h2, h3⟩ := lst_at c r1 h
    subst e2
    refine ⟨a, vs, rfl, h2, fun z o hl hd => ?_⟩
    obtain ⟨p2, c2⟩ := stp_new (o := .frz o (.tup vs)) c hl
    exact k _ (.tpn ds) C _ _ p2 c2 ⟨z, vs, rfl, ⟨o, upd_same, hd⟩, h3.mono p2.base⟩ q
def pTupleN (d : D) : ME := fun C Q => (∃ ds, LstD C d ds ∧ Q (.tpn ds) C) ∨ (∃ ds, d = .tpn ds ∧ Q (.tpn ds) C) ∨ pTuple1 d C Q
theorem cw_tupleS {ds : List D} {Q : QE} (q : Q (.tpn ds) C) : CW T (.type "tuple") [.tpn ds] C Q :=
  CallR.imp call_tuple_of fun xs H R ⟨H0, c, r, k⟩ => by
    obtain ⟨v, e1, r1⟩ := r.one
    subst e1
    obtain ⟨a, vs, rfl, h2, h3⟩ := r1
    exact ⟨a, vs, rfl, .inr ⟨nd_sq (h2.mono c.same), k.here (d := .tpn ds) c ⟨a, vs, rfl, h2, h3⟩ q⟩⟩
theorem on_tupleN (ds : List D) (C : Cells) (Q : QE) (h : on1 pTupleN ds C Q) : CW T (.type "tuple") ds C Q := by
  match ds, h with
  | [d], .inl ⟨xs, h1, h2⟩ => exact cw_tupleN h1 h2
  | [d], .inr (.inl ⟨xs, h1, h2⟩) => subst h1; exact cw_tupleS h2
  | [d], .inr (.inr h) => exact pTuple_ok [d] C Q h
abbrev eWk (A : ME) : ME := fun C Q => A C fun d C1 => Q (wk d) C1
theorem se_wk (h : SE T e ρ A) : SE T e ρ (eWk A) := fun C Q q => PE.imp (h C _ q) fun σ H R ⟨H0, a, k⟩ => ⟨H0, a, fun v d C' H' H0' p c r q => k v (wk d) C' H' H0' p c (rep_wk r) q⟩
theorem s_tupleN {d : D} {ds : List D} {Q : QE} (h : LstD C d ds) (q : Q (.tpn ds) C) : on1 pTupleN [d] C Q := .inl ⟨ds, h, q⟩
theorem s_tupleN' {d : D} {Q : QE} (h : on1 pTuple1 [d] C Q) : on1 pTupleN [d] C Q := .inr (.inr h)
end
end Tr

set_option maxHeartbeats 4000000
namespace TupNe
open PySem PySem.SeqAt GQ
open AutoSeq1 (wpAny_loadPart')
open MeetsSeq MeetsSeq2 MeetsSeq3 SeqRoads2
section
variable {prog : Program} {w : World} {A : Around} {R : Result → Shared → Prop}
end
section
variable {prog : Program} {w : World} {A : Around} {E : Value → Shared → Prop} {s : Shared}
end
end TupNe
namespace Tr
open PySem L2 PySem.Spec PyProof.Rows
section
variable {X : Cx} {T : TX X} {C : Cells} {Q : QE} {k : Nat} {f Cl : Addr} {fd : FuncData} {ps : List Str} {F : FS}
end
end Tr

set_option maxHeartbeats 4000000
namespace Tr
open PySem L2 PySem.Spec PyProof.Rows PySem.W
section
variable {K : W.Frag} {C : Addr} {M : Model}
end
section
variable {prog : Program} {w : World} {A : Around} {E : Value → Shared → Prop} {s : Shared} {K : W.Frag} {L : Addr} {m : Str → Option Value} {x C f : Addr} {ox : Obj} {od : Option Obj} {h₀ : Heap}
end
section
variable {X : Cx} {T : TX X} {C : Cells} {Q : QE} {k : Nat} {f Cl : Addr} {fd : FuncData} {ps : List Str} {F : FS} {d1 d2 : D} {ns ns2 : List Str} {ds ds2 : List D}
end
section
variable {X : Cx} {T : TX X} {C : Cells} {ρ : Rho} {N : TEnds} {tgs : List Expr} {pos : Pos} {body : List Stmt}
end
end Tr

set_option maxHeartbeats 4000000
namespace Tr
open PySem L2 PySem.Spec PyProof.Rows
structure PMc (X : Cx) (cs : List MatchCase) (z : Str) (t : TS) : Prop where
  run : ∀ (pins : List (Addr × Obj)) (s : Shared) (σ : L2.St) (H : Hp) (Dn : Ends) (u : Value) (first : Bool), Inv X pins σ H s → RelV (.str z) u → t Dn σ H → wpAny (model X.prog X.w) X.A (matchCases cs X.env u first) (L2.SP X pins Dn) X.xe s
section
variable {X : Cx} {T : TX X} {ρ : Rho} {C : Cells} {N : TEnds} {e a b o i : Expr} {pos cp mp tpos apos cpos : Pos} {body rest : List Stmt} {cs : List MatchCase} {z k : Str} {t : TS} {A B E : ME} {m m1 mm : MB} {Q : QE}
variable {tgs : List Expr} {ds : List D} {d : D}
end
end Tr

set_option maxHeartbeats 4000000
namespace Tr
open PySem L2 PySem.Spec PyProof.Rows
section
variable {X : Cx} {T : TX X} {ρ : Rho} {C : Cells} {tg e : Expr} {t : TE} {A : ME}
theorem Reps.rep {K : W.Frag} {H : Hp} {ds : List D} {vs : List V} (h : Reps K H ds vs) : ∀ n : Nat, Reps K H (List.replicate n ds).flatten (List.replicate n vs).flatten
  | 0 => Reps.nil
  | n + 1 => by
    rw [List.replicate_succ, List.replicate_succ, List.flatten_cons, List.flatten_cons]
    exact h.append (Reps.rep h n)
def oMulC (x y : D) : ME := fun C Q => ∃ (a : Addr) (ds : List D) (k : Int), x = .raw (.ref a) ∧ y = .int k ∧ (a, Cell.lst ds) ∈ C ∧ 0 ≤ k ∧ k ≤ 1000 ∧ ds.length ≤ 100 ∧ Q (.lst (List.replicate k.toNat ds).flatten) C
theorem oMulC_ok (x y : D) (C : Cells) (Q : QE) (h : oMulC x y C Q) : OW T (binaryOp .Mult) x y C Q := by
  obtain ⟨a, ds, n, rfl, rfl, hm, h0, h1, hl, q⟩ := h
  refine OpR.imp op_rep fun x y H R ⟨H0, c, r1, r2, k⟩ => ?_
  obtain rfl : x = .ref a := r1
  cases r2
  obtain ⟨vs, g1, g2⟩ := c.ok a _ hm
  have l1 := g2.length
  refine ⟨a, n, vs, rfl, rfl, g1, by omega, by omega, Nat.le_trans (Nat.mul_le_mul (show vs.length ≤ 100 by omega) (show n.toNat ≤ 1000 by omega)) (show 100 * 1000 ≤ sizeLine by decide), fun p hp => ?_⟩
  obtain ⟨p2, c2⟩ := stp_new (o := .lst (List.replicate n.toNat vs).flatten) c hp
  exact k _ (.lst (List.replicate n.toNat ds).flatten) C _ _ p2 c2 ⟨p, _, rfl, .inl (.inl upd_same), (Reps.rep g2 n.toNat).mono p2.base⟩ q
end
end Tr

set_option maxHeartbeats 4000000
namespace Tr
open PySem L2 PySem.Spec PyProof.Rows
section
variable {X : Cx} {T : TX X} {ρ : Rho} {C : Cells} {N : TEnds} {pos pos' np : Pos} {x : Str} {c : Value} {body suite : List Stmt} {b₀ : Stmt}
end
end Tr

set_option maxHeartbeats 4000000
namespace LstNe
open PySem PySem.SeqAt GQ
open AutoSeq1 (wpAny_loadPart')
open MeetsSeq MeetsSeq2 MeetsSeq3 SeqRoads2
section
variable {prog : Program} {w : World} {A : Around} {R : Result → Shared → Prop}
end
section
variable {prog : Program} {w : World} {A : Around} {E : Value → Shared → Prop} {s : Shared}
end
end LstNe
namespace Tr
open PySem L2 PySem.Spec PyProof.Rows
section
variable {X : Cx} {T : TX X} {C : Cells} {Q : QE} {k : Nat} {f Cl : Addr} {fd : FuncData} {ps : List Str} {F : FS} {d1 d2 : D}
end
end Tr

set_option maxHeartbeats 4000000
namespace Tr
open PySem L2 PySem.Spec PyProof.Rows
section
variable {X : Cx} {T : TX X} {ρ : Rho} {C : Cells} {Q : QE} {o : Expr} {pos : Pos} {k : Nat} {g Cl : Addr} {fd : FuncData} {ps : List Str} {F : FS} {m : Str} {A : ME} {Xq : QX}
end
section
variable {X : Cx} {T : TX X} {ρ : Rho} {N : TEnds} {pos : Pos} {x : Str} {d : D} {ds : List D} {tgs : List Expr} {body : List Stmt} {mm : MB}
end
end Tr

set_option maxHeartbeats 4000000
namespace Tr
open PySem L2 PySem.Spec PyProof.Rows
section
variable {X : Cx} {T : TX X} {ρ : Rho} {C : Cells} {Q : QE} {a b : Expr} {p pos : Pos} {A B : ME}
end
end Tr

set_option maxHeartbeats 4000000
namespace Tr
open PySem L2 PySem.Spec PyProof.Rows
section
variable {X : Cx} {T : TX X} {ρ : Rho} {C : Cells} {N : TEnds} {d : D} {body : List Stmt} {tgs : List Expr} {pos : Pos}
def mUn6 (d : D) (f : D → D → D → D → D → D → MB) : MB := match d with
  | .tup [x, y, z, u, v, w] => f x y z u v w
  | _ => fun _ => False
theorem s_mun6 {d0 d1 d2 d3 d4 d5 : D} {f : D → D → D → D → D → D → MB} (h : f d0 d1 d2 d3 d4 d5 C) : mUn6 (.tup [d0, d1, d2, d3, d4, d5]) f C := h
end
end Tr

set_option maxHeartbeats 4000000
namespace Tr
open PySem PySem.Spec PyProof.Rows
structure ZipAt (z TI TO i1 i2 l1 l2 S : Addr) (xs ys : Array Value) (i : Nat) (h : Heap) : Prop where
  ti : IsPair h TI (.ref i1) (.ref i2)
  a1 : h.IsListIter i1 l1 i
  a2 : h.IsListIter i2 l2 i
  x1 : h.IsList l1 xs
  x2 : h.IsList l2 ys
  lv : ∃ o, h.get? TO = some o
  zz : (IsZip h z TI TO .none ∧ ∃ a b, IsPair h TO a b) ∨ ∃ (T : Addr) (f : Bool) (o : Obj), IsZipHeld h z TI TO T f ∧ h.get? T = some o ∧ T ≠ z ∧ T ≠ i1 ∧ T ≠ i2 ∧ T ≠ S
structure OffZ (z TI TO i1 i2 l1 l2 S : Addr) : Prop where
  z : z ≠ S
  ti : TI ≠ S
  to : TO ≠ S
  i1 : i1 ≠ S
  i2 : i2 ≠ S
  l1 : l1 ≠ S
  l2 : l2 ≠ S
section
variable {prog : Program} {w : World} {A : Around} {E : Value → Shared → Prop}
end
end Tr
namespace Tr
open PySem L2 PySem.Spec PyProof.Rows
section
variable {X : Cx} {a b : Expr} {ta tb : TE}
end
section
variable {X : Cx} {T : TX X} {ρ : Rho} {C : Cells} {Q : QE} {a b : Expr} {A B : ME}
end
end Tr

set_option maxHeartbeats 4000000
namespace Tr
open PySem L2 PySem.Spec PyProof.Rows
section
variable {X : Cx}
theorem op_inG (hu : X.A.units + 64 < cLine) : OpR X (compareOp .In) (fun x y H Q => ∃ d ds, Dp X.K H x d ∧ (Dp X.K H y (.list ds) ∨ Dp X.K H y (.tuple ds)) ∧ d.canLay0 = true ∧ PyData.canLayAll0 ds = true ∧ d.depth ≤ 60 ∧ Q (.bl (ds.any fun z => PyData.eqv z d)) H) := by
  intro pins s σ H x y v u Q I rx ry h
  obtain ⟨d, ds, hd, he, sd, se, dp, q⟩ := h
  obtain ⟨as, r1⟩ := Dp.reads I d x v hd rx
  have hr : X.A.units + 1 + min (PyData.depthAll ds) d.depth < cLine := by
    have := Nat.min_le_right (PyData.depthAll ds) d.depth
    omega
  rcases he with he | he
  · obtain ⟨bs, r2⟩ := Dp.reads I (.list ds) y u he ry
    exact SeqAt.in_list_reads r2 r1 se sd hr ⟨.bl _, H, I, rfl, q⟩
  · obtain ⟨bs, r2⟩ := Dp.reads I (.tuple ds) y u he ry
    exact SeqAt.in_tuple_reads r2 r1 se sd hr ⟨.bl _, H, I, rfl, q⟩
theorem op_notInG (hu : X.A.units + 64 < cLine) : OpR X (compareOp .NotIn) (fun x y H Q => ∃ d ds, Dp X.K H x d ∧ (Dp X.K H y (.list ds) ∨ Dp X.K H y (.tuple ds)) ∧ d.canLay0 = true ∧ PyData.canLayAll0 ds = true ∧ d.depth ≤ 60 ∧ Q (.bl (!ds.any fun z => PyData.eqv z d)) H) := by
  intro pins s σ H x y v u Q I rx ry h
  obtain ⟨d, ds, hd, he, sd, se, dp, q⟩ := h
  obtain ⟨as, r1⟩ := Dp.reads I d x v hd rx
  have hr : X.A.units + 1 + min (PyData.depthAll ds) d.depth < cLine := by
    have := Nat.min_le_right (PyData.depthAll ds) d.depth
    omega
  rcases he with he | he
  · obtain ⟨bs, r2⟩ := Dp.reads I (.list ds) y u he ry
    exact SeqAt.notIn_list_reads r2 r1 se sd hr ⟨.bl _, H, I, rfl, q⟩
  · obtain ⟨bs, r2⟩ := Dp.reads I (.tuple ds) y u he ry
    exact SeqAt.notIn_tuple_reads r2 r1 se sd hr ⟨.bl _, H, I, rfl, q⟩
end
theorem toPys_map : ∀ ds : List D, toPys ds = ds.map toPy
  | [] => rfl
  | d :: ds => by rw [toPys, toPys_map ds, List.map_cons]
theorem plainDs_of : ∀ {ds : List D}, (∀ d ∈ ds, plainD d = true) → plainDs ds = true
  | [], _ => rfl
  | d :: ds, h => by rw [plainDs, h d List.mem_cons_self, plainDs_of fun x hx => h x (List.mem_cons_of_mem _ hx)]; rfl
theorem canLayAll_of {ds : List D} (h : ∀ d ∈ ds, (toPy d).canLay0 = true) : PyData.canLayAll0 (ds.map toPy) = true := by
  induction ds with
  | nil => rw [List.map_nil, PyData.canLayAll0]
  | cons d ds ih => rw [List.map_cons, PyData.canLayAll0, h d List.mem_cons_self, ih fun x hx => h x (List.mem_cons_of_mem _ hx)]; rfl
theorem depthAll_of {n : Nat} {ds : List D} (h : ∀ d ∈ ds, (toPy d).depth ≤ n) : PyData.depthAll (ds.map toPy) ≤ n := by
  induction ds with
  | nil => rw [List.map_nil, PyData.depthAll]; exact Nat.zero_le _
  | cons d ds ih => rw [List.map_cons, PyData.depthAll]; exact Nat.max_le.mpr ⟨h d List.mem_cons_self, ih fun x hx => h x (List.mem_cons_of_mem _ hx)⟩
theorem eqvAll_map {α : Type} [DecidableEq α] {g : α → D} (h : ∀ a b, PyData.eqv (toPy (g a)) (toPy (g b)) = decide (a = b)) : ∀ xs ys : List α, PyData.eqvAll ((xs.map g).map toPy) ((ys.map g).map toPy) = decide (xs = ys)
  | [], [] => by rw [List.map_nil, List.map_nil, PyData.eqvAll]; rfl
  | [], y :: ys => by simp [PyData.eqvAll]
  | x :: xs, [] => by simp [PyData.eqvAll]
  | x :: xs, y :: ys => by
    simp only [List.map_cons]
    rw [PyData.eqvAll, h, eqvAll_map h xs ys]
    by_cases e : x = y <;> by_cases e2 : xs = ys <;> simp [e, e2]
structure Cmp (n : Nat) (d : D) : Prop where
  pl : plainD d = true
  cl : (toPy d).canLay0 = true
  dp : (toPy d).depth ≤ n
def Tells {α : Type} [DecidableEq α] (g : α → D) : Prop := ∀ a b, PyData.eqv (toPy (g a)) (toPy (g b)) = decide (a = b)
theorem Cmp.tup {n : Nat} {ds : List D} (h : ∀ d ∈ ds, Cmp n d) : Cmp (n + 1) (.tup ds) where
  pl := plainDs_of fun d hd => (h d hd).pl
  cl := by
    show PyData.canLay0 (.tuple (toPys ds)) = true
    rw [toPys_map, PyData.canLay0]
    exact canLayAll_of fun d hd => (h d hd).cl
  dp := by
    show PyData.depth (.tuple (toPys ds)) ≤ n + 1
    have := depthAll_of (n := n) fun d hd => (h d hd).dp
    rw [toPys_map, PyData.depth]
    omega
theorem Cmp.mono {n m : Nat} {d : D} (h : Cmp n d) (l : n ≤ m) : Cmp m d := ⟨h.pl, h.cl, Nat.le_trans h.dp l⟩
theorem Cmp.str {x : Str} {n : Nat} (h : PyData.strOk x = true) : Cmp n (.str x) := ⟨rfl, by show PyData.canLay0 (.str x) = true; rw [PyData.canLay0]; exact h, Nat.zero_le _⟩
theorem Cmp.int {i : Int} {n : Nat} : Cmp n (.int i) := ⟨rfl, by show PyData.canLay0 (.int i) = true; rw [PyData.canLay0], Nat.zero_le _⟩
theorem Cmp.bl {b : Bool} {n : Nat} : Cmp n (.bl b) := ⟨rfl, by show PyData.canLay0 (.bool b) = true; rw [PyData.canLay0], Nat.zero_le _⟩
theorem Tells.tup {α : Type} [DecidableEq α] {g : α → D} (h : Tells g) : Tells (fun l : List α => .tup (l.map g)) := fun xs ys => by
  show PyData.eqv (.tuple (toPys (xs.map g))) (.tuple (toPys (ys.map g))) = _
  rw [toPys_map, toPys_map, PyData.eqv]
  exact eqvAll_map h xs ys
section
variable {X : Cx} {T : TX X} {C : Cells} {Q : QE} {x y : D}
structure InOk (x : D) (ds : List D) : Prop where
  x : Cmp 60 x
  ys : ∀ d ∈ ds, plainD d = true ∧ (toPy d).canLay0 = true
def oInP (x y : D) : ME := fun C Q => ∃ ds, SeqD C y ds ∧ InOk x ds ∧ Q (.bl (ds.any fun z => PyData.eqv (toPy z) (toPy x))) C
def oNotInP (x y : D) : ME := fun C Q => ∃ ds, SeqD C y ds ∧ InOk x ds ∧ Q (.bl (!ds.any fun z => PyData.eqv (toPy z) (toPy x))) C
theorem seq_dp {K : W.Frag} {H0 H : Hp} {v : V} {ds : List D} (c : CellsR K H0 C H) (r : Rep K H0 y v) (h : SeqD C y ds) (hp : plainDs ds = true) : Dp K H v (.list (ds.map toPy)) ∨ Dp K H v (.tuple (ds.map toPy)) := by
  rw [← toPys_map]
  rcases h with h | h
  · obtain ⟨a, vs, e2, h2, h3⟩ := lst_at c r h
    subst e2
    exact .inl (.lst h2 (reps_dp c.same hp h3))
  · subst h
    exact .inr (rep_dp (d := .tup ds) c.same hp r)
theorem any_map {ds : List D} {p : PyData} : (ds.map toPy).any (fun z => PyData.eqv z p) = ds.any fun z => PyData.eqv (toPy z) p := by rw [List.any_map]; rfl
theorem oInP_ok (hu : X.A.units + 64 < cLine) (x y : D) (C : Cells) (Q : QE) (h : oInP x y C Q) : OW T (compareOp .In) x y C Q := by
  obtain ⟨ds, h1, ⟨⟨p1, c1, d1⟩, h3⟩, q⟩ := h
  exact ow_look (d := .bl (ds.any fun z => PyData.eqv (toPy z) (toPy x))) (op_inG hu) (fun u v H H0 c r1 r2 => ⟨.bl _, rfl, fun R k =>
    ⟨toPy x, ds.map toPy, rep_dp c.same p1 r1, seq_dp c r2 h1 (plainDs_of fun d hd => (h3 d hd).1), c1, canLayAll_of fun d hd => (h3 d hd).2, d1, by rw [any_map]; exact k⟩⟩) q
theorem oNotInP_ok (hu : X.A.units + 64 < cLine) (x y : D) (C : Cells) (Q : QE) (h : oNotInP x y C Q) : OW T (compareOp .NotIn) x y C Q := by
  obtain ⟨ds, h1, ⟨⟨p1, c1, d1⟩, h3⟩, q⟩ := h
  exact ow_look (d := .bl (!ds.any fun z => PyData.eqv (toPy z) (toPy x))) (op_notInG hu) (fun u v H H0 c r1 r2 => ⟨.bl _, rfl, fun R k =>
    ⟨toPy x, ds.map toPy, rep_dp c.same p1 r1, seq_dp c r2 h1 (plainDs_of fun d hd => (h3 d hd).1), c1, canLayAll_of fun d hd => (h3 d hd).2, d1, by rw [any_map]; exact k⟩⟩) q
end
end Tr
namespace Tr
open PySem L2 PySem.Spec PyProof.Rows
section
variable {X : Cx} {T : TX X} {C : Cells} {ρ : Rho} {N : TEnds} {tgs : List Expr} {pos : Pos} {body : List Stmt}
def mUnC4 (d : D) (f : D → D → D → D → MB) : MB := fun C => ∃ x y z u, LstD C d [x, y, z, u] ∧ f x y z u C
theorem sg_fourC {d : D} {kk : Nat} {f : D → D → D → D → MB} {r : D → D → D → D → Rho} (hc : X.calm = true) (h : ∀ x y z u, GsOk T tgs [x, y, z, u] ρ (r x y z u)) (hb : ∀ x y z u, SB T body (r x y z u) (f x y z u) N) (hn : (assignEach tgs X.env).length = 4 := by rfl)
    (hst : (assignEach tgs X.env).findIdx? (·.1) = none := by rfl) : SG T (.Tuple tgs kk pos) d ρ body (mUnC4 d f) N := fun C ⟨x, y, z, u, hl, q⟩ =>
  PG.imp (pg_lst hc (h x y z u C _ (hb x y z u C q)) hn hst) fun v σ H R ⟨H0, at_, rp, k⟩ => by
    obtain ⟨a, vs, e1, q1, r1⟩ := lst_at at_.c rp hl
    exact ⟨a, vs, e1, q1, by rw [← r1.length]; rfl, H0, at_, r1, k⟩
end
end Tr

set_option maxHeartbeats 4000000
namespace Tr
open PySem L2 PySem.Spec PyProof.Rows
section
variable {C : Cells} {Q : QE} {i j : Int} {x y s t : Str} {xs ys ds : List D} {d e d1 d2 : D} {K : W.Frag} {own : D → D → ME} {own1 : D → ME} {b k : Bool}
theorem s_add_int (h : Q (.int (i + j)) C) : oAdd (.int i) (.int j) C Q := h
theorem s_add_str (h : x.length + y.length ≤ 100000 ∧ Q (.str (x ++ y)) C) : oAdd (.str x) (.str y) C Q := h
theorem s_add_tup (h : xs.length + ys.length ≤ 100000 ∧ Q (.tup (xs ++ ys)) C) : oAdd (.tup xs) (.tup ys) C Q := h
theorem s_add_lst (h : xs.length + ys.length ≤ 100000 ∧ Q (.lst (xs ++ ys)) C) : oAdd (.lst xs) (.lst ys) C Q := h
theorem s_add_cell (h1 : LstD C d xs) (h2 : LstD C e ys) (h : xs.length + ys.length ≤ 100000 ∧ Q (.lst (xs ++ ys)) C) : oAdd d e C Q := by
  unfold oAdd; split
  · obtain h1 | ⟨_, h1, _⟩ := h1 <;> cases h1
  · obtain h1 | ⟨_, h1, _⟩ := h1 <;> cases h1
  · obtain h1 | ⟨_, h1, _⟩ := h1 <;> cases h1
  · obtain h1 | ⟨_, h1, _⟩ := h1 <;> cases h1
    obtain h2 | ⟨_, h2, _⟩ := h2 <;> cases h2
    exact h
  · exact ⟨xs, ys, h1, h2, h⟩
theorem s_addO {own : D → D → ME} (n : isInsD d1 = false) (h : oAdd d1 d2 C Q) : oAddO own d1 d2 C Q := by
  unfold oAddO; split
  · cases n
  · exact h
theorem s_addOI {own : D → D → ME} {c : Addr} {ns : List Str} (h : own (.ins c ns ds) d2 C Q) : oAddO own (.ins c ns ds) d2 C Q := h
theorem s_ixO {Cl : Addr} {F : FS} {Xq : QX} (n : isInsD d1 = false) (h : pIx d1 d2 C Q) : pIxO Cl F Xq d1 d2 C Q := by
  unfold pIxO; split
  · cases n
  · exact h
theorem s_min (h : Q (.int (if j < i then j else i)) C) : on2 pMin2 [.int i, .int j] C Q := h
theorem s_sub (h : Q (.int (i - j)) C) : oSub (.int i) (.int j) C Q := h
theorem s_mul (h : CMul i j ∧ Q (.int (i * j)) C) : oMul (.int i) (.int j) C Q := h
theorem s_fdiv (h : (0 < j ∧ j < 1073741824) ∧ Q (.int (i / j)) C) : oFdiv (.int i) (.int j) C Q := h
theorem s_mod (h : 0 < j ∧ Q (.int (i % j)) C) : oMod (.int i) (.int j) C Q := h
theorem s_pow (h : CPow i j ∧ Q (.int (i ^ j.toNat)) C) : oPow (.int i) (.int j) C Q := h
theorem s_lt (h : Q (.bl (decide (i < j))) C) : oLt (.int i) (.int j) C Q := h
theorem s_le (h : Q (.bl (decide (i ≤ j))) C) : oLe (.int i) (.int j) C Q := h
theorem s_gt (h : Q (.bl (decide (j < i))) C) : oGt (.int i) (.int j) C Q := h
theorem s_ge (h : Q (.bl (decide (j ≤ i))) C) : oGe (.int i) (.int j) C Q := h
theorem s_lt_str (h : Q (.bl (decide (x.cps.toList < y.cps.toList))) C) : oLt (.str x) (.str y) C Q := h
theorem s_le_str (h : Q (.bl (!decide (y.cps.toList < x.cps.toList))) C) : oLe (.str x) (.str y) C Q := h
theorem s_eq_int (h : Q (.bl (decide (i = j))) C) : oEq own (.int i) (.int j) C Q := h
theorem s_eq_str (h : Q (.bl (decide (x = y))) C) : oEq own (.str x) (.str y) C Q := h
theorem s_eq_bl (h : Q (.bl (b == k)) C) : oEq own (.bl b) (.bl k) C Q := h
theorem s_ne_int (h : Q (.bl (!decide (i = j))) C) : oNe own (.int i) (.int j) C Q := h
theorem s_ne_str (h : Q (.bl (!decide (x = y))) C) : oNe own (.str x) (.str y) C Q := h
theorem s_ne_bl (h : Q (.bl (b != k)) C) : oNe own (.bl b) (.bl k) C Q := h
def isB : D → Bool
  | .int _ | .str _ | .bl _ => true
  | _ => false
def EqD (C : Cells) (d1 d2 : D) (b : Bool) : Prop := ∃ p1 p2, PyR C d1 p1 ∧ PyR C d2 p2 ∧ SeqAt.shaped p1 = true ∧ SeqAt.shaped p2 = true ∧ PyData.eqv p1 p2 = b
theorem eq_go (n : isB d1 = false ∨ isB d2 = false) (h : (∃ p1 p2, PyR C d1 p1 ∧ PyR C d2 p2 ∧ SeqAt.shaped p1 = true ∧ SeqAt.shaped p2 = true ∧ Q (.bl (PyData.eqv p1 p2)) C) ∨ own d1 d2 C Q) : oEq own d1 d2 C Q := by
  unfold oEq; split
  · rcases n with n | n <;> cases n
  · rcases n with n | n <;> cases n
  · rcases n with n | n <;> cases n
  · exact h
theorem ne_go (n : isB d1 = false ∨ isB d2 = false) (h : (∃ p1 p2, PyR C d1 p1 ∧ PyR C d2 p2 ∧ SeqAt.shaped p1 = true ∧ SeqAt.shaped p2 = true ∧ Q (.bl (!PyData.eqv p1 p2)) C) ∨ own d1 d2 C Q) : oNe own d1 d2 C Q := by
  unfold oNe; split
  · rcases n with n | n <;> cases n
  · rcases n with n | n <;> cases n
  · rcases n with n | n <;> cases n
  · exact h
theorem s_eqD (n : isB d1 = false ∨ isB d2 = false) (h : EqD C d1 d2 b) (q : Q (.bl b) C) : oEq own d1 d2 C Q := by
  obtain ⟨p1, p2, h1, h2, h3, h4, rfl⟩ := h
  exact eq_go n (.inl ⟨p1, p2, h1, h2, h3, h4, q⟩)
theorem s_neD (n : isB d1 = false ∨ isB d2 = false) (h : EqD C d1 d2 b) (q : Q (.bl (!b)) C) : oNe own d1 d2 C Q := by
  obtain ⟨p1, p2, h1, h2, h3, h4, rfl⟩ := h
  exact ne_go n (.inl ⟨p1, p2, h1, h2, h3, h4, q⟩)
theorem eqd_lstS {xs ys : List Str} (h1 : LstD C d1 (xs.map D.str)) (h2 : LstD C d2 (ys.map D.str)) (hx : ∀ x ∈ xs, PyData.strOk x = true) (hy : ∀ x ∈ ys, PyData.strOk x = true) : EqD C d1 d2 (decide (xs = ys)) :=
  ⟨_, _, pyR_l h1 (plain_strs xs), pyR_l h2 (plain_strs ys), shaped_lstS hx, shaped_lstS hy, by rw [PyData.eqv, eqv_strs]⟩
theorem eqd_lstI {xs ys : List Int} (h1 : LstD C d1 (xs.map D.int)) (h2 : LstD C d2 (ys.map D.int)) : EqD C d1 d2 (decide (xs = ys)) :=
  ⟨_, _, pyR_l h1 (plain_ints xs), pyR_l h2 (plain_ints ys), shaped_lstI xs, shaped_lstI ys, by rw [PyData.eqv, eqv_ints]⟩
theorem s_is_bl (h : Q (.bl (decide (b = k))) C) : oIs (.bl b) (.bl k) C Q := h
theorem s_isnot_bl (h : Q (.bl (!decide (b = k))) C) : oIsNot (.bl b) (.bl k) C Q := h
def notRaw : D → Bool
  | .raw _ => false
  | _ => true
theorem s_isN (n : notRaw d = true) (h : Q (.bl (isNon d)) C) : oIs d .non C Q := by
  cases d with
  | raw _ => cases n
  | _ => exact ⟨fun w e => (by cases e), h⟩
theorem s_isNotN (n : notRaw d = true) (h : Q (.bl (!isNon d)) C) : oIsNot d .non C Q := by
  cases d with
  | raw _ => cases n
  | _ => exact ⟨fun w e => (by cases e), h⟩
theorem s_isN_ref {a : Addr} (h : Q (.bl false) C) : oIs (.raw (.ref a)) .non C Q := h
theorem s_isNotN_ref {a : Addr} (h : Q (.bl true) C) : oIsNot (.raw (.ref a)) .non C Q := h
theorem s_inS {xs : List Str} (h1 : SeqD C d (xs.map D.str)) (h : Q (.bl (decide (s ∈ xs))) C) : oIn (.str s) d C Q :=
  .inl ⟨_, h1, rfl, by simp [flatD], by rw [inD_strs]; exact h⟩
theorem s_notInS {xs : List Str} (h1 : SeqD C d (xs.map D.str)) (h : Q (.bl (!decide (s ∈ xs))) C) : oNotIn (.str s) d C Q :=
  ⟨_, h1, rfl, by simp [flatD], by rw [inD_strs]; exact h⟩
theorem s_inSign {n : Nat} {z : Str} (h : Q (.bl (decide (n ∈ z.cps.toList))) C) : oIn (.str ⟨#[n]⟩) (.str z) C Q := .inr ⟨n, z, rfl, rfl, h⟩
theorem s_notInSign {n : Nat} {z : Str} (h : Q (.bl (!decide (n ∈ z.cps.toList))) C) : oNotInS (.str ⟨#[n]⟩) (.str z) C Q := ⟨n, z, rfl, rfl, h⟩
theorem s_tup (h : ds.length ≤ 100000 ∧ Q (.tup ds) C) : pTup ds C Q := h
theorem s_lst (h : ds.length ≤ 100000 ∧ Q (.lst ds) C) : pLst ds C Q := h
theorem s_lstC (h : ds.length ≤ 100000 ∧ ∀ p, Q (.raw (.ref p)) ((p, .lst ds) :: C)) : pLstC ds C Q := h
theorem s_tru {R : QT} (h : R b C) : pTru (.bl b) C R := h
theorem s_ii {g : Int → Int → Int} (h : Q (.int (g i j)) C) : pII g (.int i) (.int j) C Q := h
theorem s_neg (h : Q (.int (-i)) C) : pNeg (.int i) C Q := h
theorem s_fld {Cl : Addr} {ns : List Str} {m : Str} (h1 : InsD C d Cl ns ds) (h2 : Cls K Cl) (h3 : NoAttr K Cl m) (h4 : (ns.zip ds).lookup m = some e) (h : Q e C) : pFld K m d C Q := ⟨_, _, _, _, h1, h2, h3, h4, h⟩
theorem s_ix_tup (h1 : atI ds i = some d) (h : Q d C) : pIx (.tup ds) (.int i) C Q := ⟨d, h1, h⟩
theorem s_ix_lst (h1 : atI ds i = some d) (h : Q d C) : pIx (.lst ds) (.int i) C Q := ⟨d, h1, h⟩
theorem s_ix_cell {a : Addr} (h0 : LstD C (.raw (.ref a)) ds) (h1 : atI ds i = some d) (h : Q d C) : pIx (.raw (.ref a)) (.int i) C Q := ⟨ds, d, h0, h1, h⟩
theorem s_oi {R : Option Int → Cells → Prop} (h : R (some i) C) : pOI (.int i) C R := h
theorem s_sl_tup {l u : Option Int} (h : Q (.tup (cutD ds l u)) C) : pSl (.tup ds) l u C Q := h
theorem s_sl_lst {l u : Option Int} (h : Q (.lst (cutD ds l u)) C) : pSl (.lst ds) l u C Q := h
theorem s_sl_str {l u : Option Int} (h : s.length ≤ 100000 ∧ Q (.str (cutS s l u)) C) : pSl (.str s) l u C Q := h
theorem s_sl_cell {a : Addr} {l u : Option Int} (h0 : LstD C (.raw (.ref a)) ds) (h : Q (.lst (cutD ds l u)) C) : pSl (.raw (.ref a)) l u C Q := ⟨ds, h0, h⟩
theorem s_rev (h0 : LstD C d ds) (h : Q (.lst ds.reverse) C) : pRev d C Q := ⟨ds, h0, h⟩
theorem s_revC (h0 : LstD C d ds) (h : ∀ p, Q (.raw (.ref p)) ((p, .lst ds.reverse) :: C)) : pRevC d C Q := ⟨ds, h0, h⟩
variable {R : QI}
theorem s_it_lst (h : R ds (fun _ => True) C) : pIter (.lst ds) C R := h
theorem s_it_tup (h : R ds (fun _ => True) C) : pIter (.tup ds) C R := h
theorem s_it_cell {a : Addr} (h0 : SeqD C (.raw (.ref a)) ds) (h : R ds (fun C' => SeqD C' (.raw (.ref a)) ds) C) : pIter (.raw (.ref a)) C R := ⟨ds, h0, h⟩
theorem s_itS (h : R (signsD s) (fun _ => True) C) : pIterS (.str s) C R := h
theorem s_rg1 (h : (-(2 ^ 62) ≤ i ∧ i < 2 ^ 62) ∧ R (rangeD 0 i.toNat) (fun _ => True) C) : pRange1 (.int i) C R := h
theorem s_rg2 (h : (-(2 ^ 62) ≤ i ∧ i < 2 ^ 62 ∧ -(2 ^ 62) ≤ j ∧ j < 2 ^ 62) ∧ R (rangeD i (j - i).toNat) (fun _ => True) C) : pRange2 (.int i) (.int j) C R := h
theorem s_en_lst (h : R (enumD 0 ds) (fun _ => True) C) : pEnum (.lst ds) C R := h
theorem s_en_tup (h : R (enumD 0 ds) (fun _ => True) C) : pEnum (.tup ds) C R := h
theorem s_en_cell {a : Addr} (h0 : SeqD C (.raw (.ref a)) ds) (h : R (enumD 0 ds) (fun C' => SeqD C' (.raw (.ref a)) ds) C) : pEnum (.raw (.ref a)) C R := ⟨ds, h0, h⟩
theorem s_un2 {β : Sort _} {q : β} {f : D → D → Cells → β → Prop} (h : f d e C q) : un2 (.tup [d, e]) f C q := h
theorem s_un3 {β : Sort _} {q : β} {f : D → D → D → Cells → β → Prop} (h : f d e d1 C q) : un3 (.tup [d, e, d1]) f C q := h
theorem s_mun2 {f : D → D → MB} (h : f d e C) : mUn2 (.tup [d, e]) f C := h
theorem s_mun3 {f : D → D → D → MB} (h : f d e d1 C) : mUn3 (.tup [d, e, d1]) f C := h
theorem s_mun5 {d3 : D} {f : D → D → D → D → D → MB} (h : f d e d1 d2 d3 C) : mUn5 (.tup [d, e, d1, d2, d3]) f C := h
theorem s_mun4 {f : D → D → D → D → MB} (h : f d e d1 d2 C) : mUn4 (.tup [d, e, d1, d2]) f C := h
theorem s_len_lst (h : Q (.int ds.length) C) : on1 (pLen1 own1) [.lst ds] C Q := h
theorem s_len_tup (h : Q (.int ds.length) C) : on1 (pLen1 own1) [.tup ds] C Q := h
theorem s_len_str (h : s.length ≤ 100000 ∧ Q (.int s.length) C) : on1 (pLen1 own1) [.str s] C Q := h
theorem s_len_cell {a : Addr} (h0 : LstD C (.raw (.ref a)) ds) (h : Q (.int ds.length) C) : on1 (pLen1 own1) [.raw (.ref a)] C Q := .inl ⟨ds, h0, h⟩
theorem s_len_own {Cl : Addr} {ns : List Str} (h : own1 (.ins Cl ns ds) C Q) : on1 (pLen1 own1) [.ins Cl ns ds] C Q := .inr h
theorem s_str_str (h : Q (.str s) C) : on1 (pStr1 own1) [.str s] C Q := h
theorem s_str_int (h : i.natAbs.log2 < 1920 ∧ Q (.str (toString i)) C) : on1 (pStr1 own1) [.int i] C Q := h
theorem s_str_own {Cl : Addr} {ns : List Str} (h : own1 (.ins Cl ns ds) C Q) : on1 (pStr1 own1) [.ins Cl ns ds] C Q := h
theorem s_str_ownC {a : Addr} (h : own1 (.raw (.ref a)) C Q) : on1 (pStr1 own1) [.raw (.ref a)] C Q := h
theorem s_int_int (h : Q (.int i) C) : on1 pInt1 [.int i] C Q := h
theorem s_int_bl (h : Q (.int (if b then 1 else 0)) C) : on1 pInt1 [.bl b] C Q := h
theorem s_int_str (h : s.length ≤ 640 ∧ ∃ n, intText? s = some n ∧ Q (.int n) C) : on1 pInt1 [.str s] C Q := h
theorem s_list_lst (h : Q (.lst ds) C) : on1 pList1 [.lst ds] C Q := h
theorem s_list_tup (h : Q (.lst ds) C) : on1 pList1 [.tup ds] C Q := h
theorem s_list_cell {a : Addr} (h0 : SeqD C (.raw (.ref a)) ds) (h : Q (.lst ds) C) : on1 pList1 [.raw (.ref a)] C Q := ⟨ds, h0, h⟩
theorem s_listC_lst (h : ∀ p, Q (.raw (.ref p)) ((p, .lst ds) :: C)) : on1 pListC1 [.lst ds] C Q := h
theorem s_listC_tup (h : ∀ p, Q (.raw (.ref p)) ((p, .lst ds) :: C)) : on1 pListC1 [.tup ds] C Q := h
theorem s_listC_cell {a : Addr} (h0 : SeqD C (.raw (.ref a)) ds) (h : ∀ p, Q (.raw (.ref p)) ((p, .lst ds) :: C)) : on1 pListC1 [.raw (.ref a)] C Q := ⟨ds, h0, h⟩
theorem s_tuple_lst (h : Q (.tup ds) C) : on1 pTuple1 [.lst ds] C Q := h
theorem s_tuple_tup (h : Q (.tup ds) C) : on1 pTuple1 [.tup ds] C Q := h
theorem s_tuple_seq (h0 : SeqD C d ds) (h : Q (.tup ds) C) : on1 pTuple1 [d] C Q := by
  show pTuple1 d C Q
  unfold pTuple1; split
  · obtain (h0 | ⟨_, h0, _⟩) | h0 := h0 <;> cases h0; exact h
  · obtain (h0 | ⟨_, h0, _⟩) | h0 := h0 <;> cases h0; exact h
  · exact ⟨ds, h0, h⟩
theorem s_list_seq (h0 : SeqD C d ds) (h : Q (.lst ds) C) : on1 pList1 [d] C Q := by
  show pList1 d C Q
  unfold pList1; split
  · obtain (h0 | ⟨_, h0, _⟩) | h0 := h0 <;> cases h0; exact h
  · obtain (h0 | ⟨_, h0, _⟩) | h0 := h0 <;> cases h0; exact h
  · exact ⟨ds, h0, h⟩
theorem s_it_seq (h0 : SeqD C d ds) (h : ∀ P : Cells → Prop, (∀ C', SeqD C' d ds → P C') → R ds P C) : pIter d C R := by
  unfold pIter; split
  · obtain (h0 | ⟨_, h0, _⟩) | h0 := h0 <;> cases h0; exact h _ fun _ _ => trivial
  · obtain (h0 | ⟨_, h0, _⟩) | h0 := h0 <;> cases h0; exact h _ fun _ _ => trivial
  · exact ⟨ds, h0, h _ fun _ h => h⟩
theorem s_en_seq (h0 : SeqD C d ds) (h : ∀ P : Cells → Prop, (∀ C', SeqD C' d ds → P C') → R (enumD 0 ds) P C) : pEnum d C R := by
  unfold pEnum; split
  · obtain (h0 | ⟨_, h0, _⟩) | h0 := h0 <;> cases h0; exact h _ fun _ _ => trivial
  · obtain (h0 | ⟨_, h0, _⟩) | h0 := h0 <;> cases h0; exact h _ fun _ _ => trivial
  · exact ⟨ds, h0, h _ fun _ h => h⟩
theorem s_allM {α : Type} {l : List α} {f : α → Bool} (h : Q (.bl (l.all f)) C) : on1 pAll1 [.lst (l.map fun a => D.bl (f a))] C Q :=
  ⟨l.map f, by rw [List.map_map]; rfl, by rw [List.all_map]; exact h⟩
theorem s_anyM {α : Type} {l : List α} {f : α → Bool} (h : Q (.bl (l.any f)) C) : on1 pAny1 [.lst (l.map fun a => D.bl (f a))] C Q :=
  ⟨l.map f, by rw [List.map_map]; rfl, by rw [List.any_map]; exact h⟩
theorem s_abs (h : Q (.int (if i < 0 then -i else i)) C) : on1 pAbs1 [.int i] C Q := h
theorem s_max (h : Q (.int (if j > i then j else i)) C) : on2 pMax2 [.int i, .int j] C Q := h
theorem s_isi {tv u : Value} (h1 : ClsD e u) (h2 : TyD K C d tv) (h3 : W.kitOne K tv u = some b) (h : Q (.bl b) C) : on2 (pIsI K) [d, e] C Q := .inl ⟨tv, u, b, h1, h2, h3, h⟩
theorem s_isiT {tv : Value} {us : List Value} (h1 : Paired ClsD ds us) (h2 : TyD K C d tv) (h3 : W.kitAny K tv us = some b) (h : Q (.bl b) C) : on2 (pIsI K) [d, .tup ds] C Q := .inr ⟨ds, tv, us, b, rfl, h1, h2, h3, h⟩
theorem s_repr_str (hl : (reprText s).length ≤ 100000) (h : ∀ r, r = reprText s → Q (.str r) C) : on1 pRepr1 [.str s] C Q := ⟨hl, h _ rfl⟩
theorem s_repr_non (h : Q (.str "None") C) : on1 pRepr1 [.non] C Q := h
theorem s_onStr {β : Sort _} {q : β} {kk : Str → Cells → β → Prop} (h : kk s C q) : onStr (.str s) kk C q := h
theorem s_split (h : (t.length == 0) = false ∧ s.length ≤ 100000 ∧ Q (.lst ((Txt.split s t).map D.str)) C) : pSplit s (.str t) C Q := h
theorem s_part (h : (t.length == 0) = false ∧ s.length ≤ 100000 ∧ Q (.tup [.str (Txt.partition s t).1, .str (Txt.partition s t).2.1, .str (Txt.partition s t).2.2]) C) : pPart s (.str t) C Q := h
theorem s_starts (h : Q (.bl (Txt.startswith s t)) C) : pStarts s (.str t) C Q := h
theorem s_join {zs : List Str} (h0 : SeqD C d (zs.map D.str)) (h : (zs.map (·.length)).sum + zs.length * s.length ≤ 100000 ∧ Q (.str (Txt.join s zs)) C) : pJoin s d C Q := ⟨zs, h0, h⟩
theorem s_fmt_str (h : s.length ≤ 100000 ∧ Q (.str s) C) : pFmt (.str s) C Q := h
theorem s_fmt_int (h : i.natAbs.log2 < 1920 ∧ Q (.str (toString i)) C) : pFmt (.int i) C Q := h
theorem s_app {a : Addr} (n : Nat) (h1 : C[n]? = some (a, .lst ds)) (h : ds.length < 100000 ∧ Q .non (C.set n (a, .lst (ds ++ [d])))) : pApp (.raw (.ref a)) d C Q := ⟨n, a, ds, rfl, h1, h⟩
theorem s_frz {a : Addr} {k : D → MB} {c : Cell} (n : Nat) (h1 : C[n]? = some (a, c)) (h : k c.toD (C.eraseIdx n)) : mFrz (.raw (.ref a)) k C := ⟨n, a, c, rfl, h1, h⟩
theorem s_isL {a : Addr} (h : LstD C (.raw (.ref a)) ds) : isL (.raw (.ref a)) C := by
  obtain h | ⟨z, h, hm⟩ := h
  · cases h
  · cases h; exact ⟨_, _, rfl, hm⟩
theorem s_pop {a : Addr} (n : Nat) (h1 : C[n]? = some (a, .lst (ds ++ [d]))) (h : Q d (C.set n (a, .lst ds))) : pPop (.raw (.ref a)) C Q := ⟨n, a, ds, d, rfl, h1, h⟩
theorem ite2M {c : Prop} [Decidable c] {A B : Prop} (h1 : c → A) (h2 : ¬ c → B) : if c then A else B := by
  by_cases h : c
  · rw [if_pos h]; exact h1 h
  · rw [if_neg h]; exact h2 h
theorem ifT {A B : Prop} (h : A) : if (true : Bool) = true then A else B := h
theorem q_bl {C : Cells} {Q : QE} {b b' : Bool} (q : Q (.bl b) C) (e : b = b') : Q (.bl b') C := e ▸ q
theorem ifPos {b : Bool} {A B : Prop} (e : b = true) (h : A) : if b = true then A else B := by rw [if_pos e]; exact h
theorem ifNeg {b : Bool} {A B : Prop} (e : b = false) (h : B) : if b = true then A else B := by rw [if_neg (by rw [e]; decide)]; exact h
theorem ifPosN {b : Bool} {A B : Prop} (e : b = false) (h : A) : if (!b) = true then A else B := by rw [if_pos (by rw [e]; rfl)]; exact h
theorem ifNegN {b : Bool} {A B : Prop} (e : b = true) (h : B) : if (!b) = true then A else B := by rw [if_neg (by rw [e]; decide)]; exact h
theorem ifF {A B : Prop} (h : B) : if (false : Bool) = true then A else B := by rw [if_neg (by decide)]; exact h
end
end Tr
namespace Tr
open PySem L2 PySem.Spec PyProof.Rows
theorem drop_id {C : Cells} {d : D} {Q : QE} (h : Q d C) : ∃ C' r, C.Perm (C' ++ r) ∧ Q d C' := ⟨C, [], by simp, h⟩
theorem partC_one {a : Addr} {c : Cell} {C : Cells} {m : MB} (h : m C) : mPart m ((a, c) :: C) := ⟨C, [(a, c)], List.perm_append_comm (l₁ := [_]), h⟩
end Tr
namespace Tr
open PySem L2 PySem.Spec PyProof.Rows
def isStr : D → Bool
  | .str _ => true
  | _ => false
def strOf : D → Str
  | .str s => s
  | _ => Str.empty
structure AnyD (K : W.Frag) (C : Cells) (d : D) : Prop where
  ty : ∃ t, TyD K C d t ∧ W.kitOne K t (.type "str") = some (isStr d)
  ln : (strOf d).length ≤ 100000
def SqA (K : W.Frag) (C : Cells) (d : D) (b : Bool) : Prop := ∃ t, TyD K C d t ∧ W.kitAny K t [.type "list", .type "tuple"] = some b
theorem any_str {K : W.Frag} {C : Cells} {s : Str} (h : s.length ≤ 100000) : AnyD K C (.str s) := ⟨⟨_, .str s, kit_ty (show kitB "str" "str" = some true by decide +kernel)⟩, h⟩
theorem seq_ty {K : W.Frag} {C : Cells} {d : D} {xs : List D} (h : SeqD C d xs) : ∃ t, TyD K C d t ∧ W.kitAny K t [.type "list", .type "tuple"] = some true := by
  have kl : W.kitOne K (.type "list") (.type "list") = some true := kit_ty (by decide +kernel)
  have kt : W.kitOne K (.type "tuple") (.type "tuple") = some true := kit_ty (by decide +kernel)
  have klt : W.kitOne K (.type "tuple") (.type "list") = some false := kit_ty (by decide +kernel)
  rcases h with (rfl | ⟨a, rfl, hm⟩) | rfl
  · exact ⟨_, .lst _, kitAny_cons (b := true) kl (fun h => by cases h) (fun _ => rfl)⟩
  · exact ⟨_, .cl hm, kitAny_cons (b := true) kl (fun h => by cases h) (fun _ => rfl)⟩
  · exact ⟨_, .tup _, kitAny_cons (b := false) klt (fun _ => kitAny_cons (b := true) kt (fun h => by cases h) (fun _ => rfl)) (fun h => by cases h)⟩
theorem sq_seq {K : W.Frag} {C : Cells} {d : D} {xs : List D} (h : SeqD C d xs) : SqA K C d true := seq_ty h
theorem sq_ty {K : W.Frag} {C : Cells} {d : D} {t : String} {b : Bool} (h : TyD K C d (.type t)) (e : (kitB t "list" = some true ∧ b = true) ∨ (kitB t "list" = some false ∧ kitB t "tuple" = some b)) : SqA K C d b := by
  refine ⟨_, h, ?_⟩
  rcases e with ⟨e, rfl⟩ | ⟨e1, e2⟩
  · exact kitAny_cons (b := true) (kit_ty e) (fun h => by cases h) (fun _ => rfl)
  · cases b with
    | true => exact kitAny_cons (b := false) (kit_ty e1) (fun _ => kitAny_cons (b := true) (kit_ty e2) (fun h => by cases h) (fun _ => rfl)) (fun h => by cases h)
    | false => exact kitAny_cons (b := false) (kit_ty e1) (fun _ => kitAny_cons (b := false) (kit_ty e2) (fun _ => rfl) (fun h => by cases h)) (fun h => by cases h)
theorem s_isSq {K : W.Frag} {C : Cells} {d : D} {b : Bool} {Q : QE} (h : SqA K C d b) (q : Q (.bl b) C) : on2 (pIsI K) [d, .tup [.raw (.ty "list"), .raw (.ty "tuple")]] C Q :=
  let ⟨_, h1, h2⟩ := h
  s_isiT (.cons (.ty _) (.cons (.ty _) .nil)) h1 h2 q
theorem s_isStr {K : W.Frag} {C : Cells} {d : D} {Q : QE} (h : AnyD K C d) (q : Q (.bl (isStr d)) C) : on2 (pIsI K) [d, .raw (.ty "str")] C Q :=
  let ⟨_, h1, h2⟩ := h.ty
  s_isi (.ty _) h1 h2 q
theorem lstD_sub {C C' : Cells} {d : D} {xs : List D} (s : ∀ x ∈ C, x ∈ C') (h : LstD C d xs) : LstD C' d xs := by
  rcases h with h | ⟨a, h, hm⟩
  · exact .inl h
  · exact .inr ⟨a, h, s _ hm⟩
theorem seqD_sub {C C' : Cells} {d : D} {xs : List D} (s : ∀ x ∈ C, x ∈ C') (h : SeqD C d xs) : SeqD C' d xs := by
  rcases h with h | h
  · exact .inl (lstD_sub s h)
  · exact .inr h
theorem atI_in {α : Type} {l : List α} {k : Int} (h0 : 0 ≤ k) (h1 : k < l.length) : ∃ d, atI l k = some d ∧ d ∈ l := by
  unfold atI ixN
  rw [if_pos h0, if_pos h1]
  have h : k.toNat < l.length := by omega
  exact ⟨l[k.toNat], by simp [h], List.getElem_mem h⟩
theorem atI_map {α β : Type} (f : α → β) {l : List α} {k : Int} {x : α} (h : atI l k = some x) : atI (l.map f) k = some (f x) := by
  unfold atI at h ⊢
  rw [List.length_map]
  cases e : ixN l.length k with
  | none => rw [e] at h; cases h
  | some j =>
    rw [e] at h
    have h' : l[j]? = some x := h
    show (l.map f)[j]? = some (f x)
    rw [List.getElem?_map, h']; rfl
theorem atI_last {α : Type} {l : List α} {x : α} : atI (l ++ [x]) (-1) = some x := by
  unfold atI ixN
  rw [List.length_append, List.length_singleton, if_neg (by decide), if_pos (by omega)]
  show (l ++ [x])[((-1 : Int) + ((l.length + 1 : Nat) : Int)).toNat]? = some x
  rw [show ((-1 : Int) + ((l.length + 1 : Nat) : Int)).toNat = l.length by omega]
  simp
theorem s_ix_at {α : Type} {C : Cells} {Q : QE} {l : List α} {g : α → D} {k : Int} (h0 : 0 ≤ k) (h1 : k < l.length) (q : ∀ a ∈ l, Q (g a) C) : pIx (.lst (l.map g)) (.int k) C Q := by
  obtain ⟨a, e, hm⟩ := atI_in (l := l) h0 h1
  exact s_ix_lst (atI_map g e) (q a hm)
end Tr
namespace Tr
open PySem L2 PySem.Spec PyProof.Rows
theorem lcB_mapD {C : Cells} {P : Cells → Prop} {f : D → ME} {Q : QE} {ds : List D} (h : D → D) (hp : P C) (hf : ∀ d ∈ ds, ∀ k : QE, k (h d) C → f d C k) (hl : ds.length ≤ 100000) (q : Q (.lst (ds.map h)) C) : lcB P f Q ds [] C := by
  have := lcB_map (P := P) (f := f) (Q := Q) (l := ds) id h hp hf hl q
  rwa [List.map_id] at this
end Tr
namespace Tr
open PySem L2 PySem.Spec PyProof.Rows
theorem lcB1_mapD {C : Cells} {P : Cells → Prop} {t : D → MT} {f : D → ME} {Q : QE} {ds : List D} (b : D → Bool) (hp : P C) (ht : ∀ d ∈ ds, ∀ k : QT, k (b d) C → t d C k) (hf : ∀ d ∈ ds, b d = true → ∀ k : QE, k d C → f d C k) (hl : ds.length ≤ 100000) (q : Q (.lst (ds.filter b)) C) : lcB1 P t f Q ds [] C := by
  have := lcB1_map (P := P) (t := t) (f := f) (Q := Q) (l := ds) id id b hp ht hf hl (by rw [List.map_id]; exact q)
  rwa [List.map_id] at this
theorem filter_all {p : D → Bool} : ∀ xs : List D, (xs.filter fun d => !p d).isEmpty = xs.all p
  | [] => rfl
  | x :: xs => by
    rw [List.filter_cons, List.all_cons]
    cases e : p x with
    | true => simpa using filter_all xs
    | false => simp
theorem lays {k : Nat} : ∀ {ds : List D}, (∀ d ∈ ds, plainD d = true ∧ (toPy d).canLay0 = true ∧ (toPy d).depth ≤ k) → plainDs ds = true ∧ PyData.canLayAll0 (toPys ds) = true ∧ PyData.depthAll (toPys ds) ≤ k
  | [], _ => ⟨rfl, rfl, Nat.zero_le _⟩
  | d :: ds, h => by
    obtain ⟨a, b, c⟩ := h d List.mem_cons_self
    obtain ⟨a2, b2, c2⟩ := lays fun d hd => h d (List.mem_cons_of_mem _ hd)
    refine ⟨by unfold plainDs; rw [a, a2]; rfl, by rw [toPys, PyData.canLayAll0, b, b2]; rfl, ?_⟩
    rw [toPys, PyData.depthAll]
    omega
theorem eqd_nil {C : Cells} {xs : List D} (h : ∀ d ∈ xs, plainD d = true ∧ (toPy d).canLay0 = true ∧ (toPy d).depth ≤ 30) : EqD C (.lst xs) (.lst []) xs.isEmpty := by
  obtain ⟨a, b, c⟩ := lays h
  refine ⟨.list (toPys xs), .list [], .inl ⟨a, rfl⟩, .inl ⟨rfl, rfl⟩, ?_, by decide +kernel, by cases xs <;> rfl⟩
  unfold SeqAt.shaped
  rw [PyData.canLay0, b, PyData.depth, Bool.true_and]
  exact decide_eq_true (by omega)
end Tr

set_option maxHeartbeats 2000000
namespace Tr
open PySem L2 PySem.Spec PyProof.Rows
def fdAt (K : W.Frag) (a : Addr) : Option FuncData := match K.lookup a with
  | some ob => (match ob.data with | .func g => some g | _ => none)
  | none => none
theorem fdAt_ok {K : W.Frag} {a : Addr} {g : FuncData} (h : fdAt K a = some g) : ∃ oc od sl, K.lookup a = some ⟨oc, od, .func g, sl⟩ := by
  unfold fdAt at h
  cases e : K.lookup a with
  | none => rw [e] at h; cases h
  | some ob =>
    obtain ⟨c, d, dt, sl⟩ := ob
    rw [e] at h
    cases dt with
    | func g' => cases h; exact ⟨c, d, sl, rfl⟩
    | _ => cases h
def refOr (v : Value) : Addr := match v with
  | .ref a => a
  | _ => 0
def isRefV (v : Value) : Bool := match v with
  | .ref _ => true
  | _ => false
theorem isRefV_ok {v : Value} (h : isRefV v = true) : v = .ref (refOr v) := by cases v <;> first | rfl | cases h
def dfAd (K : W.Frag) (f : Addr) : Addr := match fdAt K f with
  | some g => refOr g.defaults
  | none => 0
def cdAd (K : W.Frag) (f : Addr) : Addr := match fdAt K f with
  | some g => refOr g.code
  | none => 0
def hdAd (l : List (Str × Addr)) : Addr := match l with
  | p :: _ => p.2
  | [] => 0
def clAd (K : W.Frag) (f : Addr) : Addr := match fdAt K f with
  | some g => hdAd g.closure
  | none => 0
def seqAt (K : W.Frag) (a : Addr) : List Value := match K.lookup a with
  | some ob => (match ob.data with | .seq its _ => its.toList | _ => [])
  | none => []
def itAd (K : W.Frag) (a : Addr) (i : Nat) : Addr := match (seqAt K a)[i]? with
  | some v => refOr v
  | none => 0
def cmP (K : W.Frag) (C : Addr) (m : Str) : Addr := match W.findCls K (.ref C) (.type "type") m with
  | some (.get _ p _ _) => refOr p
  | _ => 0
def cmF (K : W.Frag) (C : Addr) (m : Str) : Addr := match W.recIn K (cmP K C m) "classmethod" with
  | some (v :: _) => refOr v
  | _ => 0
abbrev FnX : Type := Option (Str × Str × Arguments × FuncBody × Scope × Addr × List Str × Addr)
def fnX (K : W.Frag) (a : Addr) : FnX := match fdAt K a with
  | some g => some (g.name, g.qualname, g.params, g.body, g.scope, g.globals, g.closure.map (·.1), g.builtins)
  | none => none
structure Df where
  at' : W.Frag → Addr
  name : Str
  qual : Str
  params : Arguments
  body : List Stmt
  scope : Scope
  dfl : W.Frag → List Addr
  cl : List Str
def Df.val (d : Df) : FnX := some (d.name, d.qual, d.params, .stmts d.body, d.scope, mainGlobals, d.cl, builtinsNs)
def Df.ok (K : W.Frag) (d : Df) : Bool := W.keepIn K (.ref (d.at' K)) && (match fdAt K (d.at' K) with
  | some g => W.codeIn K g.code d.qual && He.dflB K g.defaults ((d.dfl K).map V.ref)
  | none => false)
theorem fnX_ok {K : W.Frag} {a : Addr} {d : Df} (e : fnX K a = d.val) : ∃ g oc od sl, fdAt K a = some g ∧ K.lookup a = some ⟨oc, od, .func g, sl⟩ ∧
    g.name = d.name ∧ g.qualname = d.qual ∧ g.params = d.params ∧ g.body = .stmts d.body ∧ g.scope = d.scope ∧ g.globals = mainGlobals ∧ g.closure.map (·.1) = d.cl ∧ g.builtins = builtinsNs := by
  unfold fnX Df.val at e
  cases q : fdAt K a with
  | none => rw [q] at e; cases e
  | some g =>
    rw [q] at e
    obtain ⟨oc, od, sl, h⟩ := fdAt_ok q
    simp only [Option.some.injEq, Prod.mk.injEq] at e
    obtain ⟨h1, h2, h3, h4, h5, h6, h7, h8⟩ := e
    exact ⟨g, oc, od, sl, rfl, h, h1, h2, h3, h4, h5, h6, h7, h8⟩
theorem Df.funD {K : W.Frag} {d : Df} (e : fnX K (d.at' K) = d.val) (c : d.ok K = true) (hc : d.cl = []) : ∃ fd, FunD K d.name d.qual d.params d.body d.scope ((d.dfl K).map V.ref) [] (d.at' K) fd := by
  obtain ⟨g, oc, od, sl, q, lk, h1, h2, h3, h4, h5, h6, h7, h8⟩ := fnX_ok e
  unfold Df.ok at c
  rw [q, Bool.and_eq_true] at c
  obtain ⟨kp, c⟩ := c
  have c2 : W.codeIn K g.code d.qual = true ∧ He.dflB K g.defaults ((d.dfl K).map V.ref) = true := Bool.and_eq_true_iff.mp c
  clear c
  rw [hc, List.map_eq_nil_iff] at h7
  obtain ⟨n1, n2, n3, n4, n5, n6, n7, n8, n9, n10, n11, n12, n13, n14, n15⟩ := g
  dsimp only at h1 h2 h3 h4 h5 h6 h7 h8 c2
  subst h1 h2 h3 h4 h5 h6 h7 h8
  exact ⟨_, ⟨oc, od, n8, n9, n10, n11, n12, n13, n14, sl, rfl, lk, c2.1, He.dflB_ok c2.2, .inl rfl⟩, kp⟩
theorem Df.sup {K : W.Frag} {d : Df} (e : fnX K (d.at' K) = d.val) (c : d.ok K = true) (hc : d.cl = (["__class__"] : List Str)) (hd : d.dfl K = []) (hr : ((fdAt K (d.at' K)).any fun g => isRefV g.code) = true) :
    ∃ oc od kV dc pm an ct sl, K.lookup (d.at' K) = some ⟨oc, od, .func (W.ksFn d.name d.qual d.params d.body d.scope .none kV dc pm an (.ref (cdAd K (d.at' K))) ct (clAd K (d.at' K))), sl⟩ ∧ W.codeIn K (.ref (cdAd K (d.at' K))) d.qual = true := by
  obtain ⟨g, oc, od, sl, q, lk, h1, h2, h3, h4, h5, h6, h7, h8⟩ := fnX_ok e
  unfold Df.ok at c
  rw [q, Bool.and_eq_true] at c
  obtain ⟨kp, c⟩ := c
  have c2 : W.codeIn K g.code d.qual = true ∧ He.dflB K g.defaults ((d.dfl K).map V.ref) = true := Bool.and_eq_true_iff.mp c
  clear c
  rw [hd] at c2
  rw [q] at hr
  have hr : isRefV g.code = true := hr
  have e1 : cdAd K (d.at' K) = refOr g.code := by unfold cdAd; rw [q]
  have e2 : clAd K (d.at' K) = hdAd g.closure := by unfold clAd; rw [q]
  have e3 := isRefV_ok hr
  have e4 : g.defaults = .none := by
    have : He.dflB K g.defaults [] = true := c2.2
    revert this
    generalize g.defaults = v
    intro h
    cases v <;> first | rfl | cases h
  have e5 : g.closure = ([("__class__", hdAd g.closure)] : List (Str × Addr)) := by
    rw [hc] at h7
    revert h7
    generalize g.closure = l
    intro h
    match l, h with
    | [(x, y)], h =>
      have : x = ("__class__" : Str) := by simpa using h
      rw [this]; rfl
  have c1 := c2.1
  clear c2
  rw [e1, e2]
  rw [e3] at c1
  obtain ⟨n1, n2, n3, n4, n5, n6, n7, n8, n9, n10, n11, n12, n13, n14, n15⟩ := g
  dsimp only at h1 h2 h3 h4 h5 h6 h7 h8 e3 e4 e5 c1 lk ⊢
  subst h1 h2 h3 h4 h5 h6 h8 e4
  refine ⟨oc, od, n9, n10, n11, n12, n14, sl, ?_, c1⟩
  rw [lk]
  conv => lhs; rw [e5, e3]
def clsT (K : W.Frag) (C : Addr) : Bool := (W.clsIn K C).isSome
theorem clsT_ok {K : W.Frag} {C : Addr} (h : clsT K C = true) : ∃ cd, W.clsIn K C = some cd := Option.isSome_iff_exists.mp h
def strT (K : W.Frag) (x s : Str) : Bool := match W.nsIn K mainGlobals x with
  | some (some (.str y _)) => decide (y = s)
  | _ => false
theorem strT_ok {K : W.Frag} {x s : Str} (h : strT K x s = true) : ∃ t, W.nsIn K mainGlobals x = some (some (.str s t)) := by
  unfold strT at h
  split at h
  · rename_i y t e
    exact ⟨t, by rw [e, of_decide_eq_true h]⟩
  · cases h
def tupT (K : W.Frag) (a : Addr) (ss : List Str) : Bool := match K.lookup a with
  | some ob => (match ob.cls, ob.data with
    | .type c, .seq its _ => decide (c = "tuple") && (decide (its.size ≤ 100000) && He.relAll (ss.map V.str) its.toList)
    | _, _ => false)
  | none => false
theorem tupT_ok {K : W.Frag} {a : Addr} {ss : List Str} (h : tupT K a ss = true) (H : Hp) : Rep K H (.tup (ss.map D.str)) (.ref a) := by
  unfold tupT at h
  cases q : K.lookup a with
  | none => rw [q] at h; cases h
  | some ob =>
    rw [q] at h
    obtain ⟨c, d, dt, sl⟩ := ob
    cases c with
    | type c =>
      cases dt with
      | seq its n =>
        have h : (decide (c = "tuple") && (decide (its.size ≤ 100000) && He.relAll (ss.map V.str) its.toList)) = true := h
        rw [Bool.and_eq_true, Bool.and_eq_true] at h
        obtain ⟨h1, h2, h3⟩ := h
        have e1 := of_decide_eq_true h1
        subst e1
        refine rep_ktup (its := its.toList) (n := n) (od := d) (osl := sl) (by rw [q, Array.toArray_toList]) (by rw [Array.length_toList]; exact of_decide_eq_true h2) (He.relAll_ok h3) (Reps.strs ss)
      | _ => cases h
    | _ => cases dt <;> cases h
def cmT (K : W.Frag) (C : Addr) (m : Str) : Bool := (match W.findCls K (.ref C) (.type "type") m with
  | some (.get (.builtin b) p .none (.ref c)) => decide (b = "classmethod.__get__") && (isRefV p && decide (c = C))
  | _ => false) && (match W.recIn K (cmP K C m) "classmethod" with
  | some (v :: _) => isRefV v
  | _ => false)
theorem cmT_ok {K : W.Frag} {C : Addr} {m : Str} (h : cmT K C m = true) : W.findCls K (.ref C) (.type "type") m = some (.get (.builtin "classmethod.__get__") (.ref (cmP K C m)) .none (.ref C)) ∧ ∃ rs, W.recIn K (cmP K C m) "classmethod" = some (.ref (cmF K C m) :: rs) := by
  unfold cmT at h
  rw [Bool.and_eq_true] at h
  obtain ⟨h1, h2⟩ := h
  constructor
  · split at h1
    · rename_i b p c e
      rw [Bool.and_eq_true, Bool.and_eq_true] at h1
      obtain ⟨h3, h4, h5⟩ := h1
      have e3 := of_decide_eq_true h3
      have e5 := of_decide_eq_true h5
      subst e3 e5
      have ep : cmP K c m = refOr p := by unfold cmP; rw [e]
      rw [e, ep, ← isRefV_ok h4]
    · cases h1
  · split at h2
    · rename_i v rs e
      have ev : cmF K C m = refOr v := by unfold cmF; rw [e]
      exact ⟨rs, by rw [e, ev, ← isRefV_ok h2]⟩
    · cases h2
def filT (K : W.Frag) (a : Addr) (f : Str) : Bool := match K.lookup a with
  | some ob => (match ob.data with
    | .fields vs => (match (vs[2]? : Option Value) with
      | some (.str z _) => decide (z = f)
      | _ => false)
    | _ => false)
  | none => false
theorem filT_ok {K : W.Frag} {a : Addr} {f : Str} (h : filT K a f = true) : ∃ c d vs s t, K.lookup a = some ⟨c, d, .fields vs, s⟩ ∧ vs[2]? = some (.str f t) := by
  unfold filT at h
  cases q : K.lookup a with
  | none => rw [q] at h; cases h
  | some ob =>
    rw [q] at h
    obtain ⟨c, d, dt, sl⟩ := ob
    cases dt with
    | fields vs =>
      dsimp only at h
      split at h
      · rename_i z t e
        have := of_decide_eq_true h
        subst this
        exact ⟨c, d, vs, sl, t, rfl, e⟩
      · cases h
    | _ => cases h
def celT (K : W.Frag) (a C : Addr) : Bool := match K.lookup a with
  | some ob => (match ob.data with
    | .cell (some v) => isRefV v && decide (refOr v = C)
    | _ => false)
  | none => false
theorem celT_ok {K : W.Frag} {a C : Addr} (h : celT K a C = true) : ∃ c d s, K.lookup a = some ⟨c, d, .cell (some (.ref C)), s⟩ := by
  unfold celT at h
  cases q : K.lookup a with
  | none => rw [q] at h; cases h
  | some ob =>
    rw [q] at h
    obtain ⟨c, d, dt, sl⟩ := ob
    cases dt with
    | cell v =>
      cases v with
      | none => cases h
      | some v =>
        have h : (isRefV v && decide (refOr v = C)) = true := h
        rw [Bool.and_eq_true] at h
        have e := isRefV_ok h.1
        have e2 := of_decide_eq_true h.2
        rw [e2] at e
        exact ⟨c, d, sl, by rw [e]⟩
    | _ => cases h
def excT (K : W.Frag) (C : Addr) (tl : List Value) (nw : String) : Bool := match K.lookup C with
  | some ob => (match ob.cls, ob.data, ob.slots.toList with
    | .type t, .cls cd, [_, _, _, _, some (.builtin n), _] => (match cd.mro with
      | c :: bm => decide (t = "type") && (decide (n = nw) && (isRefV c && (decide (refOr c = C) && (cd.hasDict && (!cd.hasDel && W.excTail tl bm)))))
      | [] => false)
    | _, _, _ => false)
  | none => false
theorem excT_ok {K : W.Frag} {C : Addr} {tl : List Value} {nw : String} (h : excT K C tl nw = true) : ∃ nm qn N bs bm sn sub ab col dd k0 k1 k2 k3 k5,
    K.lookup C = some (excClassObj nm qn C N bs bm true sn sub ab col dd k0 k1 k2 k3 k5 nw) ∧ W.excTail tl bm = true := by
  unfold excT at h
  cases q : K.lookup C with
  | none => rw [q] at h; cases h
  | some ob =>
    rw [q] at h
    obtain ⟨c, dd, dt, sl⟩ := ob
    dsimp only at h
    split at h
    · rename_i t cd k0 k1 k2 k3 n k5 hs
      split at h
      · rename_i c bm hm
        simp only [Bool.and_eq_true] at h
        obtain ⟨h1, h2, h3, h4, h5, h6, h7⟩ := h
        have e1 := of_decide_eq_true h1
        have e2 := of_decide_eq_true h2
        have e3 := isRefV_ok h3
        have e4 := of_decide_eq_true h4
        rw [e4] at e3
        obtain ⟨nm, bs, mro, ns, qn, hd, sn, sub, ab, col, del⟩ := cd
        dsimp only at hm h5 h6 h7
        have h6 : del = false := by simpa using h6
        subst e1 e2 e3 hm h5 h6
        have hsl : sl = #[k0, k1, k2, k3, some (.builtin n), k5] := by
          obtain ⟨l⟩ := sl
          simp only at hs
          rw [hs]
        subst hsl
        exact ⟨nm, qn, ns, bs, bm, sn, sub, ab, col, dd, k0, k1, k2, k3, k5, rfl, h7⟩
      · cases h
    · cases h
def upTo : Nat → List Addr → List Addr
  | 0, l => l
  | n + 1, l => upTo n (n :: l)
abbrev AlX : Type := Bool × List FnX
def obsX (chs : List (List (W.Frag → Bool))) (dfs : List Df) (K : W.Frag) : AlX := ((chs.all fun l => l.all fun t => t K) && dfs.all fun d => d.ok K, dfs.map fun d => fnX K (d.at' K))
def valX (dfs : List Df) : AlX := (true, dfs.map Df.val)
def SaysX (chs : List (List (W.Frag → Bool))) (dfs : List Df) (K : W.Frag) : Prop := obsX chs dfs K = valX dfs
def hookX (as : List Addr) (chs : List (List (W.Frag → Bool))) (dfs : List Df) : W.Hook where
  α := AlX
  obs := fun s => obsX chs dfs (He.frG s.heap.get? as)
  val := fun _ => valX dfs
  says := fun _ h => ∃ K : W.Frag, K.In h ∧ SaysX chs dfs K
  of := fun _ _ e => ⟨_, He.frG_in, e⟩
  keeps := fun _ _ _ ⟨K, hK, c⟩ k => ⟨K, W.Frag.In.keeps hK k, c⟩
def obX (as : List Addr) (chs : List (List (W.Frag → Bool))) (dfs : List Df) (s : W.SharedT) : AlX := obsX chs dfs (He.frG (HandSHeadRun.getT s) as)
theorem obX_eq (as : List Addr) (chs : List (List (W.Frag → Bool))) (dfs : List Df) (s : W.SharedT) : obX as chs dfs s = (hookX as chs dfs).obs s.abs := by
  have e : HandSHeadRun.getT s = s.abs.heap.get? := funext fun a => HandSHeadRun.getT_eq s a
  unfold obX
  rw [e]
  rfl
section
variable {chs : List (List (W.Frag → Bool))} {dfs : List Df} {K : W.Frag}
theorem SaysX.t (c : SaysX chs dfs K) (j i : Nat) {l : List (W.Frag → Bool)} {t : W.Frag → Bool} (hj : chs[j]? = some l) (hi : l[i]? = some t) : t K = true := by
  have h : ((chs.all fun l => l.all fun t => t K) && dfs.all fun d => d.ok K) = true := congrArg (fun z : AlX => z.1) c
  rw [Bool.and_eq_true] at h
  exact List.all_eq_true.mp (List.all_eq_true.mp h.1 l (List.mem_of_getElem? hj)) t (List.mem_of_getElem? hi)
theorem SaysX.d (c : SaysX chs dfs K) (i : Nat) {d : Df} (hi : dfs[i]? = some d) : fnX K (d.at' K) = d.val ∧ d.ok K = true := by
  have h : ((chs.all fun l => l.all fun t => t K) && dfs.all fun d => d.ok K) = true := congrArg (fun z : AlX => z.1) c
  have h2 : (dfs.map fun d => fnX K (d.at' K)) = dfs.map Df.val := congrArg (fun z : AlX => z.2) c
  rw [Bool.and_eq_true] at h
  have h3 : (dfs.map fun d => fnX K (d.at' K))[i]? = (dfs.map Df.val)[i]? := by rw [h2]
  rw [List.getElem?_map, List.getElem?_map, hi] at h3
  exact ⟨Option.some.inj h3, List.all_eq_true.mp h.2 d (List.mem_of_getElem? hi)⟩
end
theorem law_walkX {l : W.OpenLaw} {k : Nat} {q : Program} {loose : List Str} {XP : (Str → Option Value) → Heap → Prop} {as : List Addr} {chs : List (List (W.Frag → Bool))} {dfs : List Df} {d : DefRec} {x : Str}
    (hn : l.most = some 63) (hdf : d.params.defaults = []) (hr : RoomG k callerA)
    (F : ∀ (w : World) (mg : Str → Option Value) (fa : Addr) (h : Heap) (K : W.Frag), K.In h → SaysX chs dfs K → h.Ns mainGlobals mg → mg d.name = some (.ref fa) →
      ∃ fd : FuncData, (∀ (s : Shared) (u : Value), BindsTo s fd ⟨[u], []⟩ [(x, u)]) ∧ ∀ base : Heap, K.In base → base.Ns mainGlobals mg → FnG l.prog w K mg base k fa fd [x] lawFS) :
    W.WalkO q loose XP (hookX as chs dfs).says l.row.toRowW d [] (fun f vs => PySem.call f vs) := by
  refine Att.attach_call hn hdf fun w s₀ s₁ mg mb fa o pm cd doc a vs ns G Y ho hd hcd hmg hobj hints hlen hg => ?_
  obtain ⟨K, KX, hs⟩ := Y
  obtain ⟨fd, hb, hF⟩ := F w mg fa _ K KX hs G.T.g hmg
  exact law_goes KX G.T.g G.T.b G.T.builtins G.T.nolimit hg hobj hints hlen hr hF hb
theorem says_cat {c1 c2 : List (List (W.Frag → Bool))} {d1 d2 : List Df} {K : W.Frag} (h1 : SaysX c1 d1 K) (h2 : SaysX c2 d2 K) : SaysX (c1 ++ c2) (d1 ++ d2) K := by
  have a1 : ((c1.all fun l => l.all fun t => t K) && d1.all fun d => d.ok K) = true := congrArg (fun z : AlX => z.1) h1
  have b1 : (d1.map fun d => fnX K (d.at' K)) = d1.map Df.val := congrArg (fun z : AlX => z.2) h1
  have a2 : ((c2.all fun l => l.all fun t => t K) && d2.all fun d => d.ok K) = true := congrArg (fun z : AlX => z.1) h2
  have b2 : (d2.map fun d => fnX K (d.at' K)) = d2.map Df.val := congrArg (fun z : AlX => z.2) h2
  rw [Bool.and_eq_true] at a1 a2
  unfold SaysX obsX valX
  rw [List.all_append, List.all_append, a1.1, a1.2, a2.1, a2.2, List.map_append, List.map_append, b1, b2]
  rfl
theorem run_cat {r : W.OpenRow} {q : Program} {as : List Addr} {M : Nat} {loose : List Str} {w : World} {chs c1 c2 : List (List (W.Frag → Bool))} {dfs d1 d2 : List Df} (ec : chs = c1 ++ c2) (ed : dfs = d1 ++ d2)
    (h1 : HandSHeadRun.RunEq r q (hookX as c1 d1) (obX as c1 d1) M loose w) (h2 : HandSHeadRun.RunEq r q (hookX as c2 d2) (obX as c2 d2) M loose w) : HandSHeadRun.RunEq r q (hookX as chs dfs) (obX as chs dfs) M loose w := by
  subst ec ed
  intro os
  have a := h1 os
  have b := h2 os
  revert a b
  generalize HandSHeadRun.endF (HandSHeadRun.stepQ (HandSHeadRun.denQ HandSHeadRun.tabQ) r.prog w) M r.prog w os = X
  cases X with
  | none => intro a; cases a
  | some s =>
    intro a b
    have a : (HandSHeadRun.looksF r.prog (W.boot_heap w.params) s.abs, HandSHeadRun.seenQ q loose (importedModules r.prog.main.body) (fun s => W.xlAt q [] s && W.recOk r.toRowW.records s) s.abs, obX as c1 d1 s) = (true, W.openGood q loose, valX d1) := Option.some.inj a
    have b : (HandSHeadRun.looksF r.prog (W.boot_heap w.params) s.abs, HandSHeadRun.seenQ q loose (importedModules r.prog.main.body) (fun s => W.xlAt q [] s && W.recOk r.toRowW.records s) s.abs, obX as c2 d2 s) = (true, W.openGood q loose, valX d2) := Option.some.inj b
    obtain ⟨e1, a⟩ := Prod.mk.inj a
    obtain ⟨e2, a3⟩ := Prod.mk.inj a
    obtain ⟨_, b⟩ := Prod.mk.inj b
    obtain ⟨_, b3⟩ := Prod.mk.inj b
    have c3 : obX as (c1 ++ c2) (d1 ++ d2) s = valX (d1 ++ d2) := says_cat a3 b3
    exact congrArg some (Prod.ext e1 (Prod.ext e2 c3))
end Tr

set_option maxHeartbeats 4000000
namespace Kk
open PySem L2 PySem.Spec PyProof.Rows Tr
def small : Str := "abcdefghijklmnopqrstuvwxyz"
def barred : List Str := ["no", "yes", "do", "if", "and", "not", "then"]
def top (i : Nat) : Stmt := PySem.Challenge.pw_hastypage_k03_books_refused.main.body.getD i (.Pass ⟨0, 0, 0, 0⟩)
abbrev s__wall : Stmt := top 0
abbrev s_is_name : Stmt := top 8
abbrev s_is_sequence : Stmt := top 9
abbrev s_are_names : Stmt := top 10
abbrev s_is_targets : Stmt := top 12
abbrev s_are_kinds : Stmt := top 13
abbrev s_are_some : Stmt := top 14
abbrev s_is_book_line : Stmt := top 16
abbrev s_may_follow : Stmt := top 17
abbrev s__law_deal : Stmt := top 19
abbrev s__law_draw : Stmt := top 20
abbrev s__law_mixed : Stmt := top 21
abbrev s__law_words : Stmt := top 22
abbrev s__law_book : Stmt := top 23
abbrev s__law_any : Stmt := top 25
abbrev s__law_is_name : Stmt := top 26
abbrev s__law_are_names : Stmt := top 27
abbrev s__law_are_kinds : Stmt := top 28
abbrev s__law_is_one_of : Stmt := top 29
abbrev s__law_due : Stmt := top 30
abbrev s__law_tried : Stmt := top 31
abbrev s__law_bent : Stmt := top 32
abbrev s_law : Stmt := top 33
abbrev s_Book_init : Stmt := inClass (top 15) 0
abbrev s_Book_read : Stmt := inClass (top 15) 1
abbrev s_Book_need_kind : Stmt := inClass (top 15) 2
abbrev s_Book_target : Stmt := inClass (top 15) 3
abbrev s_Book_without : Stmt := inClass (top 15) 4
abbrev s_Book_eq : Stmt := inClass (top 15) 5
abbrev s_Book_str : Stmt := inClass (top 15) 6
theorem sc_is_name : FnScope ["value", "letter"] ["value"] (defScope s_is_name) := ⟨rfl, rfl, rfl, by decide +kernel, rfl, by decide +kernel, by decide +kernel⟩
theorem sc_is_sequence : FnScope ["value"] ["value"] (defScope s_is_sequence) := ⟨rfl, rfl, rfl, by decide +kernel, rfl, by decide +kernel, by decide +kernel⟩
theorem sc_are_names : FnScope ["value", "at", "name"] ["value"] (defScope s_are_names) := ⟨rfl, rfl, rfl, by decide +kernel, rfl, by decide +kernel, by decide +kernel⟩
theorem sc_is_targets : FnScope ["value", "values", "one"] ["value", "values"] (defScope s_is_targets) := ⟨rfl, rfl, rfl, by decide +kernel, rfl, by decide +kernel, by decide +kernel⟩
theorem sc_are_kinds : FnScope ["value", "values", "one"] ["value", "values"] (defScope s_are_kinds) := ⟨rfl, rfl, rfl, by decide +kernel, rfl, by decide +kernel, by decide +kernel⟩
theorem sc_are_some : FnScope ["value", "names", "name"] ["value", "names"] (defScope s_are_some) := ⟨rfl, rfl, rfl, by decide +kernel, rfl, by decide +kernel, by decide +kernel⟩
theorem sc__law_deal : FnScope ["_law_script", "_law_base", "_law_cells", "_law_blend", "_law_cell"] ["_law_script", "_law_base"] (defScope s__law_deal) := ⟨rfl, rfl, rfl, by decide +kernel, rfl, by decide +kernel, by decide +kernel⟩
theorem sc__law_draw : FnScope ["_law_deal_here", "_law_amount", "_law_left"] ["_law_deal_here", "_law_amount"] (defScope s__law_draw) := ⟨rfl, rfl, rfl, by decide +kernel, rfl, by decide +kernel, by decide +kernel⟩
theorem sc__law_mixed : FnScope ["_law_deal_here", "_law_some", "_law_left", "_law_found"] ["_law_deal_here", "_law_some"] (defScope s__law_mixed) := ⟨rfl, rfl, rfl, by decide +kernel, rfl, by decide +kernel, by decide +kernel⟩
theorem sc__law_words : FnScope ["_law_deal_here", "_law_many", "_law_some"] ["_law_deal_here", "_law_many"] (defScope s__law_words) := ⟨rfl, rfl, rfl, by decide +kernel, rfl, by decide +kernel, by decide +kernel⟩
theorem sc__law_book : FnScope ["_law_deal_here", "_law_most", "_law_some", "_law_names", "_law_kinds", "_law_name", "_law_loose", "_law_one"] ["_law_deal_here", "_law_most"] (defScope s__law_book) := ⟨rfl, rfl, rfl, by decide +kernel, rfl, by decide +kernel, by decide +kernel⟩
theorem sc__law_any : FnScope ["_law_deal_here", "_law_deep", "_law_inner", "_law_some", "_law_turn"] ["_law_deal_here", "_law_deep"] (defScope s__law_any) := ⟨rfl, rfl, rfl, by decide +kernel, rfl, by decide +kernel, by decide +kernel⟩
theorem sc__law_is_name : FnScope ["_law_value", "_law_barred", "_law_sign"] ["_law_value"] (defScope s__law_is_name) := ⟨rfl, rfl, rfl, by decide +kernel, rfl, by decide +kernel, by decide +kernel⟩
theorem sc__law_are_names : FnScope ["_law_value", "_law_at", "_law_name"] ["_law_value"] (defScope s__law_are_names) := ⟨rfl, rfl, rfl, by decide +kernel, rfl, by decide +kernel, by decide +kernel⟩
theorem sc__law_are_kinds : FnScope ["_law_value", "_law_some", "_law_names", "_law_one", "_law_x"] ["_law_value", "_law_some"] (defScope s__law_are_kinds) := ⟨rfl, rfl, rfl, by decide +kernel, rfl, by decide +kernel, by decide +kernel⟩
theorem sc__law_is_one_of : FnScope ["_law_value", "_law_some"] ["_law_value", "_law_some"] (defScope s__law_is_one_of) := ⟨rfl, rfl, rfl, by decide +kernel, rfl, by decide +kernel, by decide +kernel⟩
theorem sc__law_due : FnScope ["_law_some", "_law_kinds", "_law_loose", "_law_others", "_law_names", "_law_one", "_law_name"] ["_law_some", "_law_kinds", "_law_loose", "_law_others"] (defScope s__law_due) := ⟨rfl, rfl, rfl, by decide +kernel, rfl, by decide +kernel, by decide +kernel⟩
theorem sc__law_tried : FnScope ["_law_some", "_law_kinds", "_law_loose", "_law_others", "_law_found", "e"] ["_law_some", "_law_kinds", "_law_loose", "_law_others"] (defScope s__law_tried) := ⟨rfl, rfl, rfl, by decide +kernel, rfl, by decide +kernel, by decide +kernel⟩
theorem sc__law_bent : FnScope ["_law_deal_here", "_law_things", "_law_found", "_law_form", "_law_at", "_law_name", "_law_targets", "_law_bent_here"] ["_law_deal_here", "_law_things"] (defScope s__law_bent) := ⟨rfl, rfl, rfl, by decide +kernel, rfl, by decide +kernel, by decide +kernel⟩
theorem sc_law : FnScope ["_law_script", "_law_deal_here", "_law_turn", "_law_things", "_law_again", "_law_at", "_law_some", "_law_kinds", "_law_loose", "_law_others"] ["_law_script"] (defScope s_law) := ⟨rfl, rfl, rfl, by decide +kernel, rfl, by decide +kernel, by decide +kernel⟩
theorem sc_Book_init : FnScope ["self", "choices", "kinds", "loose", "others", "name", "targets"] ["self", "choices", "kinds", "loose", "others"] (defScope s_Book_init) := ⟨rfl, rfl, rfl, by decide +kernel, rfl, by decide +kernel, by decide +kernel⟩
abbrev s_InvalidBook_init : Stmt := inClass (top 3) 0
abbrev s_InvalidText_init : Stmt := inClass (top 4) 0
theorem sup_InvalidBook {P : Program} {K : W.Frag} {mg : Str → Option Value} {c_InvalidBook f_InvalidBook_init cda_InvalidBook cc_InvalidBook N_InvalidBook : Addr} {nm_InvalidBook qn_InvalidBook : Str} {bs_InvalidBook bm_InvalidBook sub_InvalidBook : List Value} {sn_InvalidBook : List Str} {ab_InvalidBook : Bool} {col_InvalidBook : Option Bool} {dd_InvalidBook od_InvalidBook an_InvalidBook cdd_InvalidBook cld_InvalidBook : Option Addr} {k0_InvalidBook k1_InvalidBook k2_InvalidBook k3_InvalidBook k5_InvalidBook : Option Value} {oc_InvalidBook kV_InvalidBook dc_InvalidBook pm_InvalidBook ct_InvalidBook ccl_InvalidBook cl0_InvalidBook : Value} {sl_InvalidBook ccs_InvalidBook csl_InvalidBook : Array (Option Value)} {vs_InvalidBook : Array Value} {file_InvalidBook : Str} {tf_InvalidBook : Tok}
    (lc : K.lookup c_InvalidBook = some (excClassObj nm_InvalidBook qn_InvalidBook c_InvalidBook N_InvalidBook bs_InvalidBook bm_InvalidBook true sn_InvalidBook sub_InvalidBook ab_InvalidBook col_InvalidBook dd_InvalidBook k0_InvalidBook k1_InvalidBook k2_InvalidBook k3_InvalidBook k5_InvalidBook "ValueError.__new__")) (rv : W.excTail [.type "ValueError", .type "Exception", .type "BaseException", .type "object"] bm_InvalidBook = true) (sa : W.findIn K (.ref c_InvalidBook) "__setattr__" = some (some (.builtin "object.__setattr__"))) (no : W.findIn K (.ref c_InvalidBook) "word" = some none)
    (lf : K.lookup f_InvalidBook_init = some ⟨oc_InvalidBook, od_InvalidBook, .func (W.ksFn "__init__" "InvalidBook.__init__" (defArgs s_InvalidBook_init) (defBody s_InvalidBook_init) (defScope s_InvalidBook_init) .none kV_InvalidBook dc_InvalidBook pm_InvalidBook an_InvalidBook (.ref cda_InvalidBook) ct_InvalidBook cc_InvalidBook), sl_InvalidBook⟩) (lcd : K.lookup cda_InvalidBook = some ⟨ccl_InvalidBook, cdd_InvalidBook, .fields vs_InvalidBook, ccs_InvalidBook⟩) (hv : vs_InvalidBook[2]? = some (.str file_InvalidBook tf_InvalidBook)) (hf : ((P.main.file : Str) == file_InvalidBook) = true) (ci : W.codeIn K (.ref cda_InvalidBook) "InvalidBook.__init__" = true)
    (lcc : K.lookup cc_InvalidBook = some ⟨cl0_InvalidBook, cld_InvalidBook, .cell (some (.ref c_InvalidBook)), csl_InvalidBook⟩) (zs : mg "super" = none) (zt : (P.main.scope.names.lookup ("super" : Str)).isSome = false) (za : W.nsIn K cStatics "thirdparty.any" = some none) (si : W.ks_superIn K c_InvalidBook c_InvalidBook "__init__" = some (some (.builtin "ValueError.__init__"))) (sv : W.subIn K (.ref c_InvalidBook) (.type "ValueError") = some true) :
    SupRun P K mg c_InvalidBook f_InvalidBook_init "word" := fun w A R hp g d t os mb a t0 v X hg hb hbb hlim hroom ha hKa hq =>
  sup_init (selfN := "self") (argN := "word") xf_ValueError X hg hb hbb hlim lc rv sa no lf lcd hv hf ci lcc zs (by rfl) (by rfl) (by rfl) (by rfl) (by rfl) (by decide) (by rfl) (by rfl) (by rfl) (by rfl) (by decide +kernel) (by rfl) (by rfl) (fun s => BindsTo.of_eq (by rfl)) zt za si sv (by rfl) hroom (fun _ => by rfl) (fun _ => by rfl) (fun _ => by rfl) _ (fun _ => by rfl) ha hKa hq
theorem sup_InvalidText {P : Program} {K : W.Frag} {mg : Str → Option Value} {c_InvalidText f_InvalidText_init cda_InvalidText cc_InvalidText N_InvalidText : Addr} {nm_InvalidText qn_InvalidText : Str} {bs_InvalidText bm_InvalidText sub_InvalidText : List Value} {sn_InvalidText : List Str} {ab_InvalidText : Bool} {col_InvalidText : Option Bool} {dd_InvalidText od_InvalidText an_InvalidText cdd_InvalidText cld_InvalidText : Option Addr} {k0_InvalidText k1_InvalidText k2_InvalidText k3_InvalidText k5_InvalidText : Option Value} {oc_InvalidText kV_InvalidText dc_InvalidText pm_InvalidText ct_InvalidText ccl_InvalidText cl0_InvalidText : Value} {sl_InvalidText ccs_InvalidText csl_InvalidText : Array (Option Value)} {vs_InvalidText : Array Value} {file_InvalidText : Str} {tf_InvalidText : Tok}
    (lc : K.lookup c_InvalidText = some (excClassObj nm_InvalidText qn_InvalidText c_InvalidText N_InvalidText bs_InvalidText bm_InvalidText true sn_InvalidText sub_InvalidText ab_InvalidText col_InvalidText dd_InvalidText k0_InvalidText k1_InvalidText k2_InvalidText k3_InvalidText k5_InvalidText "ValueError.__new__")) (rv : W.excTail [.type "ValueError", .type "Exception", .type "BaseException", .type "object"] bm_InvalidText = true) (sa : W.findIn K (.ref c_InvalidText) "__setattr__" = some (some (.builtin "object.__setattr__"))) (no : W.findIn K (.ref c_InvalidText) "at" = some none)
    (lf : K.lookup f_InvalidText_init = some ⟨oc_InvalidText, od_InvalidText, .func (W.ksFn "__init__" "InvalidText.__init__" (defArgs s_InvalidText_init) (defBody s_InvalidText_init) (defScope s_InvalidText_init) .none kV_InvalidText dc_InvalidText pm_InvalidText an_InvalidText (.ref cda_InvalidText) ct_InvalidText cc_InvalidText), sl_InvalidText⟩) (lcd : K.lookup cda_InvalidText = some ⟨ccl_InvalidText, cdd_InvalidText, .fields vs_InvalidText, ccs_InvalidText⟩) (hv : vs_InvalidText[2]? = some (.str file_InvalidText tf_InvalidText)) (hf : ((P.main.file : Str) == file_InvalidText) = true) (ci : W.codeIn K (.ref cda_InvalidText) "InvalidText.__init__" = true)
    (lcc : K.lookup cc_InvalidText = some ⟨cl0_InvalidText, cld_InvalidText, .cell (some (.ref c_InvalidText)), csl_InvalidText⟩) (zs : mg "super" = none) (zt : (P.main.scope.names.lookup ("super" : Str)).isSome = false) (za : W.nsIn K cStatics "thirdparty.any" = some none) (si : W.ks_superIn K c_InvalidText c_InvalidText "__init__" = some (some (.builtin "ValueError.__init__"))) (sv : W.subIn K (.ref c_InvalidText) (.type "ValueError") = some true) :
    SupRun P K mg c_InvalidText f_InvalidText_init "at" := fun w A R hp g d t os mb a t0 v X hg hb hbb hlim hroom ha hKa hq =>
  sup_init (selfN := "self") (argN := "at") xf_ValueError X hg hb hbb hlim lc rv sa no lf lcd hv hf ci lcc zs (by rfl) (by rfl) (by rfl) (by rfl) (by rfl) (by decide) (by rfl) (by rfl) (by rfl) (by rfl) (by decide +kernel) (by rfl) (by rfl) (fun s => BindsTo.of_eq (by rfl)) zt za si sv (by rfl) hroom (fun _ => by rfl) (fun _ => by rfl) (fun _ => by rfl) _ (fun _ => by rfl) ha hKa hq
structure Tp0 (prog : Program) (K : W.Frag) (mg : Str → Option Value) where
  c_Book : Addr
  f__wall : Addr
  d__wall : FuncData
  f_is_name : Addr
  d_is_name : FuncData
  f_is_sequence : Addr
  d_is_sequence : FuncData
  f_are_names : Addr
  d_are_names : FuncData
  f_is_targets : Addr
  d_is_targets : FuncData
  f_are_kinds : Addr
  d_are_kinds : FuncData
  f_are_some : Addr
  d_are_some : FuncData
  f_is_book_line : Addr
  d_is_book_line : FuncData
  f_may_follow : Addr
  d_may_follow : FuncData
  f__law_deal : Addr
  d__law_deal : FuncData
  f__law_draw : Addr
  d__law_draw : FuncData
  f__law_mixed : Addr
  d__law_mixed : FuncData
  f__law_words : Addr
  d__law_words : FuncData
  f__law_book : Addr
  d__law_book : FuncData
  f__law_any : Addr
  d__law_any : FuncData
  f__law_is_name : Addr
  d__law_is_name : FuncData
  f__law_are_names : Addr
  d__law_are_names : FuncData
  f__law_are_kinds : Addr
  d__law_are_kinds : FuncData
  f__law_is_one_of : Addr
  d__law_is_one_of : FuncData
  f__law_due : Addr
  d__law_due : FuncData
  f__law_tried : Addr
  d__law_tried : FuncData
  f__law_bent : Addr
  d__law_bent : FuncData
  f_law : Addr
  d_law : FuncData
  f_Book_init : Addr
  d_Book_init : FuncData
  f_Book_read : Addr
structure Tp1 (prog : Program) (K : W.Frag) (mg : Str → Option Value) extends Tp0 prog K mg where
  d_Book_read : FuncData
  f_Book_need_kind : Addr
  d_Book_need_kind : FuncData
  f_Book_target : Addr
  d_Book_target : FuncData
  f_Book_without : Addr
  d_Book_without : FuncData
  f_Book_eq : Addr
  d_Book_eq : FuncData
  f_Book_str : Addr
  d_Book_str : FuncData
  a_BARRED : Addr
  e_Book_init_0 : Addr
  e_Book_init_1 : Addr
  i_Book : ClsI K c_Book
  g_Book : mg "Book" = some (.ref c_Book)
  na_Book_choices : NoAttr K c_Book "choices"
  na_Book_kinds : NoAttr K c_Book "kinds"
  na_Book_targets : NoAttr K c_Book "targets"
  na_Book_loose : NoAttr K c_Book "loose"
  na_Book_others : NoAttr K c_Book "others"
  isi_Book_list : W.kitOne K (.type "list") (.ref c_Book) = some false
  isi_Book_tuple : W.kitOne K (.type "tuple") (.ref c_Book) = some false
  isi_Book_str : W.kitOne K (.type "str") (.ref c_Book) = some false
  isi_Book_int : W.kitOne K (.type "int") (.ref c_Book) = some false
  isi_Book_bool : W.kitOne K (.type "bool") (.ref c_Book) = some false
  isi_Book_NoneType : W.kitOne K (.type "NoneType") (.ref c_Book) = some false
  kin_Book_list : W.kitOne K (.ref c_Book) (.type "list") = some false
  kin_Book_tuple : W.kitOne K (.ref c_Book) (.type "tuple") = some false
  kin_Book_str : W.kitOne K (.ref c_Book) (.type "str") = some false
  kin_Book_int : W.kitOne K (.ref c_Book) (.type "int") = some false
  kin_Book_bool : W.kitOne K (.ref c_Book) (.type "bool") = some false
  nf_Book_Book : W.notFirst K c_Book (.ref c_Book) = true
  nf_Book_list : W.notFirst K c_Book (.type "list") = true
  nf_Book_tuple : W.notFirst K c_Book (.type "tuple") = true
  nf_Book_str : W.notFirst K c_Book (.type "str") = true
  nf_Book_int : W.notFirst K c_Book (.type "int") = true
  nf_Book_bool : W.notFirst K c_Book (.type "bool") = true
  nf_Book_NoneType : W.notFirst K c_Book (.type "NoneType") = true
  ne_Book : W.findIn K (.ref c_Book) "__ne__" = some (some (.builtin "object.__ne__"))
  g__wall : mg "_wall" = some (.ref f__wall)
  F__wall : FunD K "_wall" "_wall" (defArgs s__wall) (defBody s__wall) (defScope s__wall) [] [] f__wall d__wall
  b__wall : Binds K d__wall ["k"] []
  g_is_name : mg "is_name" = some (.ref f_is_name)
  F_is_name : FunD K "is_name" "is_name" (defArgs s_is_name) (defBody s_is_name) (defScope s_is_name) [] [] f_is_name d_is_name
  b_is_name : Binds K d_is_name ["value"] []
  g_is_sequence : mg "is_sequence" = some (.ref f_is_sequence)
  F_is_sequence : FunD K "is_sequence" "is_sequence" (defArgs s_is_sequence) (defBody s_is_sequence) (defScope s_is_sequence) [] [] f_is_sequence d_is_sequence
  b_is_sequence : Binds K d_is_sequence ["value"] []
  g_are_names : mg "are_names" = some (.ref f_are_names)
structure Tp2 (prog : Program) (K : W.Frag) (mg : Str → Option Value) extends Tp1 prog K mg where
  F_are_names : FunD K "are_names" "are_names" (defArgs s_are_names) (defBody s_are_names) (defScope s_are_names) [] [] f_are_names d_are_names
  b_are_names : Binds K d_are_names ["value"] []
  g_is_targets : mg "is_targets" = some (.ref f_is_targets)
  F_is_targets : FunD K "is_targets" "is_targets" (defArgs s_is_targets) (defBody s_is_targets) (defScope s_is_targets) [] [] f_is_targets d_is_targets
  b_is_targets : Binds K d_is_targets ["value", "values"] []
  g_are_kinds : mg "are_kinds" = some (.ref f_are_kinds)
  F_are_kinds : FunD K "are_kinds" "are_kinds" (defArgs s_are_kinds) (defBody s_are_kinds) (defScope s_are_kinds) [] [] f_are_kinds d_are_kinds
  b_are_kinds : Binds K d_are_kinds ["value", "values"] []
  g_are_some : mg "are_some" = some (.ref f_are_some)
  F_are_some : FunD K "are_some" "are_some" (defArgs s_are_some) (defBody s_are_some) (defScope s_are_some) [] [] f_are_some d_are_some
  b_are_some : Binds K d_are_some ["value", "names"] []
  g_is_book_line : mg "is_book_line" = some (.ref f_is_book_line)
  F_is_book_line : FunD K "is_book_line" "is_book_line" (defArgs s_is_book_line) (defBody s_is_book_line) (defScope s_is_book_line) [] [] f_is_book_line d_is_book_line
  b_is_book_line : Binds K d_is_book_line ["words"] []
  g_may_follow : mg "may_follow" = some (.ref f_may_follow)
  F_may_follow : FunD K "may_follow" "may_follow" (defArgs s_may_follow) (defBody s_may_follow) (defScope s_may_follow) [] [] f_may_follow d_may_follow
  b_may_follow : Binds K d_may_follow ["word", "last"] []
  g__law_deal : mg "_law_deal" = some (.ref f__law_deal)
  F__law_deal : FunD K "_law_deal" "_law_deal" (defArgs s__law_deal) (defBody s__law_deal) (defScope s__law_deal) [] [] f__law_deal d__law_deal
  b__law_deal : Binds K d__law_deal ["_law_script", "_law_base"] []
  g__law_draw : mg "_law_draw" = some (.ref f__law_draw)
  F__law_draw : FunD K "_law_draw" "_law_draw" (defArgs s__law_draw) (defBody s__law_draw) (defScope s__law_draw) [] [] f__law_draw d__law_draw
  b__law_draw : Binds K d__law_draw ["_law_deal_here", "_law_amount"] []
  g__law_mixed : mg "_law_mixed" = some (.ref f__law_mixed)
  F__law_mixed : FunD K "_law_mixed" "_law_mixed" (defArgs s__law_mixed) (defBody s__law_mixed) (defScope s__law_mixed) [] [] f__law_mixed d__law_mixed
  b__law_mixed : Binds K d__law_mixed ["_law_deal_here", "_law_some"] []
  g__law_words : mg "_law_words" = some (.ref f__law_words)
  F__law_words : FunD K "_law_words" "_law_words" (defArgs s__law_words) (defBody s__law_words) (defScope s__law_words) [] [] f__law_words d__law_words
  b__law_words : Binds K d__law_words ["_law_deal_here", "_law_many"] []
  g__law_book : mg "_law_book" = some (.ref f__law_book)
  F__law_book : FunD K "_law_book" "_law_book" (defArgs s__law_book) (defBody s__law_book) (defScope s__law_book) [] [] f__law_book d__law_book
  b__law_book : Binds K d__law_book ["_law_deal_here", "_law_most"] []
  g__law_any : mg "_law_any" = some (.ref f__law_any)
  F__law_any : FunD K "_law_any" "_law_any" (defArgs s__law_any) (defBody s__law_any) (defScope s__law_any) [] [] f__law_any d__law_any
  b__law_any : Binds K d__law_any ["_law_deal_here", "_law_deep"] []
  g__law_is_name : mg "_law_is_name" = some (.ref f__law_is_name)
  F__law_is_name : FunD K "_law_is_name" "_law_is_name" (defArgs s__law_is_name) (defBody s__law_is_name) (defScope s__law_is_name) [] [] f__law_is_name d__law_is_name
  b__law_is_name : Binds K d__law_is_name ["_law_value"] []
  g__law_are_names : mg "_law_are_names" = some (.ref f__law_are_names)
  F__law_are_names : FunD K "_law_are_names" "_law_are_names" (defArgs s__law_are_names) (defBody s__law_are_names) (defScope s__law_are_names) [] [] f__law_are_names d__law_are_names
  b__law_are_names : Binds K d__law_are_names ["_law_value"] []
  g__law_are_kinds : mg "_law_are_kinds" = some (.ref f__law_are_kinds)
  F__law_are_kinds : FunD K "_law_are_kinds" "_law_are_kinds" (defArgs s__law_are_kinds) (defBody s__law_are_kinds) (defScope s__law_are_kinds) [] [] f__law_are_kinds d__law_are_kinds
  b__law_are_kinds : Binds K d__law_are_kinds ["_law_value", "_law_some"] []
  g__law_is_one_of : mg "_law_is_one_of" = some (.ref f__law_is_one_of)
  F__law_is_one_of : FunD K "_law_is_one_of" "_law_is_one_of" (defArgs s__law_is_one_of) (defBody s__law_is_one_of) (defScope s__law_is_one_of) [] [] f__law_is_one_of d__law_is_one_of
  b__law_is_one_of : Binds K d__law_is_one_of ["_law_value", "_law_some"] []
  g__law_due : mg "_law_due" = some (.ref f__law_due)
  F__law_due : FunD K "_law_due" "_law_due" (defArgs s__law_due) (defBody s__law_due) (defScope s__law_due) [] [] f__law_due d__law_due
  b__law_due : Binds K d__law_due ["_law_some", "_law_kinds", "_law_loose", "_law_others"] []
structure Tp3 (prog : Program) (K : W.Frag) (mg : Str → Option Value) extends Tp2 prog K mg where
  g__law_tried : mg "_law_tried" = some (.ref f__law_tried)
  F__law_tried : FunD K "_law_tried" "_law_tried" (defArgs s__law_tried) (defBody s__law_tried) (defScope s__law_tried) [] [] f__law_tried d__law_tried
  b__law_tried : Binds K d__law_tried ["_law_some", "_law_kinds", "_law_loose", "_law_others"] []
  g__law_bent : mg "_law_bent" = some (.ref f__law_bent)
  F__law_bent : FunD K "_law_bent" "_law_bent" (defArgs s__law_bent) (defBody s__law_bent) (defScope s__law_bent) [] [] f__law_bent d__law_bent
  b__law_bent : Binds K d__law_bent ["_law_deal_here", "_law_things"] []
  g_law : mg "law" = some (.ref f_law)
  F_law : FunD K "law" "law" (defArgs s_law) (defBody s_law) (defScope s_law) [] [] f_law d_law
  b_law : Binds K d_law ["_law_script"] []
  mk_Book : Mk K c_Book f_Book_init
  F_Book_init : FunD K "__init__" "Book.__init__" (defArgs s_Book_init) (defBody s_Book_init) (defScope s_Book_init) [.ref e_Book_init_0, .ref e_Book_init_1] [] f_Book_init d_Book_init
  b_Book_init : Binds K d_Book_init ["self", "choices", "kinds", "loose", "others"] []
  b0_Book_init : ∃ ds, Vals [.ref e_Book_init_0, .ref e_Book_init_1] ds ∧ Binds K d_Book_init ["self", "choices", "kinds", "loose", "others"] ds
  b1_Book_init : ∃ ds, Vals [.ref e_Book_init_1] ds ∧ Binds K d_Book_init ["self", "choices", "kinds", "loose", "others"] ds
  m_Book_read : CMetT K c_Book "read" f_Book_read
  F_Book_read : FunD K "read" "Book.read" (defArgs s_Book_read) (defBody s_Book_read) (defScope s_Book_read) [] [] f_Book_read d_Book_read
  b_Book_read : Binds K d_Book_read ["cls", "text"] []
  m_Book_need_kind : Meth K c_Book "need_kind" f_Book_need_kind
  F_Book_need_kind : FunD K "need_kind" "Book.need_kind" (defArgs s_Book_need_kind) (defBody s_Book_need_kind) (defScope s_Book_need_kind) [] [] f_Book_need_kind d_Book_need_kind
  b_Book_need_kind : Binds K d_Book_need_kind ["self", "kind"] []
  m_Book_target : Meth K c_Book "target" f_Book_target
  F_Book_target : FunD K "target" "Book.target" (defArgs s_Book_target) (defBody s_Book_target) (defScope s_Book_target) [] [] f_Book_target d_Book_target
  b_Book_target : Binds K d_Book_target ["self", "kind", "value"] []
  m_Book_without : Meth K c_Book "without" f_Book_without
  F_Book_without : FunD K "without" "Book.without" (defArgs s_Book_without) (defBody s_Book_without) (defScope s_Book_without) [] [] f_Book_without d_Book_without
  b_Book_without : Binds K d_Book_without ["self", "kind"] []
  m_Book_eq : W.findIn K (.ref c_Book) "__eq__" = some (some (.ref f_Book_eq))
  n_Book_eq : W.isFn K (.ref f_Book_eq) = true
  F_Book_eq : FunD K "__eq__" "Book.__eq__" (defArgs s_Book_eq) (defBody s_Book_eq) (defScope s_Book_eq) [] [] f_Book_eq d_Book_eq
  b_Book_eq : Binds K d_Book_eq ["self", "other"] []
  m_Book_str : W.findIn K (.ref c_Book) "__str__" = some (some (.ref f_Book_str))
  n_Book_str : W.isFn K (.ref f_Book_str) = true
  F_Book_str : FunD K "__str__" "Book.__str__" (defArgs s_Book_str) (defBody s_Book_str) (defScope s_Book_str) [] [] f_Book_str d_Book_str
  b_Book_str : Binds K d_Book_str ["self"] []
  c_HastyError : Addr
  g_HastyError : mg "HastyError" = some (.ref c_HastyError)
  c_InvalidBook : Addr
  g_InvalidBook : mg "InvalidBook" = some (.ref c_InvalidBook)
  xf_InvalidBook : XfC K c_InvalidBook
  xc_InvalidBook : ExcC K c_InvalidBook
  na_InvalidBook_word : W.findIn K (.ref c_InvalidBook) "word" = some none
  x_InvalidBook : XCls prog K mg c_InvalidBook "word"
  c_InvalidText : Addr
  g_InvalidText : mg "InvalidText" = some (.ref c_InvalidText)
  xf_InvalidText : XfC K c_InvalidText
  xc_InvalidText : ExcC K c_InvalidText
  na_InvalidText_at : W.findIn K (.ref c_InvalidText) "at" = some none
  x_InvalidText : XCls prog K mg c_InvalidText "at"
  exm_InvalidBook_InvalidBook : W.exmOne K (.ref c_InvalidBook) (.ref c_InvalidBook) = some true
  exm_InvalidText_InvalidText : W.exmOne K (.ref c_InvalidText) (.ref c_InvalidText) = some true
structure Tp (prog : Program) (K : W.Frag) (mg : Str → Option Value) extends Tp3 prog K mg where
  isx_InvalidBook_HastyError : W.kitOne K (.ref c_InvalidBook) (.ref c_HastyError) = some true
  isx_InvalidText_HastyError : W.kitOne K (.ref c_InvalidText) (.ref c_HastyError) = some true
  z_abs : mg "abs" = none
  z_all : mg "all" = none
  z_enumerate : mg "enumerate" = none
  z_int : mg "int" = none
  z_isinstance : mg "isinstance" = none
  z_len : mg "len" = none
  z_list : mg "list" = none
  z_range : mg "range" = none
  z_repr : mg "repr" = none
  z_str : mg "str" = none
  z_tuple : mg "tuple" = none
  g_SMALL : ∃ t, mg "SMALL" = some (.str "abcdefghijklmnopqrstuvwxyz" t)
  g_BARRED : mg "BARRED" = some (.ref a_BARRED)
  r_BARRED : ∀ H : Hp, Rep K H (.tup (barred.map D.str)) (.ref a_BARRED)
  re_Book_init_0 : ∀ H : Hp, Rep K H (.tup []) (.ref e_Book_init_0)
  re_Book_init_1 : ∀ H : Hp, Rep K H (.tup []) (.ref e_Book_init_1)
theorem tp_fa {P : Program} {K : W.Frag} {mg : Str → Option Value} {fa : Addr} (h : mg "law" = some (.ref fa)) (T : Nonempty (Tp P K mg)) : ∃ T : Tp P K mg, T.f_law = fa := by
  obtain ⟨T⟩ := T
  refine ⟨T, ?_⟩
  have e := h.symm.trans T.g_law
  cases e
  rfl
theorem law_binds {P : Program} {K : W.Frag} {mg : Str → Option Value} (T : Tp P K mg) (s : Shared) (u : Value) : BindsTo s T.d_law ⟨[u], []⟩ [("_law_script", u)] := T.F_law.bindsA (ps := ["_law_script"]) (fun _ _ _ _ _ _ us hl => match us, hl with | [_], _ => rfl) s [u] rfl
end Kk

set_option maxHeartbeats 0
namespace Kk
open PySem L2 PySem.Spec PyProof.Rows Tr
def Xc_Book (K : W.Frag) : Addr := He.ga K "Book"
def Xc_HastyError (K : W.Frag) : Addr := He.ga K "HastyError"
def Xc_InvalidBook (K : W.Frag) : Addr := He.ga K "InvalidBook"
def Xc_InvalidText (K : W.Frag) : Addr := He.ga K "InvalidText"
def Xf__wall (K : W.Frag) : Addr := He.ga K "_wall"
def Xf_is_name (K : W.Frag) : Addr := He.ga K "is_name"
def Xf_is_sequence (K : W.Frag) : Addr := He.ga K "is_sequence"
def Xf_are_names (K : W.Frag) : Addr := He.ga K "are_names"
def Xf_is_targets (K : W.Frag) : Addr := He.ga K "is_targets"
def Xf_are_kinds (K : W.Frag) : Addr := He.ga K "are_kinds"
def Xf_are_some (K : W.Frag) : Addr := He.ga K "are_some"
def Xf_is_book_line (K : W.Frag) : Addr := He.ga K "is_book_line"
def Xf_may_follow (K : W.Frag) : Addr := He.ga K "may_follow"
def Xf__law_deal (K : W.Frag) : Addr := He.ga K "_law_deal"
def Xf__law_draw (K : W.Frag) : Addr := He.ga K "_law_draw"
def Xf__law_mixed (K : W.Frag) : Addr := He.ga K "_law_mixed"
def Xf__law_words (K : W.Frag) : Addr := He.ga K "_law_words"
def Xf__law_book (K : W.Frag) : Addr := He.ga K "_law_book"
def Xf__law_any (K : W.Frag) : Addr := He.ga K "_law_any"
def Xf__law_is_name (K : W.Frag) : Addr := He.ga K "_law_is_name"
def Xf__law_are_names (K : W.Frag) : Addr := He.ga K "_law_are_names"
def Xf__law_are_kinds (K : W.Frag) : Addr := He.ga K "_law_are_kinds"
def Xf__law_is_one_of (K : W.Frag) : Addr := He.ga K "_law_is_one_of"
def Xf__law_due (K : W.Frag) : Addr := He.ga K "_law_due"
def Xf__law_tried (K : W.Frag) : Addr := He.ga K "_law_tried"
def Xf__law_bent (K : W.Frag) : Addr := He.ga K "_law_bent"
def Xf_law (K : W.Frag) : Addr := He.ga K "law"
def Xf_Book_init (K : W.Frag) : Addr := He.ma K (Xc_Book K) "__init__"
def XtD_Book_init (K : W.Frag) : Addr := dfAd K (Xf_Book_init K)
def Xf_Book_read (K : W.Frag) : Addr := cmF K (Xc_Book K) "read"
def Xf_Book_need_kind (K : W.Frag) : Addr := He.ma K (Xc_Book K) "need_kind"
def Xf_Book_target (K : W.Frag) : Addr := He.ma K (Xc_Book K) "target"
def Xf_Book_without (K : W.Frag) : Addr := He.ma K (Xc_Book K) "without"
def Xf_Book_eq (K : W.Frag) : Addr := He.ma K (Xc_Book K) "__eq__"
def Xf_Book_str (K : W.Frag) : Addr := He.ma K (Xc_Book K) "__str__"
def Xa_BARRED (K : W.Frag) : Addr := He.ga K "BARRED"
def Xe_Book_init_0 (K : W.Frag) : Addr := itAd K (XtD_Book_init K) 0
def Xe_Book_init_1 (K : W.Frag) : Addr := itAd K (XtD_Book_init K) 1
def Xf_InvalidBook_init (K : W.Frag) : Addr := He.ma K (Xc_InvalidBook K) "__init__"
def Xcda_InvalidBook (K : W.Frag) : Addr := cdAd K (Xf_InvalidBook_init K)
def Xcc_InvalidBook (K : W.Frag) : Addr := clAd K (Xf_InvalidBook_init K)
def Xf_InvalidText_init (K : W.Frag) : Addr := He.ma K (Xc_InvalidText K) "__init__"
def Xcda_InvalidText (K : W.Frag) : Addr := cdAd K (Xf_InvalidText_init K)
def Xcc_InvalidText (K : W.Frag) : Addr := clAd K (Xf_InvalidText_init K)
def df__wall : Df := ⟨Xf__wall, "_wall", "_wall", defArgs s__wall, defBody s__wall, defScope s__wall, fun K => [], []⟩
def df_is_name : Df := ⟨Xf_is_name, "is_name", "is_name", defArgs s_is_name, defBody s_is_name, defScope s_is_name, fun K => [], []⟩
def df_is_sequence : Df := ⟨Xf_is_sequence, "is_sequence", "is_sequence", defArgs s_is_sequence, defBody s_is_sequence, defScope s_is_sequence, fun K => [], []⟩
def df_are_names : Df := ⟨Xf_are_names, "are_names", "are_names", defArgs s_are_names, defBody s_are_names, defScope s_are_names, fun K => [], []⟩
def df_is_targets : Df := ⟨Xf_is_targets, "is_targets", "is_targets", defArgs s_is_targets, defBody s_is_targets, defScope s_is_targets, fun K => [], []⟩
def df_are_kinds : Df := ⟨Xf_are_kinds, "are_kinds", "are_kinds", defArgs s_are_kinds, defBody s_are_kinds, defScope s_are_kinds, fun K => [], []⟩
def df_are_some : Df := ⟨Xf_are_some, "are_some", "are_some", defArgs s_are_some, defBody s_are_some, defScope s_are_some, fun K => [], []⟩
def df_is_book_line : Df := ⟨Xf_is_book_line, "is_book_line", "is_book_line", defArgs s_is_book_line, defBody s_is_book_line, defScope s_is_book_line, fun K => [], []⟩
def df_may_follow : Df := ⟨Xf_may_follow, "may_follow", "may_follow", defArgs s_may_follow, defBody s_may_follow, defScope s_may_follow, fun K => [], []⟩
def df__law_deal : Df := ⟨Xf__law_deal, "_law_deal", "_law_deal", defArgs s__law_deal, defBody s__law_deal, defScope s__law_deal, fun K => [], []⟩
def df__law_draw : Df := ⟨Xf__law_draw, "_law_draw", "_law_draw", defArgs s__law_draw, defBody s__law_draw, defScope s__law_draw, fun K => [], []⟩
def df__law_mixed : Df := ⟨Xf__law_mixed, "_law_mixed", "_law_mixed", defArgs s__law_mixed, defBody s__law_mixed, defScope s__law_mixed, fun K => [], []⟩
def df__law_words : Df := ⟨Xf__law_words, "_law_words", "_law_words", defArgs s__law_words, defBody s__law_words, defScope s__law_words, fun K => [], []⟩
def df__law_book : Df := ⟨Xf__law_book, "_law_book", "_law_book", defArgs s__law_book, defBody s__law_book, defScope s__law_book, fun K => [], []⟩
def df__law_any : Df := ⟨Xf__law_any, "_law_any", "_law_any", defArgs s__law_any, defBody s__law_any, defScope s__law_any, fun K => [], []⟩
def df__law_is_name : Df := ⟨Xf__law_is_name, "_law_is_name", "_law_is_name", defArgs s__law_is_name, defBody s__law_is_name, defScope s__law_is_name, fun K => [], []⟩
def df__law_are_names : Df := ⟨Xf__law_are_names, "_law_are_names", "_law_are_names", defArgs s__law_are_names, defBody s__law_are_names, defScope s__law_are_names, fun K => [], []⟩
def df__law_are_kinds : Df := ⟨Xf__law_are_kinds, "_law_are_kinds", "_law_are_kinds", defArgs s__law_are_kinds, defBody s__law_are_kinds, defScope s__law_are_kinds, fun K => [], []⟩
def df__law_is_one_of : Df := ⟨Xf__law_is_one_of, "_law_is_one_of", "_law_is_one_of", defArgs s__law_is_one_of, defBody s__law_is_one_of, defScope s__law_is_one_of, fun K => [], []⟩
def df__law_due : Df := ⟨Xf__law_due, "_law_due", "_law_due", defArgs s__law_due, defBody s__law_due, defScope s__law_due, fun K => [], []⟩
def df__law_tried : Df := ⟨Xf__law_tried, "_law_tried", "_law_tried", defArgs s__law_tried, defBody s__law_tried, defScope s__law_tried, fun K => [], []⟩
def df__law_bent : Df := ⟨Xf__law_bent, "_law_bent", "_law_bent", defArgs s__law_bent, defBody s__law_bent, defScope s__law_bent, fun K => [], []⟩
def df_law : Df := ⟨Xf_law, "law", "law", defArgs s_law, defBody s_law, defScope s_law, fun K => [], []⟩
def df_Book_init : Df := ⟨Xf_Book_init, "__init__", "Book.__init__", defArgs s_Book_init, defBody s_Book_init, defScope s_Book_init, fun K => [(Xe_Book_init_0 K), (Xe_Book_init_1 K)], []⟩
def df_Book_read : Df := ⟨Xf_Book_read, "read", "Book.read", defArgs s_Book_read, defBody s_Book_read, defScope s_Book_read, fun K => [], []⟩
def df_Book_need_kind : Df := ⟨Xf_Book_need_kind, "need_kind", "Book.need_kind", defArgs s_Book_need_kind, defBody s_Book_need_kind, defScope s_Book_need_kind, fun K => [], []⟩
def df_Book_target : Df := ⟨Xf_Book_target, "target", "Book.target", defArgs s_Book_target, defBody s_Book_target, defScope s_Book_target, fun K => [], []⟩
def df_Book_without : Df := ⟨Xf_Book_without, "without", "Book.without", defArgs s_Book_without, defBody s_Book_without, defScope s_Book_without, fun K => [], []⟩
def df_Book_eq : Df := ⟨Xf_Book_eq, "__eq__", "Book.__eq__", defArgs s_Book_eq, defBody s_Book_eq, defScope s_Book_eq, fun K => [], []⟩
def df_Book_str : Df := ⟨Xf_Book_str, "__str__", "Book.__str__", defArgs s_Book_str, defBody s_Book_str, defScope s_Book_str, fun K => [], []⟩
def df_InvalidBook_init : Df := ⟨Xf_InvalidBook_init, "__init__", "InvalidBook.__init__", defArgs s_InvalidBook_init, defBody s_InvalidBook_init, defScope s_InvalidBook_init, fun K => [], ["__class__"]⟩
def df_InvalidText_init : Df := ⟨Xf_InvalidText_init, "__init__", "InvalidText.__init__", defArgs s_InvalidText_init, defBody s_InvalidText_init, defScope s_InvalidText_init, fun K => [], ["__class__"]⟩
def dfs0 : List Df := [df__wall, df_is_name, df_is_sequence, df_are_names, df_is_targets, df_are_kinds, df_are_some, df_is_book_line, df_may_follow, df__law_deal, df__law_draw, df__law_mixed, df__law_words, df__law_book, df__law_any, df__law_is_name, df__law_are_names, df__law_are_kinds, df__law_is_one_of, df__law_due, df__law_tried, df__law_bent, df_law, df_Book_init, df_Book_read, df_Book_need_kind, df_Book_target, df_Book_without, df_Book_eq, df_Book_str]
def dfs1 : List Df := [df_InvalidBook_init, df_InvalidText_init]
def dfs : List Df := dfs0 ++ dfs1
def ts0 : List (W.Frag → Bool) := [
  fun K => decide (W.specialIn K (.builtin "object.__class__") "__get__" = some (some (.builtin "getset_descriptor.__get__"))),
  fun K => decide (W.takesIn K (.builtin "object.__class__") = some true),
  fun K => decide (W.nsIn K mainGlobals "Book" = some (some (.ref (Xc_Book K)))),
  fun K => decide (W.plainGet K (Xc_Book K) Str.empty = true),
  fun K => decide (W.hasDictIn K (Xc_Book K) = true),
  fun K => decide (W.plainOver K (Xc_Book K) = true),
  fun K => decide (W.findIn K (.ref (Xc_Book K)) "__setattr__" = some (some (.builtin "object.__setattr__"))),
  fun K => decide (W.findIn K (.ref (Xc_Book K)) "__class__" = some (some (.builtin "object.__class__"))),
  fun K => decide (W.mroIn K (Xc_Book K) (.type "object") = some true),
  fun K => decide (W.findIn K (.ref (Xc_Book K)) "choices" = some none),
  fun K => decide (W.findIn K (.ref (Xc_Book K)) "kinds" = some none),
  fun K => decide (W.findIn K (.ref (Xc_Book K)) "targets" = some none),
  fun K => decide (W.findIn K (.ref (Xc_Book K)) "loose" = some none),
  fun K => decide (W.findIn K (.ref (Xc_Book K)) "others" = some none),
  fun K => decide (W.subIn K (.type "list") (.ref (Xc_Book K)) = some false),
  fun K => decide (W.subIn K (.type "tuple") (.ref (Xc_Book K)) = some false),
  fun K => decide (W.subIn K (.type "str") (.ref (Xc_Book K)) = some false),
  fun K => decide (W.subIn K (.type "int") (.ref (Xc_Book K)) = some false),
  fun K => decide (W.subIn K (.type "bool") (.ref (Xc_Book K)) = some false),
  fun K => decide (W.subIn K (.type "NoneType") (.ref (Xc_Book K)) = some false),
  fun K => decide (W.subIn K (.ref (Xc_Book K)) (.type "list") = some false),
  fun K => decide (W.subIn K (.ref (Xc_Book K)) (.type "tuple") = some false),
  fun K => decide (W.subIn K (.ref (Xc_Book K)) (.type "str") = some false),
  fun K => decide (W.subIn K (.ref (Xc_Book K)) (.type "int") = some false),
  fun K => decide (W.subIn K (.ref (Xc_Book K)) (.type "bool") = some false),
  fun K => clsT K (Xc_Book K),
  fun K => decide (W.typeIn K (.ref (Xc_Book K)) = some (.type "type")),
  fun K => decide (W.notFirst K (Xc_Book K) (.ref (Xc_Book K)) = true),
  fun K => decide (W.notFirst K (Xc_Book K) (.type "list") = true),
  fun K => decide (W.notFirst K (Xc_Book K) (.type "tuple") = true)]
def ts1 : List (W.Frag → Bool) := [
  fun K => decide (W.notFirst K (Xc_Book K) (.type "str") = true),
  fun K => decide (W.notFirst K (Xc_Book K) (.type "int") = true),
  fun K => decide (W.notFirst K (Xc_Book K) (.type "bool") = true),
  fun K => decide (W.notFirst K (Xc_Book K) (.type "NoneType") = true),
  fun K => decide (W.findIn K (.ref (Xc_Book K)) "__ne__" = some (some (.builtin "object.__ne__"))),
  fun K => decide (W.nsIn K mainGlobals "_wall" = some (some (.ref (Xf__wall K)))),
  fun K => decide (W.keepIn K (.ref (Xf__wall K)) = true),
  fun K => decide (W.nsIn K mainGlobals "is_name" = some (some (.ref (Xf_is_name K)))),
  fun K => decide (W.keepIn K (.ref (Xf_is_name K)) = true),
  fun K => decide (W.nsIn K mainGlobals "is_sequence" = some (some (.ref (Xf_is_sequence K)))),
  fun K => decide (W.keepIn K (.ref (Xf_is_sequence K)) = true),
  fun K => decide (W.nsIn K mainGlobals "are_names" = some (some (.ref (Xf_are_names K)))),
  fun K => decide (W.keepIn K (.ref (Xf_are_names K)) = true),
  fun K => decide (W.nsIn K mainGlobals "is_targets" = some (some (.ref (Xf_is_targets K)))),
  fun K => decide (W.keepIn K (.ref (Xf_is_targets K)) = true),
  fun K => decide (W.nsIn K mainGlobals "are_kinds" = some (some (.ref (Xf_are_kinds K)))),
  fun K => decide (W.keepIn K (.ref (Xf_are_kinds K)) = true),
  fun K => decide (W.nsIn K mainGlobals "are_some" = some (some (.ref (Xf_are_some K)))),
  fun K => decide (W.keepIn K (.ref (Xf_are_some K)) = true),
  fun K => decide (W.nsIn K mainGlobals "is_book_line" = some (some (.ref (Xf_is_book_line K)))),
  fun K => decide (W.keepIn K (.ref (Xf_is_book_line K)) = true),
  fun K => decide (W.nsIn K mainGlobals "may_follow" = some (some (.ref (Xf_may_follow K)))),
  fun K => decide (W.keepIn K (.ref (Xf_may_follow K)) = true),
  fun K => decide (W.nsIn K mainGlobals "_law_deal" = some (some (.ref (Xf__law_deal K)))),
  fun K => decide (W.keepIn K (.ref (Xf__law_deal K)) = true),
  fun K => decide (W.nsIn K mainGlobals "_law_draw" = some (some (.ref (Xf__law_draw K)))),
  fun K => decide (W.keepIn K (.ref (Xf__law_draw K)) = true),
  fun K => decide (W.nsIn K mainGlobals "_law_mixed" = some (some (.ref (Xf__law_mixed K)))),
  fun K => decide (W.keepIn K (.ref (Xf__law_mixed K)) = true),
  fun K => decide (W.nsIn K mainGlobals "_law_words" = some (some (.ref (Xf__law_words K))))]
def ts2 : List (W.Frag → Bool) := [
  fun K => decide (W.keepIn K (.ref (Xf__law_words K)) = true),
  fun K => decide (W.nsIn K mainGlobals "_law_book" = some (some (.ref (Xf__law_book K)))),
  fun K => decide (W.keepIn K (.ref (Xf__law_book K)) = true),
  fun K => decide (W.nsIn K mainGlobals "_law_any" = some (some (.ref (Xf__law_any K)))),
  fun K => decide (W.keepIn K (.ref (Xf__law_any K)) = true),
  fun K => decide (W.nsIn K mainGlobals "_law_is_name" = some (some (.ref (Xf__law_is_name K)))),
  fun K => decide (W.keepIn K (.ref (Xf__law_is_name K)) = true),
  fun K => decide (W.nsIn K mainGlobals "_law_are_names" = some (some (.ref (Xf__law_are_names K)))),
  fun K => decide (W.keepIn K (.ref (Xf__law_are_names K)) = true),
  fun K => decide (W.nsIn K mainGlobals "_law_are_kinds" = some (some (.ref (Xf__law_are_kinds K)))),
  fun K => decide (W.keepIn K (.ref (Xf__law_are_kinds K)) = true),
  fun K => decide (W.nsIn K mainGlobals "_law_is_one_of" = some (some (.ref (Xf__law_is_one_of K)))),
  fun K => decide (W.keepIn K (.ref (Xf__law_is_one_of K)) = true),
  fun K => decide (W.nsIn K mainGlobals "_law_due" = some (some (.ref (Xf__law_due K)))),
  fun K => decide (W.keepIn K (.ref (Xf__law_due K)) = true),
  fun K => decide (W.nsIn K mainGlobals "_law_tried" = some (some (.ref (Xf__law_tried K)))),
  fun K => decide (W.keepIn K (.ref (Xf__law_tried K)) = true),
  fun K => decide (W.nsIn K mainGlobals "_law_bent" = some (some (.ref (Xf__law_bent K)))),
  fun K => decide (W.keepIn K (.ref (Xf__law_bent K)) = true),
  fun K => decide (W.nsIn K mainGlobals "law" = some (some (.ref (Xf_law K)))),
  fun K => decide (W.keepIn K (.ref (Xf_law K)) = true),
  fun K => decide (W.findIn K (.ref (Xc_Book K)) "__init__" = some (some (.ref (Xf_Book_init K)))),
  fun K => decide (W.isFn K (.ref (Xf_Book_init K)) = true),
  fun K => decide (W.makesIn K (Xc_Book K) = true),
  fun K => decide (W.keepIn K (.ref (Xc_Book K)) = true),
  fun K => decide (W.keepIn K (.ref (Xf_Book_init K)) = true),
  fun K => decide (W.readsIn K (Xc_Book K) (.type "type") = true),
  fun K => decide (W.specialIn K (.ref (Xc_Book K)) "__getattribute__" = some (some (.builtin "type.__getattribute__"))),
  fun K => cmT K (Xc_Book K) "read",
  fun K => decide (W.fnIn K (Xf_Book_read K) = true)]
def ts3 : List (W.Frag → Bool) := [
  fun K => decide (W.keepIn K (.ref (Xf_Book_read K)) = true),
  fun K => decide (W.findIn K (.ref (Xc_Book K)) "need_kind" = some (some (.ref (Xf_Book_need_kind K)))),
  fun K => decide (W.isFn K (.ref (Xf_Book_need_kind K)) = true),
  fun K => decide (W.keepIn K (.ref (Xf_Book_need_kind K)) = true),
  fun K => decide (W.findIn K (.ref (Xc_Book K)) "target" = some (some (.ref (Xf_Book_target K)))),
  fun K => decide (W.isFn K (.ref (Xf_Book_target K)) = true),
  fun K => decide (W.keepIn K (.ref (Xf_Book_target K)) = true),
  fun K => decide (W.findIn K (.ref (Xc_Book K)) "without" = some (some (.ref (Xf_Book_without K)))),
  fun K => decide (W.isFn K (.ref (Xf_Book_without K)) = true),
  fun K => decide (W.keepIn K (.ref (Xf_Book_without K)) = true),
  fun K => decide (W.findIn K (.ref (Xc_Book K)) "__eq__" = some (some (.ref (Xf_Book_eq K)))),
  fun K => decide (W.isFn K (.ref (Xf_Book_eq K)) = true),
  fun K => decide (W.keepIn K (.ref (Xf_Book_eq K)) = true),
  fun K => decide (W.findIn K (.ref (Xc_Book K)) "__str__" = some (some (.ref (Xf_Book_str K)))),
  fun K => decide (W.isFn K (.ref (Xf_Book_str K)) = true),
  fun K => decide (W.keepIn K (.ref (Xf_Book_str K)) = true),
  fun K => decide (W.nsIn K mainGlobals "HastyError" = some (some (.ref (Xc_HastyError K)))),
  fun K => clsT K (Xc_HastyError K),
  fun K => decide (W.typeIn K (.ref (Xc_HastyError K)) = some (.type "type")),
  fun K => decide (W.nsIn K mainGlobals "super" = some none),
  fun K => decide (W.nsIn K cStatics "thirdparty.any" = some none),
  fun K => decide (W.nsIn K mainGlobals "InvalidBook" = some (some (.ref (Xc_InvalidBook K)))),
  fun K => excT K (Xc_InvalidBook K) [.type "ValueError", .type "Exception", .type "BaseException", .type "object"] "ValueError.__new__",
  fun K => decide (W.findIn K (.ref (Xc_InvalidBook K)) "__setattr__" = some (some (.builtin "object.__setattr__"))),
  fun K => decide (W.subIn K (.ref (Xc_InvalidBook K)) (.type "BaseException") = some true),
  fun K => decide (W.typeIn K (.ref (Xc_InvalidBook K)) = some (.type "type")),
  fun K => decide (W.keepIn K (.ref (Xc_InvalidBook K)) = true),
  fun K => decide (W.findIn K (.ref (Xc_InvalidBook K)) "__getattribute__" = some (some (.builtin "BaseException.__getattribute__"))),
  fun K => decide (W.findIn K (.ref (Xc_InvalidBook K)) "__getattr__" = some none),
  fun K => decide (W.hasDictIn K (Xc_InvalidBook K) = true)]
def ts4 : List (W.Frag → Bool) := [
  fun K => decide (W.findIn K (.ref (Xc_InvalidBook K)) "__class__" = some (some (.builtin "object.__class__"))),
  fun K => decide (W.mroIn K (Xc_InvalidBook K) (.type "object") = some true),
  fun K => decide (W.findIn K (.ref (Xc_InvalidBook K)) "word" = some none),
  fun K => decide (W.findIn K (.ref (Xc_InvalidBook K)) "__init__" = some (some (.ref (Xf_InvalidBook_init K)))),
  fun K => decide (W.typeIn K (.ref (Xf_InvalidBook_init K)) = some (.type "function")),
  fun K => (fdAt K (Xf_InvalidBook_init K)).any fun g => isRefV g.code,
  fun K => filT K (Xcda_InvalidBook K) PySem.Challenge.pw_hastypage_k03_books_refused.main.file,
  fun K => celT K (Xcc_InvalidBook K) (Xc_InvalidBook K),
  fun K => decide (W.ks_superIn K (Xc_InvalidBook K) (Xc_InvalidBook K) "__init__" = some (some (.builtin "ValueError.__init__"))),
  fun K => decide (W.subIn K (.ref (Xc_InvalidBook K)) (.type "ValueError") = some true),
  fun K => decide (W.nsIn K mainGlobals "InvalidText" = some (some (.ref (Xc_InvalidText K)))),
  fun K => excT K (Xc_InvalidText K) [.type "ValueError", .type "Exception", .type "BaseException", .type "object"] "ValueError.__new__",
  fun K => decide (W.findIn K (.ref (Xc_InvalidText K)) "__setattr__" = some (some (.builtin "object.__setattr__"))),
  fun K => decide (W.subIn K (.ref (Xc_InvalidText K)) (.type "BaseException") = some true),
  fun K => decide (W.typeIn K (.ref (Xc_InvalidText K)) = some (.type "type")),
  fun K => decide (W.keepIn K (.ref (Xc_InvalidText K)) = true),
  fun K => decide (W.findIn K (.ref (Xc_InvalidText K)) "__getattribute__" = some (some (.builtin "BaseException.__getattribute__"))),
  fun K => decide (W.findIn K (.ref (Xc_InvalidText K)) "__getattr__" = some none),
  fun K => decide (W.hasDictIn K (Xc_InvalidText K) = true),
  fun K => decide (W.findIn K (.ref (Xc_InvalidText K)) "__class__" = some (some (.builtin "object.__class__"))),
  fun K => decide (W.mroIn K (Xc_InvalidText K) (.type "object") = some true),
  fun K => decide (W.findIn K (.ref (Xc_InvalidText K)) "at" = some none),
  fun K => decide (W.findIn K (.ref (Xc_InvalidText K)) "__init__" = some (some (.ref (Xf_InvalidText_init K)))),
  fun K => decide (W.typeIn K (.ref (Xf_InvalidText_init K)) = some (.type "function")),
  fun K => (fdAt K (Xf_InvalidText_init K)).any fun g => isRefV g.code,
  fun K => filT K (Xcda_InvalidText K) PySem.Challenge.pw_hastypage_k03_books_refused.main.file,
  fun K => celT K (Xcc_InvalidText K) (Xc_InvalidText K),
  fun K => decide (W.ks_superIn K (Xc_InvalidText K) (Xc_InvalidText K) "__init__" = some (some (.builtin "ValueError.__init__"))),
  fun K => decide (W.subIn K (.ref (Xc_InvalidText K)) (.type "ValueError") = some true),
  fun K => decide (W.subIn K (.ref (Xc_InvalidBook K)) (.ref (Xc_InvalidBook K)) = some true)]
def ts5 : List (W.Frag → Bool) := [
  fun K => decide (W.subIn K (.ref (Xc_InvalidText K)) (.ref (Xc_InvalidText K)) = some true),
  fun K => decide (W.subIn K (.ref (Xc_InvalidBook K)) (.ref (Xc_HastyError K)) = some true),
  fun K => decide (((.ref (Xc_InvalidBook K) : Value) == .ref (Xc_HastyError K)) = false),
  fun K => decide (W.subIn K (.ref (Xc_InvalidText K)) (.ref (Xc_HastyError K)) = some true),
  fun K => decide (((.ref (Xc_InvalidText K) : Value) == .ref (Xc_HastyError K)) = false),
  fun K => decide (W.nsIn K mainGlobals "abs" = some none),
  fun K => decide (W.nsIn K mainGlobals "all" = some none),
  fun K => decide (W.nsIn K mainGlobals "enumerate" = some none),
  fun K => decide (W.nsIn K mainGlobals "int" = some none),
  fun K => decide (W.nsIn K mainGlobals "isinstance" = some none),
  fun K => decide (W.nsIn K mainGlobals "len" = some none),
  fun K => decide (W.nsIn K mainGlobals "list" = some none),
  fun K => decide (W.nsIn K mainGlobals "range" = some none),
  fun K => decide (W.nsIn K mainGlobals "repr" = some none),
  fun K => decide (W.nsIn K mainGlobals "str" = some none),
  fun K => decide (W.nsIn K mainGlobals "tuple" = some none),
  fun K => strT K "SMALL" "abcdefghijklmnopqrstuvwxyz",
  fun K => decide (W.nsIn K mainGlobals "BARRED" = some (some (.ref (Xa_BARRED K)))),
  fun K => tupT K (Xa_BARRED K) barred,
  fun K => tupT K (Xe_Book_init_0 K) [],
  fun K => tupT K (Xe_Book_init_1 K) []]
def chs : List (List (W.Frag → Bool)) := [ts0, ts1, ts2, ts3, ts4, ts5]
theorem tp_of {K : W.Frag} {h : Heap} {mg : Str → Option Value} (X : K.In h) (G : h.Ns mainGlobals mg) (c : SaysX chs dfs K) : Nonempty (Tp PySem.Challenge.pw_hastypage_k03_books_refused K mg) := by
  have cnn : W.specialIn K (.builtin "object.__class__") "__get__" = some (some (.builtin "getset_descriptor.__get__")) := of_decide_eq_true (c.t 0 0 rfl rfl)
  have ctt : W.takesIn K (.builtin "object.__class__") = some true := of_decide_eq_true (c.t 0 1 rfl rfl)
  have a_Book : W.nsIn K mainGlobals "Book" = some (some (.ref (Xc_Book K))) := of_decide_eq_true (c.t 0 2 rfl rfl)
  have pg_Book : W.plainGet K (Xc_Book K) Str.empty = true := of_decide_eq_true (c.t 0 3 rfl rfl)
  have hd_Book : W.hasDictIn K (Xc_Book K) = true := of_decide_eq_true (c.t 0 4 rfl rfl)
  have po_Book : W.plainOver K (Xc_Book K) = true := of_decide_eq_true (c.t 0 5 rfl rfl)
  have sa_Book : W.findIn K (.ref (Xc_Book K)) "__setattr__" = some (some (.builtin "object.__setattr__")) := of_decide_eq_true (c.t 0 6 rfl rfl)
  have ca_Book : W.findIn K (.ref (Xc_Book K)) "__class__" = some (some (.builtin "object.__class__")) := of_decide_eq_true (c.t 0 7 rfl rfl)
  have cm_Book : W.mroIn K (Xc_Book K) (.type "object") = some true := of_decide_eq_true (c.t 0 8 rfl rfl)
  have na_Book_choices : W.findIn K (.ref (Xc_Book K)) "choices" = some none := of_decide_eq_true (c.t 0 9 rfl rfl)
  have na_Book_kinds : W.findIn K (.ref (Xc_Book K)) "kinds" = some none := of_decide_eq_true (c.t 0 10 rfl rfl)
  have na_Book_targets : W.findIn K (.ref (Xc_Book K)) "targets" = some none := of_decide_eq_true (c.t 0 11 rfl rfl)
  have na_Book_loose : W.findIn K (.ref (Xc_Book K)) "loose" = some none := of_decide_eq_true (c.t 0 12 rfl rfl)
  have na_Book_others : W.findIn K (.ref (Xc_Book K)) "others" = some none := of_decide_eq_true (c.t 0 13 rfl rfl)
  have ss_Book_list : W.subIn K (.type "list") (.ref (Xc_Book K)) = some false := of_decide_eq_true (c.t 0 14 rfl rfl)
  have ss_Book_tuple : W.subIn K (.type "tuple") (.ref (Xc_Book K)) = some false := of_decide_eq_true (c.t 0 15 rfl rfl)
  have ss_Book_str : W.subIn K (.type "str") (.ref (Xc_Book K)) = some false := of_decide_eq_true (c.t 0 16 rfl rfl)
  have ss_Book_int : W.subIn K (.type "int") (.ref (Xc_Book K)) = some false := of_decide_eq_true (c.t 0 17 rfl rfl)
  have ss_Book_bool : W.subIn K (.type "bool") (.ref (Xc_Book K)) = some false := of_decide_eq_true (c.t 0 18 rfl rfl)
  have ss_Book_NoneType : W.subIn K (.type "NoneType") (.ref (Xc_Book K)) = some false := of_decide_eq_true (c.t 0 19 rfl rfl)
  have sk_Book_list : W.subIn K (.ref (Xc_Book K)) (.type "list") = some false := of_decide_eq_true (c.t 0 20 rfl rfl)
  have sk_Book_tuple : W.subIn K (.ref (Xc_Book K)) (.type "tuple") = some false := of_decide_eq_true (c.t 0 21 rfl rfl)
  have sk_Book_str : W.subIn K (.ref (Xc_Book K)) (.type "str") = some false := of_decide_eq_true (c.t 0 22 rfl rfl)
  have sk_Book_int : W.subIn K (.ref (Xc_Book K)) (.type "int") = some false := of_decide_eq_true (c.t 0 23 rfl rfl)
  have sk_Book_bool : W.subIn K (.ref (Xc_Book K)) (.type "bool") = some false := of_decide_eq_true (c.t 0 24 rfl rfl)
  obtain ⟨cd_Book, cl_Book⟩ := clsT_ok (c.t 0 25 rfl rfl)
  have ty_Book : W.typeIn K (.ref (Xc_Book K)) = some (.type "type") := of_decide_eq_true (c.t 0 26 rfl rfl)
  have nf_Book_Book : W.notFirst K (Xc_Book K) (.ref (Xc_Book K)) = true := of_decide_eq_true (c.t 0 27 rfl rfl)
  have nf_Book_list : W.notFirst K (Xc_Book K) (.type "list") = true := of_decide_eq_true (c.t 0 28 rfl rfl)
  have nf_Book_tuple : W.notFirst K (Xc_Book K) (.type "tuple") = true := of_decide_eq_true (c.t 0 29 rfl rfl)
  have nf_Book_str : W.notFirst K (Xc_Book K) (.type "str") = true := of_decide_eq_true (c.t 1 0 rfl rfl)
  have nf_Book_int : W.notFirst K (Xc_Book K) (.type "int") = true := of_decide_eq_true (c.t 1 1 rfl rfl)
  have nf_Book_bool : W.notFirst K (Xc_Book K) (.type "bool") = true := of_decide_eq_true (c.t 1 2 rfl rfl)
  have nf_Book_NoneType : W.notFirst K (Xc_Book K) (.type "NoneType") = true := of_decide_eq_true (c.t 1 3 rfl rfl)
  have ne_Book : W.findIn K (.ref (Xc_Book K)) "__ne__" = some (some (.builtin "object.__ne__")) := of_decide_eq_true (c.t 1 4 rfl rfl)
  have a__wall : W.nsIn K mainGlobals "_wall" = some (some (.ref (Xf__wall K))) := of_decide_eq_true (c.t 1 5 rfl rfl)
  obtain ⟨d__wall, lx__wall⟩ := Df.funD (d := df__wall) (c.d 0 rfl).1 (c.d 0 rfl).2 rfl
  have l__wall : FunD K "_wall" "_wall" (defArgs s__wall) (defBody s__wall) (defScope s__wall) [] [] (Xf__wall K) d__wall := lx__wall
  have k__wall : W.keepIn K (.ref (Xf__wall K)) = true := of_decide_eq_true (c.t 1 6 rfl rfl)
  have a_is_name : W.nsIn K mainGlobals "is_name" = some (some (.ref (Xf_is_name K))) := of_decide_eq_true (c.t 1 7 rfl rfl)
  obtain ⟨d_is_name, lx_is_name⟩ := Df.funD (d := df_is_name) (c.d 1 rfl).1 (c.d 1 rfl).2 rfl
  have l_is_name : FunD K "is_name" "is_name" (defArgs s_is_name) (defBody s_is_name) (defScope s_is_name) [] [] (Xf_is_name K) d_is_name := lx_is_name
  have k_is_name : W.keepIn K (.ref (Xf_is_name K)) = true := of_decide_eq_true (c.t 1 8 rfl rfl)
  have a_is_sequence : W.nsIn K mainGlobals "is_sequence" = some (some (.ref (Xf_is_sequence K))) := of_decide_eq_true (c.t 1 9 rfl rfl)
  obtain ⟨d_is_sequence, lx_is_sequence⟩ := Df.funD (d := df_is_sequence) (c.d 2 rfl).1 (c.d 2 rfl).2 rfl
  have l_is_sequence : FunD K "is_sequence" "is_sequence" (defArgs s_is_sequence) (defBody s_is_sequence) (defScope s_is_sequence) [] [] (Xf_is_sequence K) d_is_sequence := lx_is_sequence
  have k_is_sequence : W.keepIn K (.ref (Xf_is_sequence K)) = true := of_decide_eq_true (c.t 1 10 rfl rfl)
  have a_are_names : W.nsIn K mainGlobals "are_names" = some (some (.ref (Xf_are_names K))) := of_decide_eq_true (c.t 1 11 rfl rfl)
  obtain ⟨d_are_names, lx_are_names⟩ := Df.funD (d := df_are_names) (c.d 3 rfl).1 (c.d 3 rfl).2 rfl
  have l_are_names : FunD K "are_names" "are_names" (defArgs s_are_names) (defBody s_are_names) (defScope s_are_names) [] [] (Xf_are_names K) d_are_names := lx_are_names
  have k_are_names : W.keepIn K (.ref (Xf_are_names K)) = true := of_decide_eq_true (c.t 1 12 rfl rfl)
  have a_is_targets : W.nsIn K mainGlobals "is_targets" = some (some (.ref (Xf_is_targets K))) := of_decide_eq_true (c.t 1 13 rfl rfl)
  obtain ⟨d_is_targets, lx_is_targets⟩ := Df.funD (d := df_is_targets) (c.d 4 rfl).1 (c.d 4 rfl).2 rfl
  have l_is_targets : FunD K "is_targets" "is_targets" (defArgs s_is_targets) (defBody s_is_targets) (defScope s_is_targets) [] [] (Xf_is_targets K) d_is_targets := lx_is_targets
  have k_is_targets : W.keepIn K (.ref (Xf_is_targets K)) = true := of_decide_eq_true (c.t 1 14 rfl rfl)
  have a_are_kinds : W.nsIn K mainGlobals "are_kinds" = some (some (.ref (Xf_are_kinds K))) := of_decide_eq_true (c.t 1 15 rfl rfl)
  obtain ⟨d_are_kinds, lx_are_kinds⟩ := Df.funD (d := df_are_kinds) (c.d 5 rfl).1 (c.d 5 rfl).2 rfl
  have l_are_kinds : FunD K "are_kinds" "are_kinds" (defArgs s_are_kinds) (defBody s_are_kinds) (defScope s_are_kinds) [] [] (Xf_are_kinds K) d_are_kinds := lx_are_kinds
  have k_are_kinds : W.keepIn K (.ref (Xf_are_kinds K)) = true := of_decide_eq_true (c.t 1 16 rfl rfl)
  have a_are_some : W.nsIn K mainGlobals "are_some" = some (some (.ref (Xf_are_some K))) := of_decide_eq_true (c.t 1 17 rfl rfl)
  obtain ⟨d_are_some, lx_are_some⟩ := Df.funD (d := df_are_some) (c.d 6 rfl).1 (c.d 6 rfl).2 rfl
  have l_are_some : FunD K "are_some" "are_some" (defArgs s_are_some) (defBody s_are_some) (defScope s_are_some) [] [] (Xf_are_some K) d_are_some := lx_are_some
  have k_are_some : W.keepIn K (.ref (Xf_are_some K)) = true := of_decide_eq_true (c.t 1 18 rfl rfl)
  have a_is_book_line : W.nsIn K mainGlobals "is_book_line" = some (some (.ref (Xf_is_book_line K))) := of_decide_eq_true (c.t 1 19 rfl rfl)
  obtain ⟨d_is_book_line, lx_is_book_line⟩ := Df.funD (d := df_is_book_line) (c.d 7 rfl).1 (c.d 7 rfl).2 rfl
  have l_is_book_line : FunD K "is_book_line" "is_book_line" (defArgs s_is_book_line) (defBody s_is_book_line) (defScope s_is_book_line) [] [] (Xf_is_book_line K) d_is_book_line := lx_is_book_line
  have k_is_book_line : W.keepIn K (.ref (Xf_is_book_line K)) = true := of_decide_eq_true (c.t 1 20 rfl rfl)
  have a_may_follow : W.nsIn K mainGlobals "may_follow" = some (some (.ref (Xf_may_follow K))) := of_decide_eq_true (c.t 1 21 rfl rfl)
  obtain ⟨d_may_follow, lx_may_follow⟩ := Df.funD (d := df_may_follow) (c.d 8 rfl).1 (c.d 8 rfl).2 rfl
  have l_may_follow : FunD K "may_follow" "may_follow" (defArgs s_may_follow) (defBody s_may_follow) (defScope s_may_follow) [] [] (Xf_may_follow K) d_may_follow := lx_may_follow
  have k_may_follow : W.keepIn K (.ref (Xf_may_follow K)) = true := of_decide_eq_true (c.t 1 22 rfl rfl)
  have a__law_deal : W.nsIn K mainGlobals "_law_deal" = some (some (.ref (Xf__law_deal K))) := of_decide_eq_true (c.t 1 23 rfl rfl)
  obtain ⟨d__law_deal, lx__law_deal⟩ := Df.funD (d := df__law_deal) (c.d 9 rfl).1 (c.d 9 rfl).2 rfl
  have l__law_deal : FunD K "_law_deal" "_law_deal" (defArgs s__law_deal) (defBody s__law_deal) (defScope s__law_deal) [] [] (Xf__law_deal K) d__law_deal := lx__law_deal
  have k__law_deal : W.keepIn K (.ref (Xf__law_deal K)) = true := of_decide_eq_true (c.t 1 24 rfl rfl)
  have a__law_draw : W.nsIn K mainGlobals "_law_draw" = some (some (.ref (Xf__law_draw K))) := of_decide_eq_true (c.t 1 25 rfl rfl)
  obtain ⟨d__law_draw, lx__law_draw⟩ := Df.funD (d := df__law_draw) (c.d 10 rfl).1 (c.d 10 rfl).2 rfl
  have l__law_draw : FunD K "_law_draw" "_law_draw" (defArgs s__law_draw) (defBody s__law_draw) (defScope s__law_draw) [] [] (Xf__law_draw K) d__law_draw := lx__law_draw
  have k__law_draw : W.keepIn K (.ref (Xf__law_draw K)) = true := of_decide_eq_true (c.t 1 26 rfl rfl)
  have a__law_mixed : W.nsIn K mainGlobals "_law_mixed" = some (some (.ref (Xf__law_mixed K))) := of_decide_eq_true (c.t 1 27 rfl rfl)
  obtain ⟨d__law_mixed, lx__law_mixed⟩ := Df.funD (d := df__law_mixed) (c.d 11 rfl).1 (c.d 11 rfl).2 rfl
  have l__law_mixed : FunD K "_law_mixed" "_law_mixed" (defArgs s__law_mixed) (defBody s__law_mixed) (defScope s__law_mixed) [] [] (Xf__law_mixed K) d__law_mixed := lx__law_mixed
  have k__law_mixed : W.keepIn K (.ref (Xf__law_mixed K)) = true := of_decide_eq_true (c.t 1 28 rfl rfl)
  have a__law_words : W.nsIn K mainGlobals "_law_words" = some (some (.ref (Xf__law_words K))) := of_decide_eq_true (c.t 1 29 rfl rfl)
  obtain ⟨d__law_words, lx__law_words⟩ := Df.funD (d := df__law_words) (c.d 12 rfl).1 (c.d 12 rfl).2 rfl
  have l__law_words : FunD K "_law_words" "_law_words" (defArgs s__law_words) (defBody s__law_words) (defScope s__law_words) [] [] (Xf__law_words K) d__law_words := lx__law_words
  have k__law_words : W.keepIn K (.ref (Xf__law_words K)) = true := of_decide_eq_true (c.t 2 0 rfl rfl)
  have a__law_book : W.nsIn K mainGlobals "_law_book" = some (some (.ref (Xf__law_book K))) := of_decide_eq_true (c.t 2 1 rfl rfl)
  obtain ⟨d__law_book, lx__law_book⟩ := Df.funD (d := df__law_book) (c.d 13 rfl).1 (c.d 13 rfl).2 rfl
  have l__law_book : FunD K "_law_book" "_law_book" (defArgs s__law_book) (defBody s__law_book) (defScope s__law_book) [] [] (Xf__law_book K) d__law_book := lx__law_book
  have k__law_book : W.keepIn K (.ref (Xf__law_book K)) = true := of_decide_eq_true (c.t 2 2 rfl rfl)
  have a__law_any : W.nsIn K mainGlobals "_law_any" = some (some (.ref (Xf__law_any K))) := of_decide_eq_true (c.t 2 3 rfl rfl)
  obtain ⟨d__law_any, lx__law_any⟩ := Df.funD (d := df__law_any) (c.d 14 rfl).1 (c.d 14 rfl).2 rfl
  have l__law_any : FunD K "_law_any" "_law_any" (defArgs s__law_any) (defBody s__law_any) (defScope s__law_any) [] [] (Xf__law_any K) d__law_any := lx__law_any
  have k__law_any : W.keepIn K (.ref (Xf__law_any K)) = true := of_decide_eq_true (c.t 2 4 rfl rfl)
  have a__law_is_name : W.nsIn K mainGlobals "_law_is_name" = some (some (.ref (Xf__law_is_name K))) := of_decide_eq_true (c.t 2 5 rfl rfl)
  obtain ⟨d__law_is_name, lx__law_is_name⟩ := Df.funD (d := df__law_is_name) (c.d 15 rfl).1 (c.d 15 rfl).2 rfl
  have l__law_is_name : FunD K "_law_is_name" "_law_is_name" (defArgs s__law_is_name) (defBody s__law_is_name) (defScope s__law_is_name) [] [] (Xf__law_is_name K) d__law_is_name := lx__law_is_name
  have k__law_is_name : W.keepIn K (.ref (Xf__law_is_name K)) = true := of_decide_eq_true (c.t 2 6 rfl rfl)
  have a__law_are_names : W.nsIn K mainGlobals "_law_are_names" = some (some (.ref (Xf__law_are_names K))) := of_decide_eq_true (c.t 2 7 rfl rfl)
  obtain ⟨d__law_are_names, lx__law_are_names⟩ := Df.funD (d := df__law_are_names) (c.d 16 rfl).1 (c.d 16 rfl).2 rfl
  have l__law_are_names : FunD K "_law_are_names" "_law_are_names" (defArgs s__law_are_names) (defBody s__law_are_names) (defScope s__law_are_names) [] [] (Xf__law_are_names K) d__law_are_names := lx__law_are_names
  have k__law_are_names : W.keepIn K (.ref (Xf__law_are_names K)) = true := of_decide_eq_true (c.t 2 8 rfl rfl)
  have a__law_are_kinds : W.nsIn K mainGlobals "_law_are_kinds" = some (some (.ref (Xf__law_are_kinds K))) := of_decide_eq_true (c.t 2 9 rfl rfl)
  obtain ⟨d__law_are_kinds, lx__law_are_kinds⟩ := Df.funD (d := df__law_are_kinds) (c.d 17 rfl).1 (c.d 17 rfl).2 rfl
  have l__law_are_kinds : FunD K "_law_are_kinds" "_law_are_kinds" (defArgs s__law_are_kinds) (defBody s__law_are_kinds) (defScope s__law_are_kinds) [] [] (Xf__law_are_kinds K) d__law_are_kinds := lx__law_are_kinds
  have k__law_are_kinds : W.keepIn K (.ref (Xf__law_are_kinds K)) = true := of_decide_eq_true (c.t 2 10 rfl rfl)
  have a__law_is_one_of : W.nsIn K mainGlobals "_law_is_one_of" = some (some (.ref (Xf__law_is_one_of K))) := of_decide_eq_true (c.t 2 11 rfl rfl)
  obtain ⟨d__law_is_one_of, lx__law_is_one_of⟩ := Df.funD (d := df__law_is_one_of) (c.d 18 rfl).1 (c.d 18 rfl).2 rfl
  have l__law_is_one_of : FunD K "_law_is_one_of" "_law_is_one_of" (defArgs s__law_is_one_of) (defBody s__law_is_one_of) (defScope s__law_is_one_of) [] [] (Xf__law_is_one_of K) d__law_is_one_of := lx__law_is_one_of
  have k__law_is_one_of : W.keepIn K (.ref (Xf__law_is_one_of K)) = true := of_decide_eq_true (c.t 2 12 rfl rfl)
  have a__law_due : W.nsIn K mainGlobals "_law_due" = some (some (.ref (Xf__law_due K))) := of_decide_eq_true (c.t 2 13 rfl rfl)
  obtain ⟨d__law_due, lx__law_due⟩ := Df.funD (d := df__law_due) (c.d 19 rfl).1 (c.d 19 rfl).2 rfl
  have l__law_due : FunD K "_law_due" "_law_due" (defArgs s__law_due) (defBody s__law_due) (defScope s__law_due) [] [] (Xf__law_due K) d__law_due := lx__law_due
  have k__law_due : W.keepIn K (.ref (Xf__law_due K)) = true := of_decide_eq_true (c.t 2 14 rfl rfl)
  have a__law_tried : W.nsIn K mainGlobals "_law_tried" = some (some (.ref (Xf__law_tried K))) := of_decide_eq_true (c.t 2 15 rfl rfl)
  obtain ⟨d__law_tried, lx__law_tried⟩ := Df.funD (d := df__law_tried) (c.d 20 rfl).1 (c.d 20 rfl).2 rfl
  have l__law_tried : FunD K "_law_tried" "_law_tried" (defArgs s__law_tried) (defBody s__law_tried) (defScope s__law_tried) [] [] (Xf__law_tried K) d__law_tried := lx__law_tried
  have k__law_tried : W.keepIn K (.ref (Xf__law_tried K)) = true := of_decide_eq_true (c.t 2 16 rfl rfl)
  have a__law_bent : W.nsIn K mainGlobals "_law_bent" = some (some (.ref (Xf__law_bent K))) := of_decide_eq_true (c.t 2 17 rfl rfl)
  obtain ⟨d__law_bent, lx__law_bent⟩ := Df.funD (d := df__law_bent) (c.d 21 rfl).1 (c.d 21 rfl).2 rfl
  have l__law_bent : FunD K "_law_bent" "_law_bent" (defArgs s__law_bent) (defBody s__law_bent) (defScope s__law_bent) [] [] (Xf__law_bent K) d__law_bent := lx__law_bent
  have k__law_bent : W.keepIn K (.ref (Xf__law_bent K)) = true := of_decide_eq_true (c.t 2 18 rfl rfl)
  have a_law : W.nsIn K mainGlobals "law" = some (some (.ref (Xf_law K))) := of_decide_eq_true (c.t 2 19 rfl rfl)
  obtain ⟨d_law, lx_law⟩ := Df.funD (d := df_law) (c.d 22 rfl).1 (c.d 22 rfl).2 rfl
  have l_law : FunD K "law" "law" (defArgs s_law) (defBody s_law) (defScope s_law) [] [] (Xf_law K) d_law := lx_law
  have k_law : W.keepIn K (.ref (Xf_law K)) = true := of_decide_eq_true (c.t 2 20 rfl rfl)
  have a_Book_init : W.findIn K (.ref (Xc_Book K)) "__init__" = some (some (.ref (Xf_Book_init K))) := of_decide_eq_true (c.t 2 21 rfl rfl)
  have n_Book_init : W.isFn K (.ref (Xf_Book_init K)) = true := of_decide_eq_true (c.t 2 22 rfl rfl)
  have mm_Book : W.makesIn K (Xc_Book K) = true := of_decide_eq_true (c.t 2 23 rfl rfl)
  have kc_Book : W.keepIn K (.ref (Xc_Book K)) = true := of_decide_eq_true (c.t 2 24 rfl rfl)
  obtain ⟨d_Book_init, lx_Book_init⟩ := Df.funD (d := df_Book_init) (c.d 23 rfl).1 (c.d 23 rfl).2 rfl
  have l_Book_init : FunD K "__init__" "Book.__init__" (defArgs s_Book_init) (defBody s_Book_init) (defScope s_Book_init) [.ref (Xe_Book_init_0 K), .ref (Xe_Book_init_1 K)] [] (Xf_Book_init K) d_Book_init := lx_Book_init
  have k_Book_init : W.keepIn K (.ref (Xf_Book_init K)) = true := of_decide_eq_true (c.t 2 25 rfl rfl)
  have cr_Book_read : W.readsIn K (Xc_Book K) (.type "type") = true := of_decide_eq_true (c.t 2 26 rfl rfl)
  have cg_Book_read : W.specialIn K (.ref (Xc_Book K)) "__getattribute__" = some (some (.builtin "type.__getattribute__")) := of_decide_eq_true (c.t 2 27 rfl rfl)
  obtain ⟨ca_Book_read, rs_Book_read, rc_Book_read⟩ := cmT_ok (c.t 2 28 rfl rfl)
  have fi_Book_read : W.fnIn K (Xf_Book_read K) = true := of_decide_eq_true (c.t 2 29 rfl rfl)
  obtain ⟨d_Book_read, lx_Book_read⟩ := Df.funD (d := df_Book_read) (c.d 24 rfl).1 (c.d 24 rfl).2 rfl
  have l_Book_read : FunD K "read" "Book.read" (defArgs s_Book_read) (defBody s_Book_read) (defScope s_Book_read) [] [] (Xf_Book_read K) d_Book_read := lx_Book_read
  have k_Book_read : W.keepIn K (.ref (Xf_Book_read K)) = true := of_decide_eq_true (c.t 3 0 rfl rfl)
  have a_Book_need_kind : W.findIn K (.ref (Xc_Book K)) "need_kind" = some (some (.ref (Xf_Book_need_kind K))) := of_decide_eq_true (c.t 3 1 rfl rfl)
  have n_Book_need_kind : W.isFn K (.ref (Xf_Book_need_kind K)) = true := of_decide_eq_true (c.t 3 2 rfl rfl)
  obtain ⟨d_Book_need_kind, lx_Book_need_kind⟩ := Df.funD (d := df_Book_need_kind) (c.d 25 rfl).1 (c.d 25 rfl).2 rfl
  have l_Book_need_kind : FunD K "need_kind" "Book.need_kind" (defArgs s_Book_need_kind) (defBody s_Book_need_kind) (defScope s_Book_need_kind) [] [] (Xf_Book_need_kind K) d_Book_need_kind := lx_Book_need_kind
  have k_Book_need_kind : W.keepIn K (.ref (Xf_Book_need_kind K)) = true := of_decide_eq_true (c.t 3 3 rfl rfl)
  have a_Book_target : W.findIn K (.ref (Xc_Book K)) "target" = some (some (.ref (Xf_Book_target K))) := of_decide_eq_true (c.t 3 4 rfl rfl)
  have n_Book_target : W.isFn K (.ref (Xf_Book_target K)) = true := of_decide_eq_true (c.t 3 5 rfl rfl)
  obtain ⟨d_Book_target, lx_Book_target⟩ := Df.funD (d := df_Book_target) (c.d 26 rfl).1 (c.d 26 rfl).2 rfl
  have l_Book_target : FunD K "target" "Book.target" (defArgs s_Book_target) (defBody s_Book_target) (defScope s_Book_target) [] [] (Xf_Book_target K) d_Book_target := lx_Book_target
  have k_Book_target : W.keepIn K (.ref (Xf_Book_target K)) = true := of_decide_eq_true (c.t 3 6 rfl rfl)
  have a_Book_without : W.findIn K (.ref (Xc_Book K)) "without" = some (some (.ref (Xf_Book_without K))) := of_decide_eq_true (c.t 3 7 rfl rfl)
  have n_Book_without : W.isFn K (.ref (Xf_Book_without K)) = true := of_decide_eq_true (c.t 3 8 rfl rfl)
  obtain ⟨d_Book_without, lx_Book_without⟩ := Df.funD (d := df_Book_without) (c.d 27 rfl).1 (c.d 27 rfl).2 rfl
  have l_Book_without : FunD K "without" "Book.without" (defArgs s_Book_without) (defBody s_Book_without) (defScope s_Book_without) [] [] (Xf_Book_without K) d_Book_without := lx_Book_without
  have k_Book_without : W.keepIn K (.ref (Xf_Book_without K)) = true := of_decide_eq_true (c.t 3 9 rfl rfl)
  have a_Book_eq : W.findIn K (.ref (Xc_Book K)) "__eq__" = some (some (.ref (Xf_Book_eq K))) := of_decide_eq_true (c.t 3 10 rfl rfl)
  have n_Book_eq : W.isFn K (.ref (Xf_Book_eq K)) = true := of_decide_eq_true (c.t 3 11 rfl rfl)
  obtain ⟨d_Book_eq, lx_Book_eq⟩ := Df.funD (d := df_Book_eq) (c.d 28 rfl).1 (c.d 28 rfl).2 rfl
  have l_Book_eq : FunD K "__eq__" "Book.__eq__" (defArgs s_Book_eq) (defBody s_Book_eq) (defScope s_Book_eq) [] [] (Xf_Book_eq K) d_Book_eq := lx_Book_eq
  have k_Book_eq : W.keepIn K (.ref (Xf_Book_eq K)) = true := of_decide_eq_true (c.t 3 12 rfl rfl)
  have a_Book_str : W.findIn K (.ref (Xc_Book K)) "__str__" = some (some (.ref (Xf_Book_str K))) := of_decide_eq_true (c.t 3 13 rfl rfl)
  have n_Book_str : W.isFn K (.ref (Xf_Book_str K)) = true := of_decide_eq_true (c.t 3 14 rfl rfl)
  obtain ⟨d_Book_str, lx_Book_str⟩ := Df.funD (d := df_Book_str) (c.d 29 rfl).1 (c.d 29 rfl).2 rfl
  have l_Book_str : FunD K "__str__" "Book.__str__" (defArgs s_Book_str) (defBody s_Book_str) (defScope s_Book_str) [] [] (Xf_Book_str K) d_Book_str := lx_Book_str
  have k_Book_str : W.keepIn K (.ref (Xf_Book_str K)) = true := of_decide_eq_true (c.t 3 15 rfl rfl)
  have a_HastyError : W.nsIn K mainGlobals "HastyError" = some (some (.ref (Xc_HastyError K))) := of_decide_eq_true (c.t 3 16 rfl rfl)
  obtain ⟨cd_HastyError, cl_HastyError⟩ := clsT_ok (c.t 3 17 rfl rfl)
  have ty_HastyError : W.typeIn K (.ref (Xc_HastyError K)) = some (.type "type") := of_decide_eq_true (c.t 3 18 rfl rfl)
  have zt_super : (PySem.Challenge.pw_hastypage_k03_books_refused.main.scope.names.lookup ("super" : Str)).isSome = false := by first | rfl | decide +kernel
  have zz_super : W.nsIn K mainGlobals "super" = some none := of_decide_eq_true (c.t 3 19 rfl rfl)
  have zz_any : W.nsIn K cStatics "thirdparty.any" = some none := of_decide_eq_true (c.t 3 20 rfl rfl)
  have a_InvalidBook : W.nsIn K mainGlobals "InvalidBook" = some (some (.ref (Xc_InvalidBook K))) := of_decide_eq_true (c.t 3 21 rfl rfl)
  obtain ⟨nm_InvalidBook, qn_InvalidBook, N_InvalidBook, bs_InvalidBook, bm_InvalidBook, sn_InvalidBook, sub_InvalidBook, ab_InvalidBook, col_InvalidBook, dd_InvalidBook, k0_InvalidBook, k1_InvalidBook, k2_InvalidBook, k3_InvalidBook, k5_InvalidBook, lc_InvalidBook, rv_InvalidBook⟩ := excT_ok (c.t 3 22 rfl rfl)
  have sa_InvalidBook : W.findIn K (.ref (Xc_InvalidBook K)) "__setattr__" = some (some (.builtin "object.__setattr__")) := of_decide_eq_true (c.t 3 23 rfl rfl)
  have ex_InvalidBook : W.subIn K (.ref (Xc_InvalidBook K)) (.type "BaseException") = some true := of_decide_eq_true (c.t 3 24 rfl rfl)
  have ty_InvalidBook : W.typeIn K (.ref (Xc_InvalidBook K)) = some (.type "type") := of_decide_eq_true (c.t 3 25 rfl rfl)
  have kc_InvalidBook : W.keepIn K (.ref (Xc_InvalidBook K)) = true := of_decide_eq_true (c.t 3 26 rfl rfl)
  have ga_InvalidBook : W.findIn K (.ref (Xc_InvalidBook K)) "__getattribute__" = some (some (.builtin "BaseException.__getattribute__")) := of_decide_eq_true (c.t 3 27 rfl rfl)
  have gg_InvalidBook : W.findIn K (.ref (Xc_InvalidBook K)) "__getattr__" = some none := of_decide_eq_true (c.t 3 28 rfl rfl)
  have hd_InvalidBook : W.hasDictIn K (Xc_InvalidBook K) = true := of_decide_eq_true (c.t 3 29 rfl rfl)
  have ca_InvalidBook : W.findIn K (.ref (Xc_InvalidBook K)) "__class__" = some (some (.builtin "object.__class__")) := of_decide_eq_true (c.t 4 0 rfl rfl)
  have cm_InvalidBook : W.mroIn K (Xc_InvalidBook K) (.type "object") = some true := of_decide_eq_true (c.t 4 1 rfl rfl)
  have na_InvalidBook_word : W.findIn K (.ref (Xc_InvalidBook K)) "word" = some none := of_decide_eq_true (c.t 4 2 rfl rfl)
  have ai_InvalidBook : W.findIn K (.ref (Xc_InvalidBook K)) "__init__" = some (some (.ref (Xf_InvalidBook_init K))) := of_decide_eq_true (c.t 4 3 rfl rfl)
  have ti_InvalidBook : W.typeIn K (.ref (Xf_InvalidBook_init K)) = some (.type "function") := of_decide_eq_true (c.t 4 4 rfl rfl)
  obtain ⟨oc_InvalidBook, od_InvalidBook, kV_InvalidBook, dc_InvalidBook, pm_InvalidBook, an_InvalidBook, ct_InvalidBook, sl_InvalidBook, lfx_InvalidBook, cix_InvalidBook⟩ := Df.sup (d := df_InvalidBook_init) (c.d 30 rfl).1 (c.d 30 rfl).2 rfl rfl (c.t 4 5 rfl rfl)
  have lf_InvalidBook : K.lookup (Xf_InvalidBook_init K) = some ⟨oc_InvalidBook, od_InvalidBook, .func (W.ksFn "__init__" "InvalidBook.__init__" (defArgs s_InvalidBook_init) (defBody s_InvalidBook_init) (defScope s_InvalidBook_init) .none kV_InvalidBook dc_InvalidBook pm_InvalidBook an_InvalidBook (.ref (Xcda_InvalidBook K)) ct_InvalidBook (Xcc_InvalidBook K)), sl_InvalidBook⟩ := lfx_InvalidBook
  have ci_InvalidBook : W.codeIn K (.ref (Xcda_InvalidBook K)) "InvalidBook.__init__" = true := cix_InvalidBook
  obtain ⟨ccl_InvalidBook, cdd_InvalidBook, vs_InvalidBook, ccs_InvalidBook, tf_InvalidBook, ld_InvalidBook, hv_InvalidBook⟩ := filT_ok (f := PySem.Challenge.pw_hastypage_k03_books_refused.main.file) (c.t 4 6 rfl rfl)
  have hf_InvalidBook : ((PySem.Challenge.pw_hastypage_k03_books_refused.main.file : Str) == PySem.Challenge.pw_hastypage_k03_books_refused.main.file) = true := beq_self_eq_true _
  obtain ⟨cl0_InvalidBook, cld_InvalidBook, csl_InvalidBook, lk_InvalidBook⟩ := celT_ok (c.t 4 7 rfl rfl)
  have si_InvalidBook : W.ks_superIn K (Xc_InvalidBook K) (Xc_InvalidBook K) "__init__" = some (some (.builtin "ValueError.__init__")) := of_decide_eq_true (c.t 4 8 rfl rfl)
  have sv_InvalidBook : W.subIn K (.ref (Xc_InvalidBook K)) (.type "ValueError") = some true := of_decide_eq_true (c.t 4 9 rfl rfl)
  have a_InvalidText : W.nsIn K mainGlobals "InvalidText" = some (some (.ref (Xc_InvalidText K))) := of_decide_eq_true (c.t 4 10 rfl rfl)
  obtain ⟨nm_InvalidText, qn_InvalidText, N_InvalidText, bs_InvalidText, bm_InvalidText, sn_InvalidText, sub_InvalidText, ab_InvalidText, col_InvalidText, dd_InvalidText, k0_InvalidText, k1_InvalidText, k2_InvalidText, k3_InvalidText, k5_InvalidText, lc_InvalidText, rv_InvalidText⟩ := excT_ok (c.t 4 11 rfl rfl)
  have sa_InvalidText : W.findIn K (.ref (Xc_InvalidText K)) "__setattr__" = some (some (.builtin "object.__setattr__")) := of_decide_eq_true (c.t 4 12 rfl rfl)
  have ex_InvalidText : W.subIn K (.ref (Xc_InvalidText K)) (.type "BaseException") = some true := of_decide_eq_true (c.t 4 13 rfl rfl)
  have ty_InvalidText : W.typeIn K (.ref (Xc_InvalidText K)) = some (.type "type") := of_decide_eq_true (c.t 4 14 rfl rfl)
  have kc_InvalidText : W.keepIn K (.ref (Xc_InvalidText K)) = true := of_decide_eq_true (c.t 4 15 rfl rfl)
  have ga_InvalidText : W.findIn K (.ref (Xc_InvalidText K)) "__getattribute__" = some (some (.builtin "BaseException.__getattribute__")) := of_decide_eq_true (c.t 4 16 rfl rfl)
  have gg_InvalidText : W.findIn K (.ref (Xc_InvalidText K)) "__getattr__" = some none := of_decide_eq_true (c.t 4 17 rfl rfl)
  have hd_InvalidText : W.hasDictIn K (Xc_InvalidText K) = true := of_decide_eq_true (c.t 4 18 rfl rfl)
  have ca_InvalidText : W.findIn K (.ref (Xc_InvalidText K)) "__class__" = some (some (.builtin "object.__class__")) := of_decide_eq_true (c.t 4 19 rfl rfl)
  have cm_InvalidText : W.mroIn K (Xc_InvalidText K) (.type "object") = some true := of_decide_eq_true (c.t 4 20 rfl rfl)
  have na_InvalidText_at : W.findIn K (.ref (Xc_InvalidText K)) "at" = some none := of_decide_eq_true (c.t 4 21 rfl rfl)
  have ai_InvalidText : W.findIn K (.ref (Xc_InvalidText K)) "__init__" = some (some (.ref (Xf_InvalidText_init K))) := of_decide_eq_true (c.t 4 22 rfl rfl)
  have ti_InvalidText : W.typeIn K (.ref (Xf_InvalidText_init K)) = some (.type "function") := of_decide_eq_true (c.t 4 23 rfl rfl)
  obtain ⟨oc_InvalidText, od_InvalidText, kV_InvalidText, dc_InvalidText, pm_InvalidText, an_InvalidText, ct_InvalidText, sl_InvalidText, lfx_InvalidText, cix_InvalidText⟩ := Df.sup (d := df_InvalidText_init) (c.d 31 rfl).1 (c.d 31 rfl).2 rfl rfl (c.t 4 24 rfl rfl)
  have lf_InvalidText : K.lookup (Xf_InvalidText_init K) = some ⟨oc_InvalidText, od_InvalidText, .func (W.ksFn "__init__" "InvalidText.__init__" (defArgs s_InvalidText_init) (defBody s_InvalidText_init) (defScope s_InvalidText_init) .none kV_InvalidText dc_InvalidText pm_InvalidText an_InvalidText (.ref (Xcda_InvalidText K)) ct_InvalidText (Xcc_InvalidText K)), sl_InvalidText⟩ := lfx_InvalidText
  have ci_InvalidText : W.codeIn K (.ref (Xcda_InvalidText K)) "InvalidText.__init__" = true := cix_InvalidText
  obtain ⟨ccl_InvalidText, cdd_InvalidText, vs_InvalidText, ccs_InvalidText, tf_InvalidText, ld_InvalidText, hv_InvalidText⟩ := filT_ok (f := PySem.Challenge.pw_hastypage_k03_books_refused.main.file) (c.t 4 25 rfl rfl)
  have hf_InvalidText : ((PySem.Challenge.pw_hastypage_k03_books_refused.main.file : Str) == PySem.Challenge.pw_hastypage_k03_books_refused.main.file) = true := beq_self_eq_true _
  obtain ⟨cl0_InvalidText, cld_InvalidText, csl_InvalidText, lk_InvalidText⟩ := celT_ok (c.t 4 26 rfl rfl)
  have si_InvalidText : W.ks_superIn K (Xc_InvalidText K) (Xc_InvalidText K) "__init__" = some (some (.builtin "ValueError.__init__")) := of_decide_eq_true (c.t 4 27 rfl rfl)
  have sv_InvalidText : W.subIn K (.ref (Xc_InvalidText K)) (.type "ValueError") = some true := of_decide_eq_true (c.t 4 28 rfl rfl)
  have su_InvalidBook_InvalidBook : W.subIn K (.ref (Xc_InvalidBook K)) (.ref (Xc_InvalidBook K)) = some true := of_decide_eq_true (c.t 4 29 rfl rfl)
  have su_InvalidText_InvalidText : W.subIn K (.ref (Xc_InvalidText K)) (.ref (Xc_InvalidText K)) = some true := of_decide_eq_true (c.t 5 0 rfl rfl)
  have su_InvalidBook_HastyError : W.subIn K (.ref (Xc_InvalidBook K)) (.ref (Xc_HastyError K)) = some true := of_decide_eq_true (c.t 5 1 rfl rfl)
  have nq_InvalidBook_HastyError : ((.ref (Xc_InvalidBook K) : Value) == .ref (Xc_HastyError K)) = false := of_decide_eq_true (c.t 5 2 rfl rfl)
  have su_InvalidText_HastyError : W.subIn K (.ref (Xc_InvalidText K)) (.ref (Xc_HastyError K)) = some true := of_decide_eq_true (c.t 5 3 rfl rfl)
  have nq_InvalidText_HastyError : ((.ref (Xc_InvalidText K) : Value) == .ref (Xc_HastyError K)) = false := of_decide_eq_true (c.t 5 4 rfl rfl)
  have z_abs : W.nsIn K mainGlobals "abs" = some none := of_decide_eq_true (c.t 5 5 rfl rfl)
  have z_all : W.nsIn K mainGlobals "all" = some none := of_decide_eq_true (c.t 5 6 rfl rfl)
  have z_enumerate : W.nsIn K mainGlobals "enumerate" = some none := of_decide_eq_true (c.t 5 7 rfl rfl)
  have z_int : W.nsIn K mainGlobals "int" = some none := of_decide_eq_true (c.t 5 8 rfl rfl)
  have z_isinstance : W.nsIn K mainGlobals "isinstance" = some none := of_decide_eq_true (c.t 5 9 rfl rfl)
  have z_len : W.nsIn K mainGlobals "len" = some none := of_decide_eq_true (c.t 5 10 rfl rfl)
  have z_list : W.nsIn K mainGlobals "list" = some none := of_decide_eq_true (c.t 5 11 rfl rfl)
  have z_range : W.nsIn K mainGlobals "range" = some none := of_decide_eq_true (c.t 5 12 rfl rfl)
  have z_repr : W.nsIn K mainGlobals "repr" = some none := of_decide_eq_true (c.t 5 13 rfl rfl)
  have z_str : W.nsIn K mainGlobals "str" = some none := of_decide_eq_true (c.t 5 14 rfl rfl)
  have z_tuple : W.nsIn K mainGlobals "tuple" = some none := of_decide_eq_true (c.t 5 15 rfl rfl)
  obtain ⟨tk_SMALL, a_nSMALL⟩ := strT_ok (c.t 5 16 rfl rfl)
  have a_nBARRED : W.nsIn K mainGlobals "BARRED" = some (some (.ref (Xa_BARRED K))) := of_decide_eq_true (c.t 5 17 rfl rfl)
  have l_BARRED : ∀ H : Hp, Rep K H (.tup (barred.map D.str)) (.ref (Xa_BARRED K)) := tupT_ok (c.t 5 18 rfl rfl)
  have le_Book_init_0 : ∀ H : Hp, Rep K H (.tup []) (.ref (Xe_Book_init_0 K)) := tupT_ok (ss := []) (c.t 5 19 rfl rfl)
  have le_Book_init_1 : ∀ H : Hp, Rep K H (.tup []) (.ref (Xe_Book_init_1 K)) := tupT_ok (ss := []) (c.t 5 20 rfl rfl)
  exact ⟨{
       c_Book := Xc_Book K, c_HastyError := Xc_HastyError K, c_InvalidBook := Xc_InvalidBook K, c_InvalidText := Xc_InvalidText K, f__wall := Xf__wall K, f_is_name := Xf_is_name K, f_is_sequence := Xf_is_sequence K, f_are_names := Xf_are_names K, f_is_targets := Xf_is_targets K, f_are_kinds := Xf_are_kinds K, f_are_some := Xf_are_some K, f_is_book_line := Xf_is_book_line K, f_may_follow := Xf_may_follow K, f__law_deal := Xf__law_deal K, f__law_draw := Xf__law_draw K, f__law_mixed := Xf__law_mixed K, f__law_words := Xf__law_words K, f__law_book := Xf__law_book K, f__law_any := Xf__law_any K, f__law_is_name := Xf__law_is_name K, f__law_are_names := Xf__law_are_names K, f__law_are_kinds := Xf__law_are_kinds K, f__law_is_one_of := Xf__law_is_one_of K, f__law_due := Xf__law_due K, f__law_tried := Xf__law_tried K, f__law_bent := Xf__law_bent K, f_law := Xf_law K, f_Book_init := Xf_Book_init K, f_Book_read := Xf_Book_read K, f_Book_need_kind := Xf_Book_need_kind K, f_Book_target := Xf_Book_target K, f_Book_without := Xf_Book_without K, f_Book_eq := Xf_Book_eq K, f_Book_str := Xf_Book_str K, d__wall := d__wall, d_is_name := d_is_name, d_is_sequence := d_is_sequence, d_are_names := d_are_names, d_is_targets := d_is_targets, d_are_kinds := d_are_kinds, d_are_some := d_are_some, d_is_book_line := d_is_book_line, d_may_follow := d_may_follow, d__law_deal := d__law_deal, d__law_draw := d__law_draw, d__law_mixed := d__law_mixed, d__law_words := d__law_words, d__law_book := d__law_book, d__law_any := d__law_any, d__law_is_name := d__law_is_name, d__law_are_names := d__law_are_names, d__law_are_kinds := d__law_are_kinds, d__law_is_one_of := d__law_is_one_of, d__law_due := d__law_due, d__law_tried := d__law_tried, d__law_bent := d__law_bent, d_law := d_law, d_Book_init := d_Book_init, d_Book_read := d_Book_read, d_Book_need_kind := d_Book_need_kind, d_Book_target := d_Book_target, d_Book_without := d_Book_without, d_Book_eq := d_Book_eq, d_Book_str := d_Book_str, a_BARRED := Xa_BARRED K, e_Book_init_0 := Xe_Book_init_0 K, e_Book_init_1 := Xe_Book_init_1 K,
       i_Book := ⟨⟨pg_Book, hd_Book, po_Book, sa_Book⟩, ca_Book, cnn, ctt, cm_Book⟩,
       g_Book := W.mg_of X G a_Book,
       na_Book_choices := na_Book_choices,
       na_Book_kinds := na_Book_kinds,
       na_Book_targets := na_Book_targets,
       na_Book_loose := na_Book_loose,
       na_Book_others := na_Book_others,
       isi_Book_list := kit_ref cl_Book ty_Book ss_Book_list (by first | rfl | decide | (exact bne_of (by decide))),
       isi_Book_tuple := kit_ref cl_Book ty_Book ss_Book_tuple (by first | rfl | decide | (exact bne_of (by decide))),
       isi_Book_str := kit_ref cl_Book ty_Book ss_Book_str (by first | rfl | decide | (exact bne_of (by decide))),
       isi_Book_int := kit_ref cl_Book ty_Book ss_Book_int (by first | rfl | decide | (exact bne_of (by decide))),
       isi_Book_bool := kit_ref cl_Book ty_Book ss_Book_bool (by first | rfl | decide | (exact bne_of (by decide))),
       isi_Book_NoneType := kit_ref cl_Book ty_Book ss_Book_NoneType (by first | rfl | decide | (exact bne_of (by decide))),
       kin_Book_list := kit_tyF sk_Book_list (by decide +kernel),
       kin_Book_tuple := kit_tyF sk_Book_tuple (by decide +kernel),
       kin_Book_str := kit_tyF sk_Book_str (by decide +kernel),
       kin_Book_int := kit_tyF sk_Book_int (by decide +kernel),
       kin_Book_bool := kit_tyF sk_Book_bool (by decide +kernel),
       nf_Book_Book := nf_Book_Book,
       nf_Book_list := nf_Book_list,
       nf_Book_tuple := nf_Book_tuple,
       nf_Book_str := nf_Book_str,
       nf_Book_int := nf_Book_int,
       nf_Book_bool := nf_Book_bool,
       nf_Book_NoneType := nf_Book_NoneType,
       ne_Book := ne_Book,
       g__wall := W.mg_of X G a__wall,
       F__wall := l__wall,
       b__wall := l__wall.bindsN fun _ _ _ _ _ _ us hl => match us, hl with | [_], _ => rfl,
       g_is_name := W.mg_of X G a_is_name,
       F_is_name := l_is_name,
       b_is_name := l_is_name.bindsN fun _ _ _ _ _ _ us hl => match us, hl with | [_], _ => rfl,
       g_is_sequence := W.mg_of X G a_is_sequence,
       F_is_sequence := l_is_sequence,
       b_is_sequence := l_is_sequence.bindsN fun _ _ _ _ _ _ us hl => match us, hl with | [_], _ => rfl,
       g_are_names := W.mg_of X G a_are_names,
       F_are_names := l_are_names,
       b_are_names := l_are_names.bindsN fun _ _ _ _ _ _ us hl => match us, hl with | [_], _ => rfl,
       g_is_targets := W.mg_of X G a_is_targets,
       F_is_targets := l_is_targets,
       b_is_targets := l_is_targets.bindsN fun _ _ _ _ _ _ us hl => match us, hl with | [_, _], _ => rfl,
       g_are_kinds := W.mg_of X G a_are_kinds,
       F_are_kinds := l_are_kinds,
       b_are_kinds := l_are_kinds.bindsN fun _ _ _ _ _ _ us hl => match us, hl with | [_, _], _ => rfl,
       g_are_some := W.mg_of X G a_are_some,
       F_are_some := l_are_some,
       b_are_some := l_are_some.bindsN fun _ _ _ _ _ _ us hl => match us, hl with | [_, _], _ => rfl,
       g_is_book_line := W.mg_of X G a_is_book_line,
       F_is_book_line := l_is_book_line,
       b_is_book_line := l_is_book_line.bindsN fun _ _ _ _ _ _ us hl => match us, hl with | [_], _ => rfl,
       g_may_follow := W.mg_of X G a_may_follow,
       F_may_follow := l_may_follow,
       b_may_follow := l_may_follow.bindsN fun _ _ _ _ _ _ us hl => match us, hl with | [_, _], _ => rfl,
       g__law_deal := W.mg_of X G a__law_deal,
       F__law_deal := l__law_deal,
       b__law_deal := l__law_deal.bindsN fun _ _ _ _ _ _ us hl => match us, hl with | [_, _], _ => rfl,
       g__law_draw := W.mg_of X G a__law_draw,
       F__law_draw := l__law_draw,
       b__law_draw := l__law_draw.bindsN fun _ _ _ _ _ _ us hl => match us, hl with | [_, _], _ => rfl,
       g__law_mixed := W.mg_of X G a__law_mixed,
       F__law_mixed := l__law_mixed,
       b__law_mixed := l__law_mixed.bindsN fun _ _ _ _ _ _ us hl => match us, hl with | [_, _], _ => rfl,
       g__law_words := W.mg_of X G a__law_words,
       F__law_words := l__law_words,
       b__law_words := l__law_words.bindsN fun _ _ _ _ _ _ us hl => match us, hl with | [_, _], _ => rfl,
       g__law_book := W.mg_of X G a__law_book,
       F__law_book := l__law_book,
       b__law_book := l__law_book.bindsN fun _ _ _ _ _ _ us hl => match us, hl with | [_, _], _ => rfl,
       g__law_any := W.mg_of X G a__law_any,
       F__law_any := l__law_any,
       b__law_any := l__law_any.bindsN fun _ _ _ _ _ _ us hl => match us, hl with | [_, _], _ => rfl,
       g__law_is_name := W.mg_of X G a__law_is_name,
       F__law_is_name := l__law_is_name,
       b__law_is_name := l__law_is_name.bindsN fun _ _ _ _ _ _ us hl => match us, hl with | [_], _ => rfl,
       g__law_are_names := W.mg_of X G a__law_are_names,
       F__law_are_names := l__law_are_names,
       b__law_are_names := l__law_are_names.bindsN fun _ _ _ _ _ _ us hl => match us, hl with | [_], _ => rfl,
       g__law_are_kinds := W.mg_of X G a__law_are_kinds,
       F__law_are_kinds := l__law_are_kinds,
       b__law_are_kinds := l__law_are_kinds.bindsN fun _ _ _ _ _ _ us hl => match us, hl with | [_, _], _ => rfl,
       g__law_is_one_of := W.mg_of X G a__law_is_one_of,
       F__law_is_one_of := l__law_is_one_of,
       b__law_is_one_of := l__law_is_one_of.bindsN fun _ _ _ _ _ _ us hl => match us, hl with | [_, _], _ => rfl,
       g__law_due := W.mg_of X G a__law_due,
       F__law_due := l__law_due,
       b__law_due := l__law_due.bindsN fun _ _ _ _ _ _ us hl => match us, hl with | [_, _, _, _], _ => rfl,
       g__law_tried := W.mg_of X G a__law_tried,
       F__law_tried := l__law_tried,
       b__law_tried := l__law_tried.bindsN fun _ _ _ _ _ _ us hl => match us, hl with | [_, _, _, _], _ => rfl,
       g__law_bent := W.mg_of X G a__law_bent,
       F__law_bent := l__law_bent,
       b__law_bent := l__law_bent.bindsN fun _ _ _ _ _ _ us hl => match us, hl with | [_, _], _ => rfl,
       g_law := W.mg_of X G a_law,
       F_law := l_law,
       b_law := l_law.bindsN fun _ _ _ _ _ _ us hl => match us, hl with | [_], _ => rfl,
       mk_Book := ⟨mm_Book, a_Book_init, n_Book_init, kc_Book⟩,
       F_Book_init := l_Book_init,
       b_Book_init := binds_all (ps := ["self", "choices", "kinds", "loose", "others"]) l_Book_init 5 rfl (by simp) fun _ _ _ _ _ _ _ us its hu hi => match us, its, hu, hi with | [_, _, _, _, _], [_, _], _, _ => ⟨_, rfl, rfl⟩,
       b0_Book_init := l_Book_init.binds1 (ps := ["self", "choices", "kinds", "loose", "others"]) 3 0 (by simp) rfl fun _ _ _ _ _ _ _ us its hu hi => match us, its, hu, hi with | [_, _, _], [_, _], _, _ => ⟨_, rfl, rfl⟩,
       b1_Book_init := l_Book_init.binds1 (ps := ["self", "choices", "kinds", "loose", "others"]) 4 1 (by simp) rfl fun _ _ _ _ _ _ _ us its hu hi => match us, its, hu, hi with | [_, _, _, _], [_, _], _, _ => ⟨_, rfl, rfl⟩,
       m_Book_read := ⟨_, _, ⟨cr_Book_read, cg_Book_read⟩, ca_Book_read, ⟨_, rc_Book_read⟩, fi_Book_read⟩,
       F_Book_read := l_Book_read,
       b_Book_read := l_Book_read.bindsN fun _ _ _ _ _ _ us hl => match us, hl with | [_, _], _ => rfl,
       m_Book_need_kind := ⟨a_Book_need_kind, n_Book_need_kind, k_Book_need_kind⟩,
       F_Book_need_kind := l_Book_need_kind,
       b_Book_need_kind := l_Book_need_kind.bindsN fun _ _ _ _ _ _ us hl => match us, hl with | [_, _], _ => rfl,
       m_Book_target := ⟨a_Book_target, n_Book_target, k_Book_target⟩,
       F_Book_target := l_Book_target,
       b_Book_target := l_Book_target.bindsN fun _ _ _ _ _ _ us hl => match us, hl with | [_, _, _], _ => rfl,
       m_Book_without := ⟨a_Book_without, n_Book_without, k_Book_without⟩,
       F_Book_without := l_Book_without,
       b_Book_without := l_Book_without.bindsN fun _ _ _ _ _ _ us hl => match us, hl with | [_, _], _ => rfl,
       m_Book_eq := a_Book_eq,
       n_Book_eq := n_Book_eq,
       F_Book_eq := l_Book_eq,
       b_Book_eq := l_Book_eq.bindsN fun _ _ _ _ _ _ us hl => match us, hl with | [_, _], _ => rfl,
       m_Book_str := a_Book_str,
       n_Book_str := n_Book_str,
       F_Book_str := l_Book_str,
       b_Book_str := l_Book_str.bindsN fun _ _ _ _ _ _ us hl => match us, hl with | [_], _ => rfl,
       g_HastyError := W.mg_of X G a_HastyError,
       g_InvalidBook := W.mg_of X G a_InvalidBook,
       xf_InvalidBook := ⟨ga_InvalidBook, gg_InvalidBook, ex_InvalidBook, hd_InvalidBook⟩,
       xc_InvalidBook := ⟨ga_InvalidBook, gg_InvalidBook, ex_InvalidBook, hd_InvalidBook, ca_InvalidBook, cnn, ctt, cm_InvalidBook⟩,
       na_InvalidBook_word := na_InvalidBook_word,
       x_InvalidBook := ⟨⟨_, _, _, _, xf_ValueError, ⟨⟨_, _, _, _, _, _, _, _, _, _, _, _, _, _, _, lc_InvalidBook, rv_InvalidBook⟩, sa_InvalidBook, ex_InvalidBook, ty_InvalidBook, kc_InvalidBook⟩⟩, _, ai_InvalidBook, ti_InvalidBook, sup_InvalidBook lc_InvalidBook rv_InvalidBook sa_InvalidBook na_InvalidBook_word lf_InvalidBook ld_InvalidBook hv_InvalidBook hf_InvalidBook ci_InvalidBook lk_InvalidBook (W.mg_none_of X G zz_super) zt_super zz_any si_InvalidBook sv_InvalidBook⟩,
       g_InvalidText := W.mg_of X G a_InvalidText,
       xf_InvalidText := ⟨ga_InvalidText, gg_InvalidText, ex_InvalidText, hd_InvalidText⟩,
       xc_InvalidText := ⟨ga_InvalidText, gg_InvalidText, ex_InvalidText, hd_InvalidText, ca_InvalidText, cnn, ctt, cm_InvalidText⟩,
       na_InvalidText_at := na_InvalidText_at,
       x_InvalidText := ⟨⟨_, _, _, _, xf_ValueError, ⟨⟨_, _, _, _, _, _, _, _, _, _, _, _, _, _, _, lc_InvalidText, rv_InvalidText⟩, sa_InvalidText, ex_InvalidText, ty_InvalidText, kc_InvalidText⟩⟩, _, ai_InvalidText, ti_InvalidText, sup_InvalidText lc_InvalidText rv_InvalidText sa_InvalidText na_InvalidText_at lf_InvalidText ld_InvalidText hv_InvalidText hf_InvalidText ci_InvalidText lk_InvalidText (W.mg_none_of X G zz_super) zt_super zz_any si_InvalidText sv_InvalidText⟩,
       exm_InvalidBook_InvalidBook := W.exm_ref ex_InvalidBook hd_InvalidBook ty_InvalidBook su_InvalidBook_InvalidBook,
       exm_InvalidText_InvalidText := W.exm_ref ex_InvalidText hd_InvalidText ty_InvalidText su_InvalidText_InvalidText,
       isx_InvalidBook_HastyError := kit_ref cl_HastyError ty_HastyError su_InvalidBook_HastyError nq_InvalidBook_HastyError,
       isx_InvalidText_HastyError := kit_ref cl_HastyError ty_HastyError su_InvalidText_HastyError nq_InvalidText_HastyError,
       z_abs := W.mg_none_of X G z_abs,
       z_all := W.mg_none_of X G z_all,
       z_enumerate := W.mg_none_of X G z_enumerate,
       z_int := W.mg_none_of X G z_int,
       z_isinstance := W.mg_none_of X G z_isinstance,
       z_len := W.mg_none_of X G z_len,
       z_list := W.mg_none_of X G z_list,
       z_range := W.mg_none_of X G z_range,
       z_repr := W.mg_none_of X G z_repr,
       z_str := W.mg_none_of X G z_str,
       z_tuple := W.mg_none_of X G z_tuple,
       g_SMALL := ⟨tk_SMALL, W.mg_of X G a_nSMALL⟩,
       g_BARRED := W.mg_of X G a_nBARRED,
       r_BARRED := l_BARRED,
       re_Book_init_0 := le_Book_init_0,
       re_Book_init_1 := le_Book_init_1
     }⟩
def nms0 : List Str := ["_wall", "HastyError", "InvalidBook", "InvalidText", "SMALL", "BARRED", "is_name", "is_sequence", "are_names", "is_targets", "are_kinds", "are_some", "Book", "is_book_line", "may_follow", "_law_deal", "_law_draw", "_law_mixed", "_law_words", "_law_book", "_law_book_text", "_law_any", "_law_is_name", "_law_are_names", "_law_are_kinds", "_law_is_one_of", "_law_due", "_law_tried", "_law_bent"]
def nms : List Str := nms0
def asL : List Addr := upTo 1500 []
abbrev hk : W.Hook := hookX asL chs dfs
theorem runc0 (w : World) : HandSHeadRun.RunEq (W.OpenLaw.row PySem.Challenge.rw_hastypage_k03_books_refused) (W.view PySem.Challenge.pw_hastypage_k03_books_refused [33]) (hookX asL ([ts0, ts1, ts2, ts3, ts4, ts5]) ([])) (obX asL ([ts0, ts1, ts2, ts3, ts4, ts5]) ([])) 30000 nms w := by
  intro os
  kernel_rfl
theorem rund0 (w : World) : HandSHeadRun.RunEq (W.OpenLaw.row PySem.Challenge.rw_hastypage_k03_books_refused) (W.view PySem.Challenge.pw_hastypage_k03_books_refused [33]) (hookX asL ([]) (dfs0 ++ dfs1)) (obX asL ([]) (dfs0 ++ dfs1)) 30000 nms w := by
  intro os
  kernel_rfl
theorem run (w : World) : HandSHeadRun.RunEq (W.OpenLaw.row PySem.Challenge.rw_hastypage_k03_books_refused) (W.view PySem.Challenge.pw_hastypage_k03_books_refused [33]) hk (obX asL chs dfs) 30000 nms w := run_cat (chs := chs) (dfs := dfs) (c1 := [ts0, ts1, ts2, ts3, ts4, ts5]) (c2 := []) (d1 := []) (d2 := dfs0 ++ dfs1) rfl rfl (runc0 w) (rund0 w)
theorem law_of (hL : ∀ {P : Program} {w : World} {K : W.Frag} {mg : Str → Option Value} {base : Heap} (T : Tp P K mg), FnG P w K mg base 14 T.f_law T.d_law ["_law_script"] lawFS) : PySem.Challenge.rw_hastypage_k03_books_refused.Holds := by
  w_on; o_law
  refine HandSHeadRun.head_any (r := W.OpenLaw.row PySem.Challenge.rw_hastypage_k03_books_refused) (q := W.view PySem.Challenge.pw_hastypage_k03_books_refused [33]) (H := Kk.hk) (ob := Tr.obX Kk.asL Kk.chs Kk.dfs) (M := 30000) (loose := Kk.nms) (d := HandSHeadRun.topDef PySem.Challenge.pw_hastypage_k03_books_refused 33) (kwd := []) (Tr.obX_eq Kk.asL Kk.chs Kk.dfs)
    (by kernel_rfl) (fun s => by kernel_rfl) Kk.run (by kernel_rfl) (by kernel_rfl) (by kernel_rfl) (by rfl) (by first | assumption | decide +kernel) (by decide +kernel) ⟨rfl, rfl, rfl, rfl, rfl, by decide +kernel⟩ ?hw ?hc
  case hw => w_witness2
  case hc =>
    refine Tr.law_walkX (l := PySem.Challenge.rw_hastypage_k03_books_refused) (k := 14) (x := "_law_script") rfl (by kernel_rfl) ⟨⟨rfl, by decide, by decide⟩, rfl⟩ ?F
    intro w mg fa h K KX c G hmg0
    have hmg : mg ("law" : PySem.Str) = some (.ref fa) := by
      have e : (HandSHeadRun.topDef PySem.Challenge.pw_hastypage_k03_books_refused 33).name = ("law" : PySem.Str) := by kernel_rfl
      rw [← e]
      exact hmg0
    obtain ⟨T, eT⟩ := Kk.tp_fa hmg (Kk.tp_of KX G c)
    subst eT
    exact ⟨T.d_law, Kk.law_binds T, fun base _ _ => hL T⟩
end Kk

set_option maxHeartbeats 4000000
namespace Kk
open PySem L2 PySem.Spec PyProof.Rows Tr
set_option hygiene false
local macro_rules | `(tactic| walk_at "le") => `(tactic| repeat (first | exact LeR.nil | refine LeR.keep ?_ | refine LeR.drop ?_))
section
variable {P : Program} {w : World} {K : W.Frag} {mg : Str → Option Value} {base : Heap}
def w__law_deal_a2 (T : Tp P K mg) (x_cells : D) (Qx : QX) (Q : QE) (s1 : D) : MB := mRet (eDrop (eArgs (aCons (eApp (eLc1 (iApp (eVal x_cells) pIter) (fun x_cell1 => (tBin (eVal x_cell1) (eBin (eVal (.int 10)) (eVal (.int 18)) oPow) oGe)) (fun x_cell1 => (eVal x_cell1))) pRevC) (aCons (eVal s1) aNil)) pLstC)) Q
def w__law_deal_l1 (T : Tp P K mg)  (Qx : QX) (Q : QE) (d1 : D) (s1 : D) (nx1 : (D) → MB) (bk1 : (D) → MB) : MB := mSet (eBin (eArgs (aCons (eBin (eBin (eVal s1) (eVal (.int 16807)) oMul) (eBin (eArgs (aCons (eVal d1) aNil) (on1 pInt1)) (eVal (.int 2147483629)) oMod) oAdd) aNil) (on1 pInt1)) (eVal (.int 2147483647)) oMod) fun x_blend1 => mPart (nx1 x_blend1)
def w__law_deal (T : Tp P K mg) (x_script x_base : D) (Qx : QX) (Q : QE) : MB := mSet (eLc (iApp (eSl (eVal x_script) (oSome (eVal x_base)) (oSome (eVal (.int 63)))) pIter) (fun x_cell => (eArgs (aCons (eVal x_cell) aNil) (on1 pAbs1)))) fun x_cells => mSet (eBin (eVal (.int 15485863)) (eBin (eVal (.int 11)) (eVal x_base) oMul) oAdd) fun x_blend => mFor (α := D) (iApp (eVal x_cells) pIter) (w__law_deal_l1 T Qx Q) x_blend (w__law_deal_a2 T x_cells Qx Q)
def fw__law_deal (T : Tp P K mg) : FS := fun ds C Q Qx => match ds with
  | [x_script, x_base] => w__law_deal T x_script x_base Qx Q C
  | _ => False
theorem ok__law_deal (T : Tp P K mg) : FnG P w K mg base 1 T.f__law_deal T.d__law_deal ["_law_script", "_law_base"] (fw__law_deal T) := by
  refine fnT T.F__law_deal sc__law_deal (fun ds C Q Qx h => ?_) (fun cdv A outer s H E X ds C Q hr h => ?_)
  · unfold fw__law_deal at h; split at h
    · rfl
    · exact h.elim
  · unfold fw__law_deal at h; split at h
    rotate_left
    · exact h.elim
    have hN := sc__law_deal.nd
    have hu := hu_G hr
    have hg := hr.gd
    rename_i x_script x_base
    generalize hQx : (fun cls fs C' => ∀ ρ, X.XQ cls fs ρ C' : QX) = Qx at h
    have hX : ∀ ρ cls fs C, Qx cls fs C → X.XQ cls fs ρ C := by subst hQx; exact fun ρ cls fs C h => h ρ
    clear hQx
    revert h; revert C
    show SB X _ [some x_script, some x_base, none, none, none] (w__law_deal T x_script x_base Qx Q) _
    unfold w__law_deal
    first | refine sb_setLc (r := fun x_cells => [some x_script, some x_base, some x_cells, none, none]) [("_law_cell", 4)] (.one 4) 2 rfl hN rfl rfl (sw_true rfl rfl rfl rfl) (blkOk_by rfl) (fun _ _ _ _ _ => pg_name (i := 4) hN rfl (by first | exact .inl rfl | exact .inr rfl)) (by decide) (si_iter (se_slice (se_var 0 rfl (pv 0)) (so_some (se_var 1 rfl (pv 1))) (so_some se_int))) (bd_one (r := fun x_cell => [some x_script, some x_base, none, none, some x_cell]) (fun _ => rfl) (fun x_cell _ _ _ _ _ => (se_callB (id := "abs") rfl T.z_abs (by decide +kernel) (sa_cons (se_var 4 rfl (pv 4)) sa_nil) pAbs_ok))) (fun _ => rfl) (fun x_cells => ?_) | refine sb_set (r := fun x_cells => [some x_script, some x_base, some x_cells, none, none]) 2 hN rfl (by first | exact .inl rfl | exact .inr rfl) (fun _ => rfl) (se_lc [("_law_cell", 4)] (.one 4) rfl hN (blkOk_by rfl) (fun _ _ _ _ _ => pg_name (i := 4) hN rfl (by first | exact .inl rfl | exact .inr rfl)) (by decide) (si_iter (se_slice (se_var 0 rfl (pv 0)) (so_some (se_var 1 rfl (pv 1))) (so_some se_int))) (bd_one (r := fun x_cell => [some x_script, some x_base, none, none, some x_cell]) (fun _ => rfl) (fun x_cell _ _ _ _ _ => (se_callB (id := "abs") rfl T.z_abs (by decide +kernel) (sa_cons (se_var 4 rfl (pv 4)) sa_nil) pAbs_ok)))) (fun x_cells => ?_)
    refine sb_set (r := fun x_blend => [some x_script, some x_base, some x_cells, some x_blend, none]) 3 hN rfl (by first | exact .inl rfl | exact .inr rfl) (fun _ => rfl) (se_bin se_int (se_bin se_int (se_var 1 rfl (pv 1)) oMul_ok) oAdd_ok) (fun x_blend => ?_)
    refine sb_for (α := D) (fun s1 => [some x_script, some x_base, some x_cells, some s1, none]) rfl (si_iter (se_var 2 rfl (pv 2))) (by walk_at "le") (fun d1 s1 nx1 bk1 W V hW1 hV1 => ?_) (fun s1 => ?_)
    · unfold w__law_deal_l1
      refine sg_name (r := [some x_script, some x_base, some x_cells, some s1, some d1]) 4 rfl ?_ (pg_name (i := 4) hN rfl (by first | exact .inl rfl | exact .inr rfl))
      refine sb_set (r := fun x_blend1 => [some x_script, some x_base, some x_cells, some x_blend1, some d1]) 3 hN rfl (by first | exact .inl rfl | exact .inr rfl) (fun _ => rfl) (se_bin (se_callTy (id := "int") rfl T.z_int (by decide +kernel) (sa_cons (se_bin (se_bin (se_var 3 rfl (pv 3)) se_int oMul_ok) (se_bin (se_callTy (id := "int") rfl T.z_int (by decide +kernel) (sa_cons (se_var 4 rfl (pv 4)) sa_nil) pInt_ok) se_int oMod_ok) oAdd_ok) sa_nil) pInt_ok) se_int oMod_ok) (fun x_blend1 => ?_)
      refine sb_part ?_
      exact sb_le hW1 (by walk_at "le")
    · unfold w__law_deal_a2
      exact sb_ret (se_drop (se_lstC (sa_cons (se_revC (se_lc1 [("_law_cell", 4)] (.one 4) rfl hN (blkOk_by rfl) (fun _ _ _ _ _ => pg_name (i := 4) hN rfl (by first | exact .inl rfl | exact .inr rfl)) (by decide) (si_iter (se_var 2 rfl (pv 2))) (bdT_one (r := fun x_cell1 => [some x_script, some x_base, some x_cells, some s1, some x_cell1]) (fun _ => rfl) (fun x_cell1 _ _ _ _ _ => (st_cmp (se_var 4 rfl (pv 4)) (se_bin se_int se_int oPow_ok) oGe_ok))) (bd_one (r := fun x_cell1 => [some x_script, some x_base, some x_cells, some s1, some x_cell1]) (fun _ => rfl) (fun x_cell1 _ _ _ _ _ => (se_var 4 rfl (pv 4)))))) (sa_cons (se_var 3 rfl (pv 3)) sa_nil)))) (fun _ _ h => h)
def w__law_draw_t1 (T : Tp P K mg) (x_deal_here : D) (Qx : QX) (Q : QE) (s1 : Unit) : MT := (tAnd (tBin (eBin (eVal x_deal_here) (eVal (.int 0)) pIx) (eArgs aNil pLst) (oNe noOwn)) (tBin (eBin (eBin (eVal x_deal_here) (eVal (.int 0)) pIx) (eApp (eVal (.int 1)) pNeg) pIx) (eVal (.int 0)) (oEq noOwn)))
def w__law_draw_a3 (T : Tp P K mg) (x_deal_here : D) (x_amount : D) (Qx : QX) (Q : QE) (s1 : Unit) : MB := mIf (tBin (eBin (eVal x_deal_here) (eVal (.int 0)) pIx) (eArgs aNil pLst) (oNe noOwn)) (mSet (eApp (eBin (eVal x_deal_here) (eVal (.int 0)) pIx) pPop) fun x_left => mExp (eL1 (eBin (eVal x_deal_here) (eVal (.int 0)) pIx) (eBin (eVal x_left) (eVal x_amount) oFdiv) pApp) (mRet (eBin (eArgs (aCons (eVal x_left) aNil) (on1 pInt1)) (eVal x_amount) oMod) Q)) (mSet (eBin (eArgs (aCons (eBin (eBin (eBin (eVal x_deal_here) (eVal (.int 1)) pIx) (eVal (.int 48271)) oMul) (eVal (.int 11)) oAdd) aNil) (on1 pInt1)) (eVal (.int 2147483647)) oMod) fun x_d => mSub (eVal x_deal_here) (eVal (.int 1)) x_d (mRet (eBin (eArgs (aCons (eBin (eBin (eVal x_deal_here) (eVal (.int 1)) pIx) (eVal (.int 8)) oFdiv) aNil) (on1 pInt1)) (eVal x_amount) oMod) Q))
def w__law_draw_l2 (T : Tp P K mg) (x_deal_here : D) (Qx : QX) (Q : QE) (s1 : Unit) (nx1 : (Unit) → MB) (bk1 : (Unit) → MB) : MB := mExp (eApp (eBin (eVal x_deal_here) (eVal (.int 0)) pIx) pPop) (mPart (nx1 ()))
def w__law_draw (T : Tp P K mg) (x_deal_here x_amount : D) (Qx : QX) (Q : QE) : MB := mWhile (α := Unit) (w__law_draw_t1 T x_deal_here Qx Q) (w__law_draw_l2 T x_deal_here Qx Q) () (w__law_draw_a3 T x_deal_here x_amount Qx Q)
def fw__law_draw (T : Tp P K mg) : FS := fun ds C Q Qx => match ds with
  | [x_deal_here, x_amount] => w__law_draw T x_deal_here x_amount Qx Q C
  | _ => False
theorem ok__law_draw (T : Tp P K mg) : FnG P w K mg base 1 T.f__law_draw T.d__law_draw ["_law_deal_here", "_law_amount"] (fw__law_draw T) := by
  refine fnT T.F__law_draw sc__law_draw (fun ds C Q Qx h => ?_) (fun cdv A outer s H E X ds C Q hr h => ?_)
  · unfold fw__law_draw at h; split at h
    · rfl
    · exact h.elim
  · unfold fw__law_draw at h; split at h
    rotate_left
    · exact h.elim
    have hN := sc__law_draw.nd
    have hu := hu_G hr
    have hg := hr.gd
    rename_i x_deal_here x_amount
    generalize hQx : (fun cls fs C' => ∀ ρ, X.XQ cls fs ρ C' : QX) = Qx at h
    have hX : ∀ ρ cls fs C, Qx cls fs C → X.XQ cls fs ρ C := by subst hQx; exact fun ρ cls fs C h => h ρ
    clear hQx
    revert h; revert C
    show SB X _ [some x_deal_here, some x_amount, none] (w__law_draw T x_deal_here x_amount Qx Q) _
    unfold w__law_draw
    refine sb_while (α := Unit) (fun s1 => [some x_deal_here, some x_amount, none]) (by walk_at "le") (fun s1 => ?_) (fun s1 nx1 bk1 W V hW1 hV1 => ?_) (fun s1 => ?_)
    · unfold w__law_draw_t1
      exact (st_p (sp_and (st_cmp (se_ix (se_var 0 rfl (pv 0)) se_int) (se_lst sa_nil) (oNe_ok hu noOwn_ok)) (sp_and1 (st_cmp (se_ix (se_ix (se_var 0 rfl (pv 0)) se_int) (se_neg se_int)) se_int (oEq_ok hu noOwn_ok)))))
    · unfold w__law_draw_l2
      refine sb_exp (se_pop (se_ix (se_var 0 rfl (pv 0)) se_int)) ?_
      refine sb_part ?_
      exact sb_le hW1 (by walk_at "le")
    · unfold w__law_draw_a3
      refine sb_if (st_cmp (se_ix (se_var 0 rfl (pv 0)) se_int) (se_lst sa_nil) (oNe_ok hu noOwn_ok)) ?_ ?_
      · refine sb_set (r := fun x_left => [some x_deal_here, some x_amount, some x_left]) 2 hN rfl (by first | exact .inl rfl | exact .inr rfl) (fun _ => rfl) (se_pop (se_ix (se_var 0 rfl (pv 0)) se_int)) (fun x_left => ?_)
        refine sb_exp (se_append (se_ix (se_var 0 rfl (pv 0)) se_int) (se_bin (se_var 2 rfl (pv 2)) (se_var 1 rfl (pv 1)) oFdiv_ok)) ?_
        exact sb_ret (se_bin (se_callTy (id := "int") rfl T.z_int (by decide +kernel) (sa_cons (se_var 2 rfl (pv 2)) sa_nil) pInt_ok) (se_var 1 rfl (pv 1)) oMod_ok) (fun _ _ h => h)
      · refine sb_more ?_
        refine sb_asg (se_bin (se_callTy (id := "int") rfl T.z_int (by decide +kernel) (sa_cons (se_bin (se_bin (se_ix (se_var 0 rfl (pv 0)) se_int) se_int oMul_ok) se_int oAdd_ok) sa_nil) pInt_ok) se_int oMod_ok) (fun x_d => ?_)
        refine sg_sub (se_var 0 rfl (pv 0)) se_int ?_
        exact sb_ret (se_bin (se_callTy (id := "int") rfl T.z_int (by decide +kernel) (sa_cons (se_bin (se_ix (se_var 0 rfl (pv 0)) se_int) se_int oFdiv_ok) sa_nil) pInt_ok) (se_var 1 rfl (pv 1)) oMod_ok) (fun _ _ h => h)
def w__law_mixed_t1 (T : Tp P K mg) (x_left : D) (Qx : QX) (Q : QE) (s1 : Unit) : MT := (tBin (eVal x_left) (eArgs aNil pLst) (oNe noOwn))
def w__law_mixed_a3 (T : Tp P K mg) (x_found : D) (Qx : QX) (Q : QE) (s1 : Unit) : MB := mFrz x_found fun x_found1 => mRet (eDrop (eVal x_found1)) Q
def w__law_mixed_l2 (T : Tp P K mg) (x_deal_here : D) (x_left : D) (x_found : D) (Qx : QX) (Q : QE) (s1 : Unit) (nx1 : (Unit) → MB) (bk1 : (Unit) → MB) : MB := mExp (eL1 (eVal x_found) (eL1 (eVal x_left) (eArgs (aCons (eVal x_deal_here) (aCons (eArgs (aCons (eVal x_left) aNil) (on1 (pLen1 no1))) aNil)) fun ds => callW (fw__law_draw T) Qx (ds ++ [])) pPopAt) pApp) (mPart (nx1 ()))
def w__law_mixed (T : Tp P K mg) (x_deal_here x_some : D) (Qx : QX) (Q : QE) : MB := mSet (eArgs (aCons (eVal x_some) aNil) (on1 pListC1)) fun x_left => mSet (eArgs aNil pLstC) fun x_found => mWhile (α := Unit) (w__law_mixed_t1 T x_left Qx Q) (w__law_mixed_l2 T x_deal_here x_left x_found Qx Q) () (w__law_mixed_a3 T x_found Qx Q)
def fw__law_mixed (T : Tp P K mg) : FS := fun ds C Q Qx => match ds with
  | [x_deal_here, x_some] => w__law_mixed T x_deal_here x_some Qx Q C
  | _ => False
theorem ok__law_mixed (T : Tp P K mg) : FnG P w K mg base 2 T.f__law_mixed T.d__law_mixed ["_law_deal_here", "_law_some"] (fw__law_mixed T) := by
  refine fnT T.F__law_mixed sc__law_mixed (fun ds C Q Qx h => ?_) (fun cdv A outer s H E X ds C Q hr h => ?_)
  · unfold fw__law_mixed at h; split at h
    · rfl
    · exact h.elim
  · unfold fw__law_mixed at h; split at h
    rotate_left
    · exact h.elim
    have hN := sc__law_mixed.nd
    have hu := hu_G hr
    have hg := hr.gd
    rename_i x_deal_here x_some
    generalize hQx : (fun cls fs C' => ∀ ρ, X.XQ cls fs ρ C' : QX) = Qx at h
    have hX : ∀ ρ cls fs C, Qx cls fs C → X.XQ cls fs ρ C := by subst hQx; exact fun ρ cls fs C h => h ρ
    clear hQx
    revert h; revert C
    show SB X _ [some x_deal_here, some x_some, none, none] (w__law_mixed T x_deal_here x_some Qx Q) _
    unfold w__law_mixed
    refine sb_par (r := fun x_left x_found => [some x_deal_here, some x_some, some x_left, some x_found]) 2 3 hN rfl rfl (by decide) rfl rfl rfl (se_callTy (id := "list") rfl T.z_list (by decide +kernel) (sa_cons (se_var 1 rfl (pv 1)) sa_nil) pListC_ok) (se_lstC sa_nil) (fun _ _ => rfl) (fun x_left x_found => ?_)
    refine sb_while (α := Unit) (fun s1 => [some x_deal_here, some x_some, some x_left, some x_found]) (by walk_at "le") (fun s1 => ?_) (fun s1 nx1 bk1 W V hW1 hV1 => ?_) (fun s1 => ?_)
    · unfold w__law_mixed_t1
      exact (st_cmp (se_var 2 rfl (pv 2)) (se_lst sa_nil) (oNe_ok hu noOwn_ok))
    · unfold w__law_mixed_l2
      refine sb_exp (se_append (se_var 3 rfl (pv 3)) (se_popAt (se_var 2 rfl (pv 2)) (se_call (dds := []) (ok__law_draw T) (hr.mono (by omega)) rfl T.g__law_draw T.F__law_draw.kp T.b__law_draw .nil (fun _ => Reps.nil) (hX _) (sa_cons (se_var 0 rfl (pv 0)) (sa_cons (se_callB (id := "len") rfl T.z_len (by decide +kernel) (sa_cons (se_var 2 rfl (pv 2)) sa_nil) (pLen_ok no1_ok)) sa_nil))))) ?_
      refine sb_part ?_
      exact sb_le hW1 (by walk_at "le")
    · unfold w__law_mixed_a3
      refine sb_frz (r := fun x_found1 => [some x_deal_here, some x_some, some x_left, some x_found1]) 3 rfl (fun _ => rfl) (fun x_found1 => ?_)
      exact sb_ret (se_drop (se_var 3 rfl (pv 3))) (fun _ _ h => h)
def w__law_words (T : Tp P K mg) (x_deal_here x_many : D) (Qx : QX) (Q : QE) : MB := mSet (eArgs (aCons (eVal (.str "on")) (aCons (eVal (.str "off")) (aCons (eVal (.str "a")) (aCons (eVal (.str "b")) (aCons (eVal (.str "like")) (aCons (eVal (.str "zzzz")) (aCons (eVal (.str "list")) (aCons (eVal (.str "old")) (aCons (eVal (.str "all")) (aCons (eVal (.str "open")) (aCons (eVal (.str "take")) (aCons (eVal (.str "drop")) (aCons (eVal (.str "kind")) (aCons (eVal (.str "abc")) aNil)))))))))))))) pLst) fun x_some => mSet (eBin (eVal x_some) (eArgs (aCons (eVal (.str "xyz")) (aCons (eVal (.str "mv")) (aCons (eVal (.str "gh")) (aCons (eVal (.str "w")) (aCons (eVal (.str "tri")) (aCons (eVal (.str "nu")) (aCons (eVal (.str "pqrs")) (aCons (eVal (.str "ej")) aNil)))))))) pLst) oAdd) fun x_some1 => mRet (eSl (eArgs (aCons (eVal x_deal_here) (aCons (eVal x_some1) aNil)) fun ds => callW (fw__law_mixed T) Qx (ds ++ [])) oNone (oSome (eVal x_many))) Q
def fw__law_words (T : Tp P K mg) : FS := fun ds C Q Qx => match ds with
  | [x_deal_here, x_many] => w__law_words T x_deal_here x_many Qx Q C
  | _ => False
theorem ok__law_words (T : Tp P K mg) : FnG P w K mg base 3 T.f__law_words T.d__law_words ["_law_deal_here", "_law_many"] (fw__law_words T) := by
  refine fnT T.F__law_words sc__law_words (fun ds C Q Qx h => ?_) (fun cdv A outer s H E X ds C Q hr h => ?_)
  · unfold fw__law_words at h; split at h
    · rfl
    · exact h.elim
  · unfold fw__law_words at h; split at h
    rotate_left
    · exact h.elim
    have hN := sc__law_words.nd
    have hu := hu_G hr
    have hg := hr.gd
    rename_i x_deal_here x_many
    generalize hQx : (fun cls fs C' => ∀ ρ, X.XQ cls fs ρ C' : QX) = Qx at h
    have hX : ∀ ρ cls fs C, Qx cls fs C → X.XQ cls fs ρ C := by subst hQx; exact fun ρ cls fs C h => h ρ
    clear hQx
    revert h; revert C
    show SB X _ [some x_deal_here, some x_many, none] (w__law_words T x_deal_here x_many Qx Q) _
    unfold w__law_words
    refine sb_set (r := fun x_some => [some x_deal_here, some x_many, some x_some]) 2 hN rfl (by first | exact .inl rfl | exact .inr rfl) (fun _ => rfl) (se_lst (sa_cons se_str (sa_cons se_str (sa_cons se_str (sa_cons se_str (sa_cons se_str (sa_cons se_str (sa_cons se_str (sa_cons se_str (sa_cons se_str (sa_cons se_str (sa_cons se_str (sa_cons se_str (sa_cons se_str (sa_cons se_str sa_nil))))))))))))))) (fun x_some => ?_)
    refine sb_set (r := fun x_some1 => [some x_deal_here, some x_many, some x_some1]) 2 hN rfl (by first | exact .inl rfl | exact .inr rfl) (fun _ => rfl) (se_bin (se_var 2 rfl (pv 2)) (se_lst (sa_cons se_str (sa_cons se_str (sa_cons se_str (sa_cons se_str (sa_cons se_str (sa_cons se_str (sa_cons se_str (sa_cons se_str sa_nil))))))))) oAdd_ok) (fun x_some1 => ?_)
    exact sb_ret (se_slice (se_call (dds := []) (ok__law_mixed T) (hr.mono (by omega)) rfl T.g__law_mixed T.F__law_mixed.kp T.b__law_mixed .nil (fun _ => Reps.nil) (hX _) (sa_cons (se_var 0 rfl (pv 0)) (sa_cons (se_var 2 rfl (pv 2)) sa_nil))) so_none (so_some (se_var 1 rfl (pv 1)))) (fun _ _ h => h)
def w__law_book_a2 (T : Tp P K mg) (x_deal_here : D) (x_some : D) (x_names : D) (x_kinds : D) (Qx : QX) (Q : QE) (s1 : Unit) : MB := mSet (eSl (eArgs (aCons (eVal x_deal_here) (aCons (eVal x_names) aNil)) fun ds => callW (fw__law_mixed T) Qx (ds ++ [])) oNone (oSome (eArgs (aCons (eVal x_deal_here) (aCons (eBin (eArgs (aCons (eVal x_names) aNil) (on1 (pLen1 no1))) (eVal (.int 1)) oAdd) aNil)) fun ds => callW (fw__law_draw T) Qx (ds ++ [])))) fun x_loose => mFrz x_kinds fun x_kinds1 => mRet (eDrop (eArgs (aCons (eVal x_some) (aCons (eVal x_kinds1) (aCons (eVal x_loose) (aCons (eSl (eArgs (aCons (eVal x_deal_here) (aCons (eVal x_names) aNil)) fun ds => callW (fw__law_mixed T) Qx (ds ++ [])) oNone (oSome (eArgs (aCons (eVal x_deal_here) (aCons (eBin (eArgs (aCons (eVal x_names) aNil) (on1 (pLen1 no1))) (eVal (.int 1)) oAdd) aNil)) fun ds => callW (fw__law_draw T) Qx (ds ++ [])))) aNil)))) pTup)) Q
def w__law_book_l1 (T : Tp P K mg) (x_deal_here : D) (x_some : D) (x_kinds : D) (Qx : QX) (Q : QE) (d1 : D) (s1 : Unit) (nx1 : (Unit) → MB) (bk1 : (Unit) → MB) : MB := mExp (eL1 (eVal x_kinds) (eArgs (aCons (eVal d1) (aCons (eLc (iApp (eVal x_some) pIter) (fun x_one => (eBin (eBin (eVal x_some) (eArgs (aCons (eVal .non) aNil) pLst) oAdd) (eArgs (aCons (eVal x_deal_here) (aCons (eBin (eArgs (aCons (eVal x_some) aNil) (on1 (pLen1 no1))) (eVal (.int 1)) oAdd) aNil)) fun ds => callW (fw__law_draw T) (fun _ _ _ => False) (ds ++ [])) pIx))) aNil)) pTup) pApp) (mPart (nx1 ()))
def w__law_book (T : Tp P K mg) (x_deal_here x_most : D) (Qx : QX) (Q : QE) : MB := mSet (eArgs (aCons (eVal x_deal_here) (aCons (eBin (eVal (.int 1)) (eArgs (aCons (eVal x_deal_here) (aCons (eVal x_most) aNil)) fun ds => callW (fw__law_draw T) Qx (ds ++ [])) oAdd) aNil)) fun ds => callW (fw__law_words T) Qx (ds ++ [])) fun x_some => mSet (eArgs (aCons (eVal x_deal_here) (aCons (eArgs (aCons (eVal x_deal_here) (aCons (eBin (eVal x_most) (eVal (.int 1)) oAdd) aNil)) fun ds => callW (fw__law_draw T) Qx (ds ++ [])) aNil)) fun ds => callW (fw__law_words T) Qx (ds ++ [])) fun x_names => mSet (eArgs aNil pLstC) fun x_kinds => mFor (α := Unit) (iApp (eVal x_names) pIter) (w__law_book_l1 T x_deal_here x_some x_kinds Qx Q) () (w__law_book_a2 T x_deal_here x_some x_names x_kinds Qx Q)
def fw__law_book (T : Tp P K mg) : FS := fun ds C Q Qx => match ds with
  | [x_deal_here, x_most] => w__law_book T x_deal_here x_most Qx Q C
  | _ => False
theorem ok__law_book (T : Tp P K mg) : FnG P w K mg base 4 T.f__law_book T.d__law_book ["_law_deal_here", "_law_most"] (fw__law_book T) := by
  refine fnT T.F__law_book sc__law_book (fun ds C Q Qx h => ?_) (fun cdv A outer s H E X ds C Q hr h => ?_)
  · unfold fw__law_book at h; split at h
    · rfl
    · exact h.elim
  · unfold fw__law_book at h; split at h
    rotate_left
    · exact h.elim
    have hN := sc__law_book.nd
    have hu := hu_G hr
    have hg := hr.gd
    rename_i x_deal_here x_most
    generalize hQx : (fun cls fs C' => ∀ ρ, X.XQ cls fs ρ C' : QX) = Qx at h
    have hX : ∀ ρ cls fs C, Qx cls fs C → X.XQ cls fs ρ C := by subst hQx; exact fun ρ cls fs C h => h ρ
    clear hQx
    revert h; revert C
    show SB X _ [some x_deal_here, some x_most, none, none, none, none, none, none] (w__law_book T x_deal_here x_most Qx Q) _
    unfold w__law_book
    refine sb_set (r := fun x_some => [some x_deal_here, some x_most, some x_some, none, none, none, none, none]) 2 hN rfl (by first | exact .inl rfl | exact .inr rfl) (fun _ => rfl) (se_call (dds := []) (ok__law_words T) (hr.mono (by omega)) rfl T.g__law_words T.F__law_words.kp T.b__law_words .nil (fun _ => Reps.nil) (hX _) (sa_cons (se_var 0 rfl (pv 0)) (sa_cons (se_bin se_int (se_call (dds := []) (ok__law_draw T) (hr.mono (by omega)) rfl T.g__law_draw T.F__law_draw.kp T.b__law_draw .nil (fun _ => Reps.nil) (hX _) (sa_cons (se_var 0 rfl (pv 0)) (sa_cons (se_var 1 rfl (pv 1)) sa_nil))) oAdd_ok) sa_nil))) (fun x_some => ?_)
    refine sb_set (r := fun x_names => [some x_deal_here, some x_most, some x_some, some x_names, none, none, none, none]) 3 hN rfl (by first | exact .inl rfl | exact .inr rfl) (fun _ => rfl) (se_call (dds := []) (ok__law_words T) (hr.mono (by omega)) rfl T.g__law_words T.F__law_words.kp T.b__law_words .nil (fun _ => Reps.nil) (hX _) (sa_cons (se_var 0 rfl (pv 0)) (sa_cons (se_call (dds := []) (ok__law_draw T) (hr.mono (by omega)) rfl T.g__law_draw T.F__law_draw.kp T.b__law_draw .nil (fun _ => Reps.nil) (hX _) (sa_cons (se_var 0 rfl (pv 0)) (sa_cons (se_bin (se_var 1 rfl (pv 1)) se_int oAdd_ok) sa_nil))) sa_nil))) (fun x_names => ?_)
    refine sb_set (r := fun x_kinds => [some x_deal_here, some x_most, some x_some, some x_names, some x_kinds, none, none, none]) 4 hN rfl (by first | exact .inl rfl | exact .inr rfl) (fun _ => rfl) (se_lstC sa_nil) (fun x_kinds => ?_)
    refine sb_for (α := Unit) (fun s1 => [some x_deal_here, some x_most, some x_some, some x_names, some x_kinds, none, none, none]) rfl (si_iter (se_var 3 rfl (pv 3))) (by walk_at "le") (fun d1 s1 nx1 bk1 W V hW1 hV1 => ?_) (fun s1 => ?_)
    · unfold w__law_book_l1
      refine sg_name (r := [some x_deal_here, some x_most, some x_some, some x_names, some x_kinds, some d1, none, none]) 5 rfl ?_ (pg_name (i := 5) hN rfl (by first | exact .inl rfl | exact .inr rfl))
      refine sb_exp (se_append (se_var 4 rfl (pv 4)) (se_tup (sa_cons (se_var 5 rfl (pv 5)) (sa_cons (se_lc [("_law_one", 7)] (.one 7) rfl hN (blkOk_by rfl) (fun _ _ _ _ _ => pg_name (i := 7) hN rfl (by first | exact .inl rfl | exact .inr rfl)) (by decide) (si_iter (se_var 2 rfl (pv 2))) (bd_one (r := fun x_one => [some x_deal_here, some x_most, some x_some, some x_names, some x_kinds, some d1, none, some x_one]) (fun _ => rfl) (fun x_one _ _ _ _ _ => (se_ix (se_bin (se_var 2 rfl (pv 2)) (se_lst (sa_cons se_non sa_nil)) oAdd_ok) (se_call (dds := []) (ok__law_draw T) (hr.mono (by omega)) rfl T.g__law_draw T.F__law_draw.kp T.b__law_draw .nil (fun _ => Reps.nil) (fun _ _ _ h => h.elim) (sa_cons (se_var 0 rfl (pv 0)) (sa_cons (se_bin (se_callB (id := "len") rfl T.z_len (by decide +kernel) (sa_cons (se_var 2 rfl (pv 2)) sa_nil) (pLen_ok no1_ok)) se_int oAdd_ok) sa_nil))))))) sa_nil)))) ?_
      refine sb_part ?_
      exact sb_le hW1 (by walk_at "le")
    · unfold w__law_book_a2
      refine sb_set (r := fun x_loose => [some x_deal_here, some x_most, some x_some, some x_names, some x_kinds, none, some x_loose, none]) 6 hN rfl (by first | exact .inl rfl | exact .inr rfl) (fun _ => rfl) (se_slice (se_call (dds := []) (ok__law_mixed T) (hr.mono (by omega)) rfl T.g__law_mixed T.F__law_mixed.kp T.b__law_mixed .nil (fun _ => Reps.nil) (hX _) (sa_cons (se_var 0 rfl (pv 0)) (sa_cons (se_var 3 rfl (pv 3)) sa_nil))) so_none (so_some (se_call (dds := []) (ok__law_draw T) (hr.mono (by omega)) rfl T.g__law_draw T.F__law_draw.kp T.b__law_draw .nil (fun _ => Reps.nil) (hX _) (sa_cons (se_var 0 rfl (pv 0)) (sa_cons (se_bin (se_callB (id := "len") rfl T.z_len (by decide +kernel) (sa_cons (se_var 3 rfl (pv 3)) sa_nil) (pLen_ok no1_ok)) se_int oAdd_ok) sa_nil))))) (fun x_loose => ?_)
      refine sb_frz (r := fun x_kinds1 => [some x_deal_here, some x_most, some x_some, some x_names, some x_kinds1, none, some x_loose, none]) 4 rfl (fun _ => rfl) (fun x_kinds1 => ?_)
      exact sb_ret (se_drop (se_tup (sa_cons (se_var 2 rfl (pv 2)) (sa_cons (se_var 4 rfl (pv 4)) (sa_cons (se_var 6 rfl (pv 6)) (sa_cons (se_slice (se_call (dds := []) (ok__law_mixed T) (hr.mono (by omega)) rfl T.g__law_mixed T.F__law_mixed.kp T.b__law_mixed .nil (fun _ => Reps.nil) (hX _) (sa_cons (se_var 0 rfl (pv 0)) (sa_cons (se_var 3 rfl (pv 3)) sa_nil))) so_none (so_some (se_call (dds := []) (ok__law_draw T) (hr.mono (by omega)) rfl T.g__law_draw T.F__law_draw.kp T.b__law_draw .nil (fun _ => Reps.nil) (hX _) (sa_cons (se_var 0 rfl (pv 0)) (sa_cons (se_bin (se_callB (id := "len") rfl T.z_len (by decide +kernel) (sa_cons (se_var 3 rfl (pv 3)) sa_nil) (pLen_ok no1_ok)) se_int oAdd_ok) sa_nil))))) sa_nil)))))) (fun _ _ h => h)
def w_is_sequence (T : Tp P K mg) (x_value : D) (Qx : QX) (Q : QE) : MB := mRet (eArgs (aCons (eVal x_value) (aCons (eArgs (aCons (eVal (.raw (.ty "list"))) (aCons (eVal (.raw (.ty "tuple"))) aNil)) pTup) aNil)) (on2 (pIsI K))) Q
def fw_is_sequence (T : Tp P K mg) : FS := fun ds C Q Qx => match ds with
  | [x_value] => w_is_sequence T x_value Qx Q C
  | _ => False
theorem ok_is_sequence (T : Tp P K mg) : FnG P w K mg base 1 T.f_is_sequence T.d_is_sequence ["value"] (fw_is_sequence T) := by
  refine fnT T.F_is_sequence sc_is_sequence (fun ds C Q Qx h => ?_) (fun cdv A outer s H E X ds C Q hr h => ?_)
  · unfold fw_is_sequence at h; split at h
    · rfl
    · exact h.elim
  · unfold fw_is_sequence at h; split at h
    rotate_left
    · exact h.elim
    have hN := sc_is_sequence.nd
    have hu := hu_G hr
    have hg := hr.gd
    rename_i x_value
    generalize hQx : (fun cls fs C' => ∀ ρ, X.XQ cls fs ρ C' : QX) = Qx at h
    have hX : ∀ ρ cls fs C, Qx cls fs C → X.XQ cls fs ρ C := by subst hQx; exact fun ρ cls fs C h => h ρ
    clear hQx
    revert h; revert C
    show SB X _ [some x_value] (w_is_sequence T x_value Qx Q) _
    unfold w_is_sequence
    exact sb_ret (se_callB (id := "isinstance") rfl T.z_isinstance (by decide +kernel) (sa_cons (se_var 0 rfl (pv 0)) (sa_cons (se_tup (sa_cons (se_ty rfl T.z_list (by decide +kernel)) (sa_cons (se_ty rfl T.z_tuple (by decide +kernel)) sa_nil))) sa_nil)) pIsI_ok) (fun _ _ h => h)
def w_is_name (T : Tp P K mg) (x_value : D) (Qx : QX) (Q : QE) : MB := mIf (tOr (tNot (tVal (eArgs (aCons (eVal x_value) (aCons (eVal (.raw (.ty "str"))) aNil)) (on2 (pIsI K))))) (tOr (tNot (tChain (eVal (.int 1)) (eArgs (aCons (eVal x_value) aNil) (on1 (pLen1 no1))) (eVal (.int 4)) oLe oLe)) (tBin (eVal x_value) (eVal (.tup (barred.map D.str))) oIn))) (mRet (eVal (.bl false)) Q) (mRet (eArgs (aCons (eLc (iApp (eVal x_value) pIterS) (fun x_letter => (eBin (eVal x_letter) (eVal (.str small)) oIn))) aNil) (on1 pAll1)) Q)
def fw_is_name (T : Tp P K mg) : FS := fun ds C Q Qx => match ds with
  | [x_value] => w_is_name T x_value Qx Q C
  | _ => False
theorem ok_is_name (T : Tp P K mg) : FnG P w K mg base 1 T.f_is_name T.d_is_name ["value"] (fw_is_name T) := by
  refine fnT T.F_is_name sc_is_name (fun ds C Q Qx h => ?_) (fun cdv A outer s H E X ds C Q hr h => ?_)
  · unfold fw_is_name at h; split at h
    · rfl
    · exact h.elim
  · unfold fw_is_name at h; split at h
    rotate_left
    · exact h.elim
    have hN := sc_is_name.nd
    have hu := hu_G hr
    have hg := hr.gd
    rename_i x_value
    generalize hQx : (fun cls fs C' => ∀ ρ, X.XQ cls fs ρ C' : QX) = Qx at h
    have hX : ∀ ρ cls fs C, Qx cls fs C → X.XQ cls fs ρ C := by subst hQx; exact fun ρ cls fs C h => h ρ
    clear hQx
    revert h; revert C
    show SB X _ [some x_value, none] (w_is_name T x_value Qx Q) _
    unfold w_is_name
    refine sb_if (st_p (sp_or (st_not (st_val (se_callB (id := "isinstance") rfl T.z_isinstance (by decide +kernel) (sa_cons (se_var 0 rfl (pv 0)) (sa_cons (se_ty rfl T.z_str (by decide +kernel)) sa_nil)) pIsI_ok))) (sp_or (st_not (st_chain se_int (se_callB (id := "len") rfl T.z_len (by decide +kernel) (sa_cons (se_var 0 rfl (pv 0)) sa_nil) (pLen_ok no1_ok)) se_int oLe_ok oLe_ok)) (sp_or1 (st_cmp (se_var 0 rfl (pv 0)) (se_glob (d := .tup (barred.map D.str)) (pe_glob (v := .ref T.a_BARRED) rfl T.g_BARRED rfl) T.r_BARRED) oIn_ok))))) ?_ ?_
    · exact sb_ret se_bl (fun _ _ h => h)
    · refine sb_more ?_
      exact sb_ret (se_callB (id := "all") rfl T.z_all (by decide +kernel) (sa_cons (se_lc [("letter", 1)] (.one 1) rfl hN (blkOk_by rfl) (fun _ _ _ _ _ => pg_name (i := 1) hN rfl (by first | exact .inl rfl | exact .inr rfl)) (by decide) (si_iterS (se_var 0 rfl (pv 0))) (bd_one (r := fun x_letter => [some x_value, some x_letter]) (fun _ => rfl) (fun x_letter _ _ _ _ _ => (se_cmp (se_var 1 rfl (pv 1)) (se_globS rfl T.g_SMALL) oIn_ok)))) sa_nil) (pAll_ok rfl)) (fun _ _ h => h)
def w_are_names (T : Tp P K mg) (x_value : D) (Qx : QX) (Q : QE) : MB := mIf (tNot (tVal (eArgs (aCons (eVal x_value) aNil) fun ds => callW (fw_is_sequence T) Qx (ds ++ [])))) (mRet (eVal (.bl false)) Q) (mRet (eArgs (aCons (eLc (iApp (eVal x_value) pEnum) (fun d => un2 d fun x_at x_name => (eAnd (eArgs (aCons (eVal x_name) aNil) fun ds => callW (fw_is_name T) (fun _ _ _ => False) (ds ++ [])) (eBin (eVal x_name) (eSl (eVal x_value) oNone (oSome (eVal x_at))) oNotInP)))) aNil) (on1 pAll1)) Q)
def fw_are_names (T : Tp P K mg) : FS := fun ds C Q Qx => match ds with
  | [x_value] => w_are_names T x_value Qx Q C
  | _ => False
theorem cl_are_names (T : Tp P K mg) {x_value : D} {Qx : QX} {C : Cells} {Q : QE} (h : w_are_names T x_value Qx Q C) : callW (fw_are_names T) Qx [x_value] C Q := call_all h
theorem ok_are_names (T : Tp P K mg) : FnG P w K mg base 2 T.f_are_names T.d_are_names ["value"] (fw_are_names T) := by
  refine fnT T.F_are_names sc_are_names (fun ds C Q Qx h => ?_) (fun cdv A outer s H E X ds C Q hr h => ?_)
  · unfold fw_are_names at h; split at h
    · rfl
    · exact h.elim
  · unfold fw_are_names at h; split at h
    rotate_left
    · exact h.elim
    have hN := sc_are_names.nd
    have hu := hu_G hr
    have hg := hr.gd
    rename_i x_value
    generalize hQx : (fun cls fs C' => ∀ ρ, X.XQ cls fs ρ C' : QX) = Qx at h
    have hX : ∀ ρ cls fs C, Qx cls fs C → X.XQ cls fs ρ C := by subst hQx; exact fun ρ cls fs C h => h ρ
    clear hQx
    revert h; revert C
    show SB X _ [some x_value, none, none] (w_are_names T x_value Qx Q) _
    unfold w_are_names
    refine sb_if (st_not (st_val (se_call (dds := []) (ok_is_sequence T) (hr.mono (by omega)) rfl T.g_is_sequence T.F_is_sequence.kp T.b_is_sequence .nil (fun _ => Reps.nil) (hX _) (sa_cons (se_var 0 rfl (pv 0)) sa_nil)))) ?_ ?_
    · exact sb_ret se_bl (fun _ _ h => h)
    · refine sb_more ?_
      exact sb_ret (se_callB (id := "all") rfl T.z_all (by decide +kernel) (sa_cons (se_lc [("at", 1), ("name", 2)] (.tup [1, 2]) rfl hN (blkOk_by rfl) (fun _ _ _ _ _ => pg_tup rfl (pgs_cons (pg_name (i := 1) hN rfl (by first | exact .inl rfl | exact .inr rfl)) (pgs_cons (pg_name (i := 2) hN rfl (by first | exact .inl rfl | exact .inr rfl)) pgs_nil))) (by decide) (si_enum rfl T.z_enumerate (se_var 0 rfl (pv 0))) (bd_two (r := fun x_at x_name => [some x_value, some x_at, some x_name]) (fun _ _ => rfl) (fun x_at x_name _ _ _ _ _ => (se_and (se_call (dds := []) (ok_is_name T) (hr.mono (by omega)) rfl T.g_is_name T.F_is_name.kp T.b_is_name .nil (fun _ => Reps.nil) (fun _ _ _ h => h.elim) (sa_cons (se_var 2 rfl (pv 2)) sa_nil)) (se_one (se_cmp (se_var 2 rfl (pv 2)) (se_slice (se_var 0 rfl (pv 0)) so_none (so_some (se_var 1 rfl (pv 1)))) (oNotInP_ok hu))))))) sa_nil) (pAll_ok rfl)) (fun _ _ h => h)
def w_is_targets (T : Tp P K mg) (x_value x_values : D) (Qx : QX) (Q : QE) : MB := mIf (tOr (tNot (tVal (eArgs (aCons (eVal x_value) aNil) fun ds => callW (fw_is_sequence T) Qx (ds ++ [])))) (tBin (eArgs (aCons (eVal x_value) aNil) (on1 (pLen1 no1))) (eArgs (aCons (eVal x_values) aNil) (on1 (pLen1 no1))) (oNe noOwn))) (mRet (eVal (.bl false)) Q) (mRet (eArgs (aCons (eLc (iApp (eVal x_value) pIter) (fun x_one => (eOr (eBin (eVal x_one) (eVal .non) oIs) (eAnd (eArgs (aCons (eVal x_one) aNil) fun ds => callW (fw_is_name T) (fun _ _ _ => False) (ds ++ [])) (eBin (eVal x_one) (eVal x_values) oIn))))) aNil) (on1 pAll1)) Q)
def fw_is_targets (T : Tp P K mg) : FS := fun ds C Q Qx => match ds with
  | [x_value, x_values] => w_is_targets T x_value x_values Qx Q C
  | _ => False
theorem cl_is_targets (T : Tp P K mg) {x_value x_values : D} {Qx : QX} {C : Cells} {Q : QE} (h : w_is_targets T x_value x_values Qx Q C) : callW (fw_is_targets T) Qx [x_value, x_values] C Q := call_all h
theorem ok_is_targets (T : Tp P K mg) : FnG P w K mg base 2 T.f_is_targets T.d_is_targets ["value", "values"] (fw_is_targets T) := by
  refine fnT T.F_is_targets sc_is_targets (fun ds C Q Qx h => ?_) (fun cdv A outer s H E X ds C Q hr h => ?_)
  · unfold fw_is_targets at h; split at h
    · rfl
    · exact h.elim
  · unfold fw_is_targets at h; split at h
    rotate_left
    · exact h.elim
    have hN := sc_is_targets.nd
    have hu := hu_G hr
    have hg := hr.gd
    rename_i x_value x_values
    generalize hQx : (fun cls fs C' => ∀ ρ, X.XQ cls fs ρ C' : QX) = Qx at h
    have hX : ∀ ρ cls fs C, Qx cls fs C → X.XQ cls fs ρ C := by subst hQx; exact fun ρ cls fs C h => h ρ
    clear hQx
    revert h; revert C
    show SB X _ [some x_value, some x_values, none] (w_is_targets T x_value x_values Qx Q) _
    unfold w_is_targets
    refine sb_if (st_p (sp_or (st_not (st_val (se_call (dds := []) (ok_is_sequence T) (hr.mono (by omega)) rfl T.g_is_sequence T.F_is_sequence.kp T.b_is_sequence .nil (fun _ => Reps.nil) (hX _) (sa_cons (se_var 0 rfl (pv 0)) sa_nil)))) (sp_or1 (st_cmp (se_callB (id := "len") rfl T.z_len (by decide +kernel) (sa_cons (se_var 0 rfl (pv 0)) sa_nil) (pLen_ok no1_ok)) (se_callB (id := "len") rfl T.z_len (by decide +kernel) (sa_cons (se_var 1 rfl (pv 1)) sa_nil) (pLen_ok no1_ok)) (oNe_ok hu noOwn_ok))))) ?_ ?_
    · exact sb_ret se_bl (fun _ _ h => h)
    · refine sb_more ?_
      exact sb_ret (se_callB (id := "all") rfl T.z_all (by decide +kernel) (sa_cons (se_lc [("one", 2)] (.one 2) rfl hN (blkOk_by rfl) (fun _ _ _ _ _ => pg_name (i := 2) hN rfl (by first | exact .inl rfl | exact .inr rfl)) (by decide) (si_iter (se_var 0 rfl (pv 0))) (bd_one (r := fun x_one => [some x_value, some x_values, some x_one]) (fun _ => rfl) (fun x_one _ _ _ _ _ => (se_or (se_cmp (se_var 2 rfl (pv 2)) se_non oIs_ok) (se_one (se_and (se_call (dds := []) (ok_is_name T) (hr.mono (by omega)) rfl T.g_is_name T.F_is_name.kp T.b_is_name .nil (fun _ => Reps.nil) (fun _ _ _ h => h.elim) (sa_cons (se_var 2 rfl (pv 2)) sa_nil)) (se_one (se_cmp (se_var 2 rfl (pv 2)) (se_var 1 rfl (pv 1)) oIn_ok)))))))) sa_nil) (pAll_ok rfl)) (fun _ _ h => h)
def w_are_kinds (T : Tp P K mg) (x_value x_values : D) (Qx : QX) (Q : QE) : MB := mIf (tOr (tNot (tVal (eArgs (aCons (eVal x_value) aNil) fun ds => callW (fw_is_sequence T) Qx (ds ++ [])))) (tNot (tVal (eArgs (aCons (eLc (iApp (eVal x_value) pIter) (fun x_one => (eAnd (eArgs (aCons (eVal x_one) (aCons (eVal (.raw (.ty "tuple"))) aNil)) (on2 (pIsI K))) (eBin (eArgs (aCons (eVal x_one) aNil) (on1 (pLen1 no1))) (eVal (.int 2)) (oEq noOwn))))) aNil) (on1 pAll1))))) (mRet (eVal (.bl false)) Q) (mRet (eAnd (eArgs (aCons (eLc (iApp (eVal x_value) pIter) (fun x_one1 => (eBin (eVal x_one1) (eVal (.int 0)) pIx))) aNil) fun ds => callW (fw_are_names T) Qx (ds ++ [])) (eArgs (aCons (eLc (iApp (eVal x_value) pIter) (fun x_one2 => (eArgs (aCons (eBin (eVal x_one2) (eVal (.int 1)) pIx) (aCons (eVal x_values) aNil)) fun ds => callW (fw_is_targets T) (fun _ _ _ => False) (ds ++ [])))) aNil) (on1 pAll1))) Q)
def fw_are_kinds (T : Tp P K mg) : FS := fun ds C Q Qx => match ds with
  | [x_value, x_values] => w_are_kinds T x_value x_values Qx Q C
  | _ => False
theorem cl_are_kinds (T : Tp P K mg) {x_value x_values : D} {Qx : QX} {C : Cells} {Q : QE} (h : w_are_kinds T x_value x_values Qx Q C) : callW (fw_are_kinds T) Qx [x_value, x_values] C Q := call_all h
theorem ok_are_kinds (T : Tp P K mg) : FnG P w K mg base 3 T.f_are_kinds T.d_are_kinds ["value", "values"] (fw_are_kinds T) := by
  refine fnT T.F_are_kinds sc_are_kinds (fun ds C Q Qx h => ?_) (fun cdv A outer s H E X ds C Q hr h => ?_)
  · unfold fw_are_kinds at h; split at h
    · rfl
    · exact h.elim
  · unfold fw_are_kinds at h; split at h
    rotate_left
    · exact h.elim
    have hN := sc_are_kinds.nd
    have hu := hu_G hr
    have hg := hr.gd
    rename_i x_value x_values
    generalize hQx : (fun cls fs C' => ∀ ρ, X.XQ cls fs ρ C' : QX) = Qx at h
    have hX : ∀ ρ cls fs C, Qx cls fs C → X.XQ cls fs ρ C := by subst hQx; exact fun ρ cls fs C h => h ρ
    clear hQx
    revert h; revert C
    show SB X _ [some x_value, some x_values, none] (w_are_kinds T x_value x_values Qx Q) _
    unfold w_are_kinds
    refine sb_if (st_p (sp_or (st_not (st_val (se_call (dds := []) (ok_is_sequence T) (hr.mono (by omega)) rfl T.g_is_sequence T.F_is_sequence.kp T.b_is_sequence .nil (fun _ => Reps.nil) (hX _) (sa_cons (se_var 0 rfl (pv 0)) sa_nil)))) (sp_or1 (st_not (st_val (se_callB (id := "all") rfl T.z_all (by decide +kernel) (sa_cons (se_lc [("one", 2)] (.one 2) rfl hN (blkOk_by rfl) (fun _ _ _ _ _ => pg_name (i := 2) hN rfl (by first | exact .inl rfl | exact .inr rfl)) (by decide) (si_iter (se_var 0 rfl (pv 0))) (bd_one (r := fun x_one => [some x_value, some x_values, some x_one]) (fun _ => rfl) (fun x_one _ _ _ _ _ => (se_and (se_callB (id := "isinstance") rfl T.z_isinstance (by decide +kernel) (sa_cons (se_var 2 rfl (pv 2)) (sa_cons (se_ty rfl T.z_tuple (by decide +kernel)) sa_nil)) pIsI_ok) (se_one (se_cmp (se_callB (id := "len") rfl T.z_len (by decide +kernel) (sa_cons (se_var 2 rfl (pv 2)) sa_nil) (pLen_ok no1_ok)) se_int (oEq_ok hu noOwn_ok))))))) sa_nil) (pAll_ok rfl))))))) ?_ ?_
    · exact sb_ret se_bl (fun _ _ h => h)
    · refine sb_more ?_
      exact sb_ret (se_and (se_call (dds := []) (ok_are_names T) (hr.mono (by omega)) rfl T.g_are_names T.F_are_names.kp T.b_are_names .nil (fun _ => Reps.nil) (hX _) (sa_cons (se_lc [("one", 2)] (.one 2) rfl hN (blkOk_by rfl) (fun _ _ _ _ _ => pg_name (i := 2) hN rfl (by first | exact .inl rfl | exact .inr rfl)) (by decide) (si_iter (se_var 0 rfl (pv 0))) (bd_one (r := fun x_one1 => [some x_value, some x_values, some x_one1]) (fun _ => rfl) (fun x_one1 _ _ _ _ _ => (se_ix (se_var 2 rfl (pv 2)) se_int)))) sa_nil)) (se_one (se_callB (id := "all") rfl T.z_all (by decide +kernel) (sa_cons (se_lc [("one", 2)] (.one 2) rfl hN (blkOk_by rfl) (fun _ _ _ _ _ => pg_name (i := 2) hN rfl (by first | exact .inl rfl | exact .inr rfl)) (by decide) (si_iter (se_var 0 rfl (pv 0))) (bd_one (r := fun x_one2 => [some x_value, some x_values, some x_one2]) (fun _ => rfl) (fun x_one2 _ _ _ _ _ => (se_call (dds := []) (ok_is_targets T) (hr.mono (by omega)) rfl T.g_is_targets T.F_is_targets.kp T.b_is_targets .nil (fun _ => Reps.nil) (fun _ _ _ h => h.elim) (sa_cons (se_ix (se_var 2 rfl (pv 2)) se_int) (sa_cons (se_var 1 rfl (pv 1)) sa_nil)))))) sa_nil) (pAll_ok rfl)))) (fun _ _ h => h)
def w_are_some (T : Tp P K mg) (x_value x_names : D) (Qx : QX) (Q : QE) : MB := mRet (eAnd (eArgs (aCons (eVal x_value) aNil) fun ds => callW (fw_are_names T) Qx (ds ++ [])) (eArgs (aCons (eLc (iApp (eVal x_value) pIter) (fun x_name => (eBin (eVal x_name) (eVal x_names) oIn))) aNil) (on1 pAll1))) Q
def fw_are_some (T : Tp P K mg) : FS := fun ds C Q Qx => match ds with
  | [x_value, x_names] => w_are_some T x_value x_names Qx Q C
  | _ => False
theorem cl_are_some (T : Tp P K mg) {x_value x_names : D} {Qx : QX} {C : Cells} {Q : QE} (h : w_are_some T x_value x_names Qx Q C) : callW (fw_are_some T) Qx [x_value, x_names] C Q := call_all h
theorem ok_are_some (T : Tp P K mg) : FnG P w K mg base 3 T.f_are_some T.d_are_some ["value", "names"] (fw_are_some T) := by
  refine fnT T.F_are_some sc_are_some (fun ds C Q Qx h => ?_) (fun cdv A outer s H E X ds C Q hr h => ?_)
  · unfold fw_are_some at h; split at h
    · rfl
    · exact h.elim
  · unfold fw_are_some at h; split at h
    rotate_left
    · exact h.elim
    have hN := sc_are_some.nd
    have hu := hu_G hr
    have hg := hr.gd
    rename_i x_value x_names
    generalize hQx : (fun cls fs C' => ∀ ρ, X.XQ cls fs ρ C' : QX) = Qx at h
    have hX : ∀ ρ cls fs C, Qx cls fs C → X.XQ cls fs ρ C := by subst hQx; exact fun ρ cls fs C h => h ρ
    clear hQx
    revert h; revert C
    show SB X _ [some x_value, some x_names, none] (w_are_some T x_value x_names Qx Q) _
    unfold w_are_some
    exact sb_ret (se_and (se_call (dds := []) (ok_are_names T) (hr.mono (by omega)) rfl T.g_are_names T.F_are_names.kp T.b_are_names .nil (fun _ => Reps.nil) (hX _) (sa_cons (se_var 0 rfl (pv 0)) sa_nil)) (se_one (se_callB (id := "all") rfl T.z_all (by decide +kernel) (sa_cons (se_lc [("name", 2)] (.one 2) rfl hN (blkOk_by rfl) (fun _ _ _ _ _ => pg_name (i := 2) hN rfl (by first | exact .inl rfl | exact .inr rfl)) (by decide) (si_iter (se_var 0 rfl (pv 0))) (bd_one (r := fun x_name => [some x_value, some x_names, some x_name]) (fun _ => rfl) (fun x_name _ _ _ _ _ => (se_cmp (se_var 2 rfl (pv 2)) (se_var 1 rfl (pv 1)) oIn_ok)))) sa_nil) (pAll_ok rfl)))) (fun _ _ h => h)
def w_Book_init (T : Tp P K mg) (x_self x_choices x_kinds x_loose x_others : D) (Qx : QX) (Q : QE) : MB := mIf (tOr (tNot (tVal (eArgs (aCons (eWk (eVal x_choices)) aNil) fun ds => callW (fw_are_names T) Qx (ds ++ [])))) (tBin (eArgs (aCons (eWk (eVal x_choices)) aNil) (on1 (pLen1 no1))) (eVal (.int 0)) (oEq noOwn))) (mRaise (eVal (.str "choices")) T.c_InvalidBook "word" Qx) (mIf (tNot (tVal (eArgs (aCons (eVal x_kinds) (aCons (eWk (eVal x_choices)) aNil)) fun ds => callW (fw_are_kinds T) Qx (ds ++ [])))) (mRaise (eVal (.str "kinds")) T.c_InvalidBook "word" Qx) (mFld K (eArgs (aCons (eVal x_choices) aNil) (on1 pTupleN)) (eVal x_self) "choices" (mFld K (eArgs (aCons (eLc (iApp (eVal x_kinds) pIter) (fun d => un2 d fun x_name x_targets => (eVal x_name))) aNil) (on1 pTuple1)) (eVal x_self) "kinds" (mIf (tNot (tVal (eArgs (aCons (eVal x_loose) (aCons (eApp (eVal x_self) (pFld K "kinds")) aNil)) fun ds => callW (fw_are_some T) Qx (ds ++ [])))) (mRaise (eVal (.str "loose")) T.c_InvalidBook "word" Qx) (mIf (tNot (tVal (eArgs (aCons (eVal x_others) (aCons (eApp (eVal x_self) (pFld K "kinds")) aNil)) fun ds => callW (fw_are_some T) Qx (ds ++ [])))) (mRaise (eVal (.str "others")) T.c_InvalidBook "word" Qx) (mFld K (eDc (iApp (eVal x_kinds) pIter) (fun d => un2 d fun x_name1 x_targets1 => (eVal x_name1)) (fun d => un2 d fun x_name1 x_targets1 => (eArgs (aCons (eVal x_targets1) aNil) (on1 pTuple1)))) (eVal x_self) "targets" (mFld K (eArgs (aCons (eLc1 (iApp (eApp (eVal x_self) (pFld K "kinds")) pIter) (fun x_name2 => (tBin (eVal x_name2) (eVal x_loose) oIn)) (fun x_name2 => (eVal x_name2))) aNil) (on1 pTuple1)) (eVal x_self) "loose" (mFld K (eArgs (aCons (eLc1 (iApp (eApp (eVal x_self) (pFld K "kinds")) pIter) (fun x_name3 => (tBin (eVal x_name3) (eVal x_others) oIn)) (fun x_name3 => (eVal x_name3))) aNil) (on1 pTuple1)) (eVal x_self) "others" (mRet (eVal .non) Q)))))))))
def fw_Book_init (T : Tp P K mg) : FS := fun ds C Q Qx => match ds with
  | [x_self, x_choices, x_kinds, x_loose, x_others] => w_Book_init T x_self x_choices x_kinds x_loose x_others Qx Q C
  | _ => False
theorem ok_Book_init (T : Tp P K mg) : FnG P w K mg base 4 T.f_Book_init T.d_Book_init ["self", "choices", "kinds", "loose", "others"] (fw_Book_init T) := by
  refine fnT T.F_Book_init sc_Book_init (fun ds C Q Qx h => ?_) (fun cdv A outer s H E X ds C Q hr h => ?_)
  · unfold fw_Book_init at h; split at h
    · rfl
    · exact h.elim
  · unfold fw_Book_init at h; split at h
    rotate_left
    · exact h.elim
    have hN := sc_Book_init.nd
    have hu := hu_G hr
    have hg := hr.gd
    rename_i x_self x_choices x_kinds x_loose x_others
    generalize hQx : (fun cls fs C' => ∀ ρ, X.XQ cls fs ρ C' : QX) = Qx at h
    have hX : ∀ ρ cls fs C, Qx cls fs C → X.XQ cls fs ρ C := by subst hQx; exact fun ρ cls fs C h => h ρ
    clear hQx
    revert h; revert C
    show SB X _ [some x_self, some x_choices, some x_kinds, some x_loose, some x_others, none, none] (w_Book_init T x_self x_choices x_kinds x_loose x_others Qx Q) _
    unfold w_Book_init
    refine sb_if (st_p (sp_or (st_not (st_val (se_call (dds := []) (ok_are_names T) (hr.mono (by omega)) rfl T.g_are_names T.F_are_names.kp T.b_are_names .nil (fun _ => Reps.nil) (hX _) (sa_cons (se_wk (se_var 1 rfl (pv 1))) sa_nil)))) (sp_or1 (st_cmp (se_callB (id := "len") rfl T.z_len (by decide +kernel) (sa_cons (se_wk (se_var 1 rfl (pv 1))) sa_nil) (pLen_ok no1_ok)) se_int (oEq_ok hu noOwn_ok))))) ?_ ?_
    · exact sb_raise (k := 0) T.x_InvalidBook (hr.mono (by omega)) rfl T.g_InvalidBook se_str (hX _)
    · refine sb_more ?_
      refine sb_if (st_not (st_val (se_call (dds := []) (ok_are_kinds T) (hr.mono (by omega)) rfl T.g_are_kinds T.F_are_kinds.kp T.b_are_kinds .nil (fun _ => Reps.nil) (hX _) (sa_cons (se_var 2 rfl (pv 2)) (sa_cons (se_wk (se_var 1 rfl (pv 1))) sa_nil))))) ?_ ?_
      · exact sb_raise (k := 0) T.x_InvalidBook (hr.mono (by omega)) rfl T.g_InvalidBook se_str (hX _)
      · refine sb_more ?_
        refine sb_fld (se_callTy (id := "tuple") rfl T.z_tuple (by decide +kernel) (sa_cons (se_var 1 rfl (pv 1)) sa_nil) on_tupleN) (se_var 0 rfl (pv 0)) ?_
        refine sb_fld (se_callTy (id := "tuple") rfl T.z_tuple (by decide +kernel) (sa_cons (se_lc [("name", 5), ("targets", 6)] (.tup [5, 6]) rfl hN (blkOk_by rfl) (fun _ _ _ _ _ => pg_tup rfl (pgs_cons (pg_name (i := 5) hN rfl (by first | exact .inl rfl | exact .inr rfl)) (pgs_cons (pg_name (i := 6) hN rfl (by first | exact .inl rfl | exact .inr rfl)) pgs_nil))) (by decide) (si_iter (se_var 2 rfl (pv 2))) (bd_two (r := fun x_name x_targets => [some x_self, some x_choices, some x_kinds, some x_loose, some x_others, some x_name, some x_targets]) (fun _ _ => rfl) (fun x_name x_targets _ _ _ _ _ => (se_var 5 rfl (pv 5))))) sa_nil) pTuple_ok) (se_var 0 rfl (pv 0)) ?_
        refine sb_if (st_not (st_val (se_call (dds := []) (ok_are_some T) (hr.mono (by omega)) rfl T.g_are_some T.F_are_some.kp T.b_are_some .nil (fun _ => Reps.nil) (hX _) (sa_cons (se_var 3 rfl (pv 3)) (sa_cons (se_fld (se_var 0 rfl (pv 0))) sa_nil))))) ?_ ?_
        · exact sb_raise (k := 0) T.x_InvalidBook (hr.mono (by omega)) rfl T.g_InvalidBook se_str (hX _)
        · refine sb_more ?_
          refine sb_if (st_not (st_val (se_call (dds := []) (ok_are_some T) (hr.mono (by omega)) rfl T.g_are_some T.F_are_some.kp T.b_are_some .nil (fun _ => Reps.nil) (hX _) (sa_cons (se_var 4 rfl (pv 4)) (sa_cons (se_fld (se_var 0 rfl (pv 0))) sa_nil))))) ?_ ?_
          · exact sb_raise (k := 0) T.x_InvalidBook (hr.mono (by omega)) rfl T.g_InvalidBook se_str (hX _)
          · refine sb_more ?_
            refine sb_fld (se_dc [("name", 5), ("targets", 6)] (.tup [5, 6]) rfl hN (blkOk_by rfl) (fun _ _ _ _ _ => pg_tup rfl (pgs_cons (pg_name (i := 5) hN rfl (by first | exact .inl rfl | exact .inr rfl)) (pgs_cons (pg_name (i := 6) hN rfl (by first | exact .inl rfl | exact .inr rfl)) pgs_nil))) (by decide) (si_iter (se_var 2 rfl (pv 2))) (bd_two (r := fun x_name1 x_targets1 => [some x_self, some x_choices, some x_kinds, some x_loose, some x_others, some x_name1, some x_targets1]) (fun _ _ => rfl) (fun x_name1 x_targets1 _ _ _ _ _ => (se_var 5 rfl (pv 5)))) (bd_two (r := fun x_name1 x_targets1 => [some x_self, some x_choices, some x_kinds, some x_loose, some x_others, some x_name1, some x_targets1]) (fun _ _ => rfl) (fun x_name1 x_targets1 _ _ _ _ _ => (se_callTy (id := "tuple") rfl T.z_tuple (by decide +kernel) (sa_cons (se_var 6 rfl (pv 6)) sa_nil) pTuple_ok)))) (se_var 0 rfl (pv 0)) ?_
            refine sb_fld (se_callTy (id := "tuple") rfl T.z_tuple (by decide +kernel) (sa_cons (se_lc1 [("name", 5)] (.one 5) rfl hN (blkOk_by rfl) (fun _ _ _ _ _ => pg_name (i := 5) hN rfl (by first | exact .inl rfl | exact .inr rfl)) (by decide) (si_iter (se_fld (se_var 0 rfl (pv 0)))) (bdT_one (r := fun x_name2 => [some x_self, some x_choices, some x_kinds, some x_loose, some x_others, some x_name2, none]) (fun _ => rfl) (fun x_name2 _ _ _ _ _ => (st_cmp (se_var 5 rfl (pv 5)) (se_var 3 rfl (pv 3)) oIn_ok))) (bd_one (r := fun x_name2 => [some x_self, some x_choices, some x_kinds, some x_loose, some x_others, some x_name2, none]) (fun _ => rfl) (fun x_name2 _ _ _ _ _ => (se_var 5 rfl (pv 5))))) sa_nil) pTuple_ok) (se_var 0 rfl (pv 0)) ?_
            refine sb_fld (se_callTy (id := "tuple") rfl T.z_tuple (by decide +kernel) (sa_cons (se_lc1 [("name", 5)] (.one 5) rfl hN (blkOk_by rfl) (fun _ _ _ _ _ => pg_name (i := 5) hN rfl (by first | exact .inl rfl | exact .inr rfl)) (by decide) (si_iter (se_fld (se_var 0 rfl (pv 0)))) (bdT_one (r := fun x_name3 => [some x_self, some x_choices, some x_kinds, some x_loose, some x_others, some x_name3, none]) (fun _ => rfl) (fun x_name3 _ _ _ _ _ => (st_cmp (se_var 5 rfl (pv 5)) (se_var 4 rfl (pv 4)) oIn_ok))) (bd_one (r := fun x_name3 => [some x_self, some x_choices, some x_kinds, some x_loose, some x_others, some x_name3, none]) (fun _ => rfl) (fun x_name3 _ _ _ _ _ => (se_var 5 rfl (pv 5))))) sa_nil) pTuple_ok) (se_var 0 rfl (pv 0)) ?_
            exact sb_nil (fun _ h => h)
def w__law_tried_j1 (T : Tp P K mg)  (Qx : QX) (Q : QE) (j1 : D) : MB := mRet (eVal j1) Q
def w__law_tried (T : Tp P K mg) (x_some x_kinds x_loose x_others : D) (Qx : QX) (Q : QE) : MB := mSet (eVal .non) fun x_found => mTry K (.ref T.c_InvalidBook) (fun X' => mExp (eArgs (aCons (eVal x_some) (aCons (eVal x_kinds) (aCons (eVal x_loose) (aCons (eVal x_others) aNil)))) fun ds => pMkF (fw_Book_init T) X' T.c_Book (ds ++ [])) (w__law_tried_j1 T Qx Q x_found)) (fun fs cls => mPart (mSet (eIf (tVal (eIsX K cls (eVal (.raw (.ref T.c_HastyError))))) (eXf K "word" cls fs) (eVal (.str "other"))) fun x_found1 => w__law_tried_j1 T Qx Q x_found1)) Qx
def fw__law_tried (T : Tp P K mg) : FS := fun ds C Q Qx => match ds with
  | [x_some, x_kinds, x_loose, x_others] => w__law_tried T x_some x_kinds x_loose x_others Qx Q C
  | _ => False
theorem cl__law_tried (T : Tp P K mg) {x_some x_kinds x_loose x_others : D} {Qx : QX} {C : Cells} {Q : QE} (h : w__law_tried T x_some x_kinds x_loose x_others Qx Q C) : callW (fw__law_tried T) Qx [x_some, x_kinds, x_loose, x_others] C Q := call_all h
theorem ok__law_tried (T : Tp P K mg) : FnG P w K mg base 6 T.f__law_tried T.d__law_tried ["_law_some", "_law_kinds", "_law_loose", "_law_others"] (fw__law_tried T) := by
  refine fnT T.F__law_tried sc__law_tried (fun ds C Q Qx h => ?_) (fun cdv A outer s H E X ds C Q hr h => ?_)
  · unfold fw__law_tried at h; split at h
    · rfl
    · exact h.elim
  · unfold fw__law_tried at h; split at h
    rotate_left
    · exact h.elim
    have hN := sc__law_tried.nd
    have hu := hu_G hr
    have hg := hr.gd
    rename_i x_some x_kinds x_loose x_others
    generalize hQx : (fun cls fs C' => ∀ ρ, X.XQ cls fs ρ C' : QX) = Qx at h
    have hX : ∀ ρ cls fs C, Qx cls fs C → X.XQ cls fs ρ C := by subst hQx; exact fun ρ cls fs C h => h ρ
    clear hQx
    revert h; revert C
    show SB X _ [some x_some, some x_kinds, some x_loose, some x_others, none, none] (w__law_tried T x_some x_kinds x_loose x_others Qx Q) _
    unfold w__law_tried
    refine sb_set (r := fun x_found => [some x_some, some x_kinds, some x_loose, some x_others, some x_found, none]) 4 hN rfl (by first | exact .inl rfl | exact .inr rfl) (fun _ => rfl) se_non (fun x_found => ?_)
    refine sb_try (α := D) (i := 5) (cv := (.ref T.c_InvalidBook)) (fun j1 => [some x_some, some x_kinds, some x_loose, some x_others, some j1, none]) (w__law_tried_j1 T Qx Q) [some x_some, some x_kinds, some x_loose, some x_others, some x_found, none] rfl rfl hN rfl rfl ⟨rfl, by decide, .inl T.g_InvalidBook⟩ (fun ρ' cls fs C h => hX _ _ _ _ h) (fun j1 => ?_) (fun j1 d hd => by cases hd) (fun pn xe T' X' hX' W hj1 => ?_) (fun cls fs a oe dd pn T' hz hfl hA W V B hj1 => ?_)
    · unfold w__law_tried_j1
      exact sb_ret (se_var 4 rfl (pv 4)) (fun _ _ h => h)
    · refine sb_exp (se_mkF (se_make (dds := []) T.mk_Book (ok_Book_init T) (hr.mono (by omega)) rfl T.g_Book T.b_Book_init .nil (fun _ => Reps.nil) (fun _ _ _ h => hX' _ (by walk_at "le") _ _ _ h) (sa_cons (se_var 0 rfl (pv 0)) (sa_cons (se_var 1 rfl (pv 1)) (sa_cons (se_var 2 rfl (pv 2)) (sa_cons (se_var 3 rfl (pv 3)) sa_nil)))))) ?_
      exact sb_le hj1 (by walk_at "le")
    · refine sb_part ?_
      refine sb_set (r := fun x_found1 => [some x_some, some x_kinds, some x_loose, some x_others, some x_found1, some ((.raw (.ref a)))]) 4 hN rfl (by first | exact .inl rfl | exact .inr rfl) (fun _ => rfl) (se_if (st_val (se_isX hz hfl hA rfl T.z_isinstance (se_var 5 rfl (pv 5)) (se_glob (d := .raw (.ref T.c_HastyError)) (pe_glob (v := .ref T.c_HastyError) rfl T.g_HastyError rfl) (fun _ => rfl)))) (se_xf hz hfl hA (se_var 5 rfl (pv 5))) se_str) (fun x_found1 => ?_)
      exact sb_le hj1 (by walk_at "le")
def w__law_is_name (T : Tp P K mg) (x_value : D) (Qx : QX) (Q : QE) : MB := mSet (eArgs (aCons (eVal (.str "no")) (aCons (eVal (.str "yes")) (aCons (eVal (.str "do")) (aCons (eVal (.str "if")) (aCons (eVal (.str "and")) (aCons (eVal (.str "not")) (aCons (eVal (.str "then")) aNil))))))) pTup) fun x_barred => mIf (tOr (tNot (tVal (eArgs (aCons (eVal x_value) (aCons (eVal (.raw (.ty "str"))) aNil)) (on2 (pIsI K))))) (tOr (tNot (tChain (eVal (.int 0)) (eArgs (aCons (eVal x_value) aNil) (on1 (pLen1 no1))) (eVal (.int 5)) oLt oLt)) (tBin (eVal x_value) (eVal x_barred) oIn))) (mRet (eVal (.bl false)) Q) (mRet (eBin (eLc1 (iApp (eVal x_value) pIterS) (fun x_sign => (tNot (tChain (eVal (.str "a")) (eVal x_sign) (eVal (.str "z")) oLe oLe))) (fun x_sign => (eVal x_sign))) (eArgs aNil pLst) (oEq noOwn)) Q)
def fw__law_is_name (T : Tp P K mg) : FS := fun ds C Q Qx => match ds with
  | [x_value] => w__law_is_name T x_value Qx Q C
  | _ => False
theorem cl__law_is_name (T : Tp P K mg) {x_value : D} {Qx : QX} {C : Cells} {Q : QE} (h : w__law_is_name T x_value Qx Q C) : callW (fw__law_is_name T) Qx [x_value] C Q := call_all h
theorem ok__law_is_name (T : Tp P K mg) : FnG P w K mg base 1 T.f__law_is_name T.d__law_is_name ["_law_value"] (fw__law_is_name T) := by
  refine fnT T.F__law_is_name sc__law_is_name (fun ds C Q Qx h => ?_) (fun cdv A outer s H E X ds C Q hr h => ?_)
  · unfold fw__law_is_name at h; split at h
    · rfl
    · exact h.elim
  · unfold fw__law_is_name at h; split at h
    rotate_left
    · exact h.elim
    have hN := sc__law_is_name.nd
    have hu := hu_G hr
    have hg := hr.gd
    rename_i x_value
    generalize hQx : (fun cls fs C' => ∀ ρ, X.XQ cls fs ρ C' : QX) = Qx at h
    have hX : ∀ ρ cls fs C, Qx cls fs C → X.XQ cls fs ρ C := by subst hQx; exact fun ρ cls fs C h => h ρ
    clear hQx
    revert h; revert C
    show SB X _ [some x_value, none, none] (w__law_is_name T x_value Qx Q) _
    unfold w__law_is_name
    refine sb_set (r := fun x_barred => [some x_value, some x_barred, none]) 1 hN rfl (by first | exact .inl rfl | exact .inr rfl) (fun _ => rfl) (se_tup (sa_cons se_str (sa_cons se_str (sa_cons se_str (sa_cons se_str (sa_cons se_str (sa_cons se_str (sa_cons se_str sa_nil)))))))) (fun x_barred => ?_)
    refine sb_if (st_p (sp_or (st_not (st_val (se_callB (id := "isinstance") rfl T.z_isinstance (by decide +kernel) (sa_cons (se_var 0 rfl (pv 0)) (sa_cons (se_ty rfl T.z_str (by decide +kernel)) sa_nil)) pIsI_ok))) (sp_or (st_not (st_chain se_int (se_callB (id := "len") rfl T.z_len (by decide +kernel) (sa_cons (se_var 0 rfl (pv 0)) sa_nil) (pLen_ok no1_ok)) se_int oLt_ok oLt_ok)) (sp_or1 (st_cmp (se_var 0 rfl (pv 0)) (se_var 1 rfl (pv 1)) oIn_ok))))) ?_ ?_
    · exact sb_ret se_bl (fun _ _ h => h)
    · refine sb_more ?_
      exact sb_ret (se_cmp (se_lc1 [("_law_sign", 2)] (.one 2) rfl hN (blkOk_by rfl) (fun _ _ _ _ _ => pg_name (i := 2) hN rfl (by first | exact .inl rfl | exact .inr rfl)) (by decide) (si_iterS (se_var 0 rfl (pv 0))) (bdT_one (r := fun x_sign => [some x_value, some x_barred, some x_sign]) (fun _ => rfl) (fun x_sign _ _ _ _ _ => (st_not (st_chain se_str (se_var 2 rfl (pv 2)) se_str oLe_ok oLe_ok)))) (bd_one (r := fun x_sign => [some x_value, some x_barred, some x_sign]) (fun _ => rfl) (fun x_sign _ _ _ _ _ => (se_var 2 rfl (pv 2))))) (se_lst sa_nil) (oEq_ok hu noOwn_ok)) (fun _ _ h => h)
def w__law_are_names (T : Tp P K mg) (x_value : D) (Qx : QX) (Q : QE) : MB := mIf (tNot (tVal (eArgs (aCons (eVal x_value) (aCons (eArgs (aCons (eVal (.raw (.ty "list"))) (aCons (eVal (.raw (.ty "tuple"))) aNil)) pTup) aNil)) (on2 (pIsI K))))) (mRet (eVal (.bl false)) Q) (mRet (eBin (eLc1 (iApp (eVal x_value) pEnum) (fun d => un2 d fun x_at x_name => (tOr (tNot (tVal (eArgs (aCons (eVal x_name) aNil) fun ds => callW (fw__law_is_name T) (fun _ _ _ => False) (ds ++ [])))) (tBin (eVal x_name) (eSl (eVal x_value) oNone (oSome (eVal x_at))) oInP))) (fun d => un2 d fun x_at x_name => (eVal x_at))) (eArgs aNil pLst) (oEq noOwn)) Q)
def fw__law_are_names (T : Tp P K mg) : FS := fun ds C Q Qx => match ds with
  | [x_value] => w__law_are_names T x_value Qx Q C
  | _ => False
theorem cl__law_are_names (T : Tp P K mg) {x_value : D} {Qx : QX} {C : Cells} {Q : QE} (h : w__law_are_names T x_value Qx Q C) : callW (fw__law_are_names T) Qx [x_value] C Q := call_all h
theorem ok__law_are_names (T : Tp P K mg) : FnG P w K mg base 2 T.f__law_are_names T.d__law_are_names ["_law_value"] (fw__law_are_names T) := by
  refine fnT T.F__law_are_names sc__law_are_names (fun ds C Q Qx h => ?_) (fun cdv A outer s H E X ds C Q hr h => ?_)
  · unfold fw__law_are_names at h; split at h
    · rfl
    · exact h.elim
  · unfold fw__law_are_names at h; split at h
    rotate_left
    · exact h.elim
    have hN := sc__law_are_names.nd
    have hu := hu_G hr
    have hg := hr.gd
    rename_i x_value
    generalize hQx : (fun cls fs C' => ∀ ρ, X.XQ cls fs ρ C' : QX) = Qx at h
    have hX : ∀ ρ cls fs C, Qx cls fs C → X.XQ cls fs ρ C := by subst hQx; exact fun ρ cls fs C h => h ρ
    clear hQx
    revert h; revert C
    show SB X _ [some x_value, none, none] (w__law_are_names T x_value Qx Q) _
    unfold w__law_are_names
    refine sb_if (st_not (st_val (se_callB (id := "isinstance") rfl T.z_isinstance (by decide +kernel) (sa_cons (se_var 0 rfl (pv 0)) (sa_cons (se_tup (sa_cons (se_ty rfl T.z_list (by decide +kernel)) (sa_cons (se_ty rfl T.z_tuple (by decide +kernel)) sa_nil))) sa_nil)) pIsI_ok))) ?_ ?_
    · exact sb_ret se_bl (fun _ _ h => h)
    · refine sb_more ?_
      exact sb_ret (se_cmp (se_lc1 [("_law_at", 1), ("_law_name", 2)] (.tup [1, 2]) rfl hN (blkOk_by rfl) (fun _ _ _ _ _ => pg_tup rfl (pgs_cons (pg_name (i := 1) hN rfl (by first | exact .inl rfl | exact .inr rfl)) (pgs_cons (pg_name (i := 2) hN rfl (by first | exact .inl rfl | exact .inr rfl)) pgs_nil))) (by decide) (si_enum rfl T.z_enumerate (se_var 0 rfl (pv 0))) (bdT_two (r := fun x_at x_name => [some x_value, some x_at, some x_name]) (fun _ _ => rfl) (fun x_at x_name _ _ _ _ _ => (st_p (sp_or (st_not (st_val (se_call (dds := []) (ok__law_is_name T) (hr.mono (by omega)) rfl T.g__law_is_name T.F__law_is_name.kp T.b__law_is_name .nil (fun _ => Reps.nil) (fun _ _ _ h => h.elim) (sa_cons (se_var 2 rfl (pv 2)) sa_nil)))) (sp_or1 (st_cmp (se_var 2 rfl (pv 2)) (se_slice (se_var 0 rfl (pv 0)) so_none (so_some (se_var 1 rfl (pv 1)))) (oInP_ok hu))))))) (bd_two (r := fun x_at x_name => [some x_value, some x_at, some x_name]) (fun _ _ => rfl) (fun x_at x_name _ _ _ _ _ => (se_var 1 rfl (pv 1))))) (se_lst sa_nil) (oEq_ok hu noOwn_ok)) (fun _ _ h => h)
def w__law_is_one_of (T : Tp P K mg) (x_value x_some : D) (Qx : QX) (Q : QE) : MB := mRet (eAnd (eArgs (aCons (eVal x_value) (aCons (eVal (.raw (.ty "str"))) aNil)) (on2 (pIsI K))) (eBin (eVal x_value) (eVal x_some) oIn)) Q
def fw__law_is_one_of (T : Tp P K mg) : FS := fun ds C Q Qx => match ds with
  | [x_value, x_some] => w__law_is_one_of T x_value x_some Qx Q C
  | _ => False
theorem cl__law_is_one_of (T : Tp P K mg) {x_value x_some : D} {Qx : QX} {C : Cells} {Q : QE} (h : w__law_is_one_of T x_value x_some Qx Q C) : callW (fw__law_is_one_of T) Qx [x_value, x_some] C Q := call_all h
theorem ok__law_is_one_of (T : Tp P K mg) : FnG P w K mg base 1 T.f__law_is_one_of T.d__law_is_one_of ["_law_value", "_law_some"] (fw__law_is_one_of T) := by
  refine fnT T.F__law_is_one_of sc__law_is_one_of (fun ds C Q Qx h => ?_) (fun cdv A outer s H E X ds C Q hr h => ?_)
  · unfold fw__law_is_one_of at h; split at h
    · rfl
    · exact h.elim
  · unfold fw__law_is_one_of at h; split at h
    rotate_left
    · exact h.elim
    have hN := sc__law_is_one_of.nd
    have hu := hu_G hr
    have hg := hr.gd
    rename_i x_value x_some
    generalize hQx : (fun cls fs C' => ∀ ρ, X.XQ cls fs ρ C' : QX) = Qx at h
    have hX : ∀ ρ cls fs C, Qx cls fs C → X.XQ cls fs ρ C := by subst hQx; exact fun ρ cls fs C h => h ρ
    clear hQx
    revert h; revert C
    show SB X _ [some x_value, some x_some] (w__law_is_one_of T x_value x_some Qx Q) _
    unfold w__law_is_one_of
    exact sb_ret (se_and (se_callB (id := "isinstance") rfl T.z_isinstance (by decide +kernel) (sa_cons (se_var 0 rfl (pv 0)) (sa_cons (se_ty rfl T.z_str (by decide +kernel)) sa_nil)) pIsI_ok) (se_one (se_cmp (se_var 0 rfl (pv 0)) (se_var 1 rfl (pv 1)) oIn_ok))) (fun _ _ h => h)
def w__law_are_kinds_a2 (T : Tp P K mg) (x_names : D) (Qx : QX) (Q : QE) (s1 : Unit) : MB := mFrz x_names fun x_names1 => mRet (eDrop (eArgs (aCons (eVal x_names1) aNil) fun ds => callW (fw__law_are_names T) Qx (ds ++ []))) Q
def w__law_are_kinds_l1 (T : Tp P K mg) (x_some : D) (x_names : D) (Qx : QX) (Q : QE) (d1 : D) (s1 : Unit) (nx1 : (Unit) → MB) (bk1 : (Unit) → MB) : MB := mIf (tOr (tNot (tVal (eArgs (aCons (eVal d1) (aCons (eVal (.raw (.ty "tuple"))) aNil)) (on2 (pIsI K))))) (tOr (tBin (eArgs (aCons (eVal d1) aNil) (on1 (pLen1 no1))) (eVal (.int 2)) (oNe noOwn)) (tNot (tVal (eArgs (aCons (eBin (eVal d1) (eVal (.int 1)) pIx) (aCons (eArgs (aCons (eVal (.raw (.ty "list"))) (aCons (eVal (.raw (.ty "tuple"))) aNil)) pTup) aNil)) (on2 (pIsI K))))))) (mRet (eDrop (eVal (.bl false))) Q) (mIf (tBin (eArgs (aCons (eBin (eVal d1) (eVal (.int 1)) pIx) aNil) (on1 (pLen1 no1))) (eArgs (aCons (eVal x_some) aNil) (on1 (pLen1 no1))) (oNe noOwn)) (mRet (eDrop (eVal (.bl false))) Q) (mIf (tBin (eLc1 (iApp (eBin (eVal d1) (eVal (.int 1)) pIx) pIter) (fun x_x => (tAnd (tBin (eVal x_x) (eVal .non) oIsNot) (tNot (tVal (eArgs (aCons (eVal x_x) (aCons (eVal x_some) aNil)) fun ds => callW (fw__law_is_one_of T) (fun _ _ _ => False) (ds ++ [])))))) (fun x_x => (eVal x_x))) (eArgs aNil pLst) (oNe noOwn)) (mRet (eDrop (eVal (.bl false))) Q) (mExp (eL1 (eVal x_names) (eBin (eVal d1) (eVal (.int 0)) pIx) pApp) (mPart (nx1 ())))))
def w__law_are_kinds (T : Tp P K mg) (x_value x_some : D) (Qx : QX) (Q : QE) : MB := mIf (tNot (tVal (eArgs (aCons (eVal x_value) (aCons (eArgs (aCons (eVal (.raw (.ty "list"))) (aCons (eVal (.raw (.ty "tuple"))) aNil)) pTup) aNil)) (on2 (pIsI K))))) (mRet (eDrop (eVal (.bl false))) Q) (mSet (eArgs aNil pLstC) fun x_names => mFor (α := Unit) (iApp (eVal x_value) pIter) (w__law_are_kinds_l1 T x_some x_names Qx Q) () (w__law_are_kinds_a2 T x_names Qx Q))
def fw__law_are_kinds (T : Tp P K mg) : FS := fun ds C Q Qx => match ds with
  | [x_value, x_some] => w__law_are_kinds T x_value x_some Qx Q C
  | _ => False
theorem cl__law_are_kinds (T : Tp P K mg) {x_value x_some : D} {Qx : QX} {C : Cells} {Q : QE} (h : w__law_are_kinds T x_value x_some Qx Q C) : callW (fw__law_are_kinds T) Qx [x_value, x_some] C Q := call_all h
theorem ok__law_are_kinds (T : Tp P K mg) : FnG P w K mg base 3 T.f__law_are_kinds T.d__law_are_kinds ["_law_value", "_law_some"] (fw__law_are_kinds T) := by
  refine fnT T.F__law_are_kinds sc__law_are_kinds (fun ds C Q Qx h => ?_) (fun cdv A outer s H E X ds C Q hr h => ?_)
  · unfold fw__law_are_kinds at h; split at h
    · rfl
    · exact h.elim
  · unfold fw__law_are_kinds at h; split at h
    rotate_left
    · exact h.elim
    have hN := sc__law_are_kinds.nd
    have hu := hu_G hr
    have hg := hr.gd
    rename_i x_value x_some
    generalize hQx : (fun cls fs C' => ∀ ρ, X.XQ cls fs ρ C' : QX) = Qx at h
    have hX : ∀ ρ cls fs C, Qx cls fs C → X.XQ cls fs ρ C := by subst hQx; exact fun ρ cls fs C h => h ρ
    clear hQx
    revert h; revert C
    show SB X _ [some x_value, some x_some, none, none, none] (w__law_are_kinds T x_value x_some Qx Q) _
    unfold w__law_are_kinds
    refine sb_if (st_not (st_val (se_callB (id := "isinstance") rfl T.z_isinstance (by decide +kernel) (sa_cons (se_var 0 rfl (pv 0)) (sa_cons (se_tup (sa_cons (se_ty rfl T.z_list (by decide +kernel)) (sa_cons (se_ty rfl T.z_tuple (by decide +kernel)) sa_nil))) sa_nil)) pIsI_ok))) ?_ ?_
    · exact sb_ret (se_drop se_bl) (fun _ _ h => h)
    · refine sb_more ?_
      refine sb_set (r := fun x_names => [some x_value, some x_some, some x_names, none, none]) 2 hN rfl (by first | exact .inl rfl | exact .inr rfl) (fun _ => rfl) (se_lstC sa_nil) (fun x_names => ?_)
      refine sb_for (α := Unit) (fun s1 => [some x_value, some x_some, some x_names, none, none]) rfl (si_iter (se_var 0 rfl (pv 0))) (by walk_at "le") (fun d1 s1 nx1 bk1 W V hW1 hV1 => ?_) (fun s1 => ?_)
      · unfold w__law_are_kinds_l1
        refine sg_name (r := [some x_value, some x_some, some x_names, some d1, none]) 3 rfl ?_ (pg_name (i := 3) hN rfl (by first | exact .inl rfl | exact .inr rfl))
        refine sb_if (st_p (sp_or (st_not (st_val (se_callB (id := "isinstance") rfl T.z_isinstance (by decide +kernel) (sa_cons (se_var 3 rfl (pv 3)) (sa_cons (se_ty rfl T.z_tuple (by decide +kernel)) sa_nil)) pIsI_ok))) (sp_or (st_cmp (se_callB (id := "len") rfl T.z_len (by decide +kernel) (sa_cons (se_var 3 rfl (pv 3)) sa_nil) (pLen_ok no1_ok)) se_int (oNe_ok hu noOwn_ok)) (sp_or1 (st_not (st_val (se_callB (id := "isinstance") rfl T.z_isinstance (by decide +kernel) (sa_cons (se_ix (se_var 3 rfl (pv 3)) se_int) (sa_cons (se_tup (sa_cons (se_ty rfl T.z_list (by decide +kernel)) (sa_cons (se_ty rfl T.z_tuple (by decide +kernel)) sa_nil))) sa_nil)) pIsI_ok))))))) ?_ ?_
        · exact sb_ret (se_drop se_bl) (fun _ _ h => h)
        · refine sb_more ?_
          refine sb_if (st_cmp (se_callB (id := "len") rfl T.z_len (by decide +kernel) (sa_cons (se_ix (se_var 3 rfl (pv 3)) se_int) sa_nil) (pLen_ok no1_ok)) (se_callB (id := "len") rfl T.z_len (by decide +kernel) (sa_cons (se_var 1 rfl (pv 1)) sa_nil) (pLen_ok no1_ok)) (oNe_ok hu noOwn_ok)) ?_ ?_
          · exact sb_ret (se_drop se_bl) (fun _ _ h => h)
          · refine sb_more ?_
            refine sb_if (st_cmp (se_lc1 [("_law_x", 4)] (.one 4) rfl hN (blkOk_by rfl) (fun _ _ _ _ _ => pg_name (i := 4) hN rfl (by first | exact .inl rfl | exact .inr rfl)) (by decide) (si_iter (se_ix (se_var 3 rfl (pv 3)) se_int)) (bdT_one (r := fun x_x => [some x_value, some x_some, some x_names, some d1, some x_x]) (fun _ => rfl) (fun x_x _ _ _ _ _ => (st_p (sp_and (st_cmp (se_var 4 rfl (pv 4)) se_non oIsNot_ok) (sp_and1 (st_not (st_val (se_call (dds := []) (ok__law_is_one_of T) (hr.mono (by omega)) rfl T.g__law_is_one_of T.F__law_is_one_of.kp T.b__law_is_one_of .nil (fun _ => Reps.nil) (fun _ _ _ h => h.elim) (sa_cons (se_var 4 rfl (pv 4)) (sa_cons (se_var 1 rfl (pv 1)) sa_nil)))))))))) (bd_one (r := fun x_x => [some x_value, some x_some, some x_names, some d1, some x_x]) (fun _ => rfl) (fun x_x _ _ _ _ _ => (se_var 4 rfl (pv 4))))) (se_lst sa_nil) (oNe_ok hu noOwn_ok)) ?_ ?_
            · exact sb_ret (se_drop se_bl) (fun _ _ h => h)
            · refine sb_more ?_
              refine sb_exp (se_append (se_var 2 rfl (pv 2)) (se_ix (se_var 3 rfl (pv 3)) se_int)) ?_
              refine sb_part ?_
              exact sb_le hW1 (by walk_at "le")
      · unfold w__law_are_kinds_a2
        refine sb_frz (r := fun x_names1 => [some x_value, some x_some, some x_names1, none, none]) 2 rfl (fun _ => rfl) (fun x_names1 => ?_)
        exact sb_ret (se_drop (se_call (dds := []) (ok__law_are_names T) (hr.mono (by omega)) rfl T.g__law_are_names T.F__law_are_names.kp T.b__law_are_names .nil (fun _ => Reps.nil) (hX _) (sa_cons (se_var 2 rfl (pv 2)) sa_nil))) (fun _ _ h => h)
def w__law_due (T : Tp P K mg) (x_some x_kinds x_loose x_others : D) (Qx : QX) (Q : QE) : MB := mIf (tOr (tNot (tVal (eArgs (aCons (eVal x_some) aNil) fun ds => callW (fw__law_are_names T) Qx (ds ++ [])))) (tBin (eArgs (aCons (eVal x_some) aNil) (on1 (pLen1 no1))) (eVal (.int 0)) (oEq noOwn))) (mRet (eVal (.str "choices")) Q) (mIf (tNot (tVal (eArgs (aCons (eVal x_kinds) (aCons (eVal x_some) aNil)) fun ds => callW (fw__law_are_kinds T) Qx (ds ++ [])))) (mRet (eVal (.str "kinds")) Q) (mSet (eLc (iApp (eVal x_kinds) pIter) (fun x_one => (eBin (eVal x_one) (eVal (.int 0)) pIx))) fun x_names => mIf (tOr (tNot (tVal (eArgs (aCons (eVal x_loose) aNil) fun ds => callW (fw__law_are_names T) Qx (ds ++ [])))) (tBin (eLc1 (iApp (eVal x_loose) pIter) (fun x_name => (tBin (eVal x_name) (eVal x_names) oNotIn)) (fun x_name => (eVal x_name))) (eArgs aNil pLst) (oNe noOwn))) (mRet (eVal (.str "loose")) Q) (mRet (eIf (tAnd (tVal (eArgs (aCons (eVal x_others) aNil) fun ds => callW (fw__law_are_names T) Qx (ds ++ []))) (tBin (eLc1 (iApp (eVal x_others) pIter) (fun x_name1 => (tBin (eVal x_name1) (eVal x_names) oNotIn)) (fun x_name1 => (eVal x_name1))) (eArgs aNil pLst) (oEq noOwn))) (eVal .non) (eVal (.str "others"))) Q)))
def fw__law_due (T : Tp P K mg) : FS := fun ds C Q Qx => match ds with
  | [x_some, x_kinds, x_loose, x_others] => w__law_due T x_some x_kinds x_loose x_others Qx Q C
  | _ => False
theorem cl__law_due (T : Tp P K mg) {x_some x_kinds x_loose x_others : D} {Qx : QX} {C : Cells} {Q : QE} (h : w__law_due T x_some x_kinds x_loose x_others Qx Q C) : callW (fw__law_due T) Qx [x_some, x_kinds, x_loose, x_others] C Q := call_all h
theorem ok__law_due (T : Tp P K mg) : FnG P w K mg base 4 T.f__law_due T.d__law_due ["_law_some", "_law_kinds", "_law_loose", "_law_others"] (fw__law_due T) := by
  refine fnT T.F__law_due sc__law_due (fun ds C Q Qx h => ?_) (fun cdv A outer s H E X ds C Q hr h => ?_)
  · unfold fw__law_due at h; split at h
    · rfl
    · exact h.elim
  · unfold fw__law_due at h; split at h
    rotate_left
    · exact h.elim
    have hN := sc__law_due.nd
    have hu := hu_G hr
    have hg := hr.gd
    rename_i x_some x_kinds x_loose x_others
    generalize hQx : (fun cls fs C' => ∀ ρ, X.XQ cls fs ρ C' : QX) = Qx at h
    have hX : ∀ ρ cls fs C, Qx cls fs C → X.XQ cls fs ρ C := by subst hQx; exact fun ρ cls fs C h => h ρ
    clear hQx
    revert h; revert C
    show SB X _ [some x_some, some x_kinds, some x_loose, some x_others, none, none, none] (w__law_due T x_some x_kinds x_loose x_others Qx Q) _
    unfold w__law_due
    refine sb_if (st_p (sp_or (st_not (st_val (se_call (dds := []) (ok__law_are_names T) (hr.mono (by omega)) rfl T.g__law_are_names T.F__law_are_names.kp T.b__law_are_names .nil (fun _ => Reps.nil) (hX _) (sa_cons (se_var 0 rfl (pv 0)) sa_nil)))) (sp_or1 (st_cmp (se_callB (id := "len") rfl T.z_len (by decide +kernel) (sa_cons (se_var 0 rfl (pv 0)) sa_nil) (pLen_ok no1_ok)) se_int (oEq_ok hu noOwn_ok))))) ?_ ?_
    · exact sb_ret se_str (fun _ _ h => h)
    · refine sb_more ?_
      refine sb_if (st_not (st_val (se_call (dds := []) (ok__law_are_kinds T) (hr.mono (by omega)) rfl T.g__law_are_kinds T.F__law_are_kinds.kp T.b__law_are_kinds .nil (fun _ => Reps.nil) (hX _) (sa_cons (se_var 1 rfl (pv 1)) (sa_cons (se_var 0 rfl (pv 0)) sa_nil))))) ?_ ?_
      · exact sb_ret se_str (fun _ _ h => h)
      · refine sb_more ?_
        first | refine sb_setLc (r := fun x_names => [some x_some, some x_kinds, some x_loose, some x_others, some x_names, none, none]) [("_law_one", 5)] (.one 5) 4 rfl hN rfl rfl (sw_true rfl rfl rfl rfl) (blkOk_by rfl) (fun _ _ _ _ _ => pg_name (i := 5) hN rfl (by first | exact .inl rfl | exact .inr rfl)) (by decide) (si_iter (se_var 1 rfl (pv 1))) (bd_one (r := fun x_one => [some x_some, some x_kinds, some x_loose, some x_others, none, some x_one, none]) (fun _ => rfl) (fun x_one _ _ _ _ _ => (se_ix (se_var 5 rfl (pv 5)) se_int))) (fun _ => rfl) (fun x_names => ?_) | refine sb_set (r := fun x_names => [some x_some, some x_kinds, some x_loose, some x_others, some x_names, none, none]) 4 hN rfl (by first | exact .inl rfl | exact .inr rfl) (fun _ => rfl) (se_lc [("_law_one", 5)] (.one 5) rfl hN (blkOk_by rfl) (fun _ _ _ _ _ => pg_name (i := 5) hN rfl (by first | exact .inl rfl | exact .inr rfl)) (by decide) (si_iter (se_var 1 rfl (pv 1))) (bd_one (r := fun x_one => [some x_some, some x_kinds, some x_loose, some x_others, none, some x_one, none]) (fun _ => rfl) (fun x_one _ _ _ _ _ => (se_ix (se_var 5 rfl (pv 5)) se_int)))) (fun x_names => ?_)
        refine sb_if (st_p (sp_or (st_not (st_val (se_call (dds := []) (ok__law_are_names T) (hr.mono (by omega)) rfl T.g__law_are_names T.F__law_are_names.kp T.b__law_are_names .nil (fun _ => Reps.nil) (hX _) (sa_cons (se_var 2 rfl (pv 2)) sa_nil)))) (sp_or1 (st_cmp (se_lc1 [("_law_name", 6)] (.one 6) rfl hN (blkOk_by rfl) (fun _ _ _ _ _ => pg_name (i := 6) hN rfl (by first | exact .inl rfl | exact .inr rfl)) (by decide) (si_iter (se_var 2 rfl (pv 2))) (bdT_one (r := fun x_name => [some x_some, some x_kinds, some x_loose, some x_others, some x_names, none, some x_name]) (fun _ => rfl) (fun x_name _ _ _ _ _ => (st_cmp (se_var 6 rfl (pv 6)) (se_var 4 rfl (pv 4)) oNotIn_ok))) (bd_one (r := fun x_name => [some x_some, some x_kinds, some x_loose, some x_others, some x_names, none, some x_name]) (fun _ => rfl) (fun x_name _ _ _ _ _ => (se_var 6 rfl (pv 6))))) (se_lst sa_nil) (oNe_ok hu noOwn_ok))))) ?_ ?_
        · exact sb_ret se_str (fun _ _ h => h)
        · refine sb_more ?_
          exact sb_ret (se_if (st_p (sp_and (st_val (se_call (dds := []) (ok__law_are_names T) (hr.mono (by omega)) rfl T.g__law_are_names T.F__law_are_names.kp T.b__law_are_names .nil (fun _ => Reps.nil) (hX _) (sa_cons (se_var 3 rfl (pv 3)) sa_nil))) (sp_and1 (st_cmp (se_lc1 [("_law_name", 6)] (.one 6) rfl hN (blkOk_by rfl) (fun _ _ _ _ _ => pg_name (i := 6) hN rfl (by first | exact .inl rfl | exact .inr rfl)) (by decide) (si_iter (se_var 3 rfl (pv 3))) (bdT_one (r := fun x_name1 => [some x_some, some x_kinds, some x_loose, some x_others, some x_names, none, some x_name1]) (fun _ => rfl) (fun x_name1 _ _ _ _ _ => (st_cmp (se_var 6 rfl (pv 6)) (se_var 4 rfl (pv 4)) oNotIn_ok))) (bd_one (r := fun x_name1 => [some x_some, some x_kinds, some x_loose, some x_others, some x_names, none, some x_name1]) (fun _ => rfl) (fun x_name1 _ _ _ _ _ => (se_var 6 rfl (pv 6))))) (se_lst sa_nil) (oEq_ok hu noOwn_ok))))) se_non se_str) (fun _ _ h => h)
def w__law_any (T : Tp P K mg) (frec : FS) (x_deal_here x_deep : D) (Qx : QX) (Q : QE) : MB := mIf (tAnd (tBin (eVal x_deep) (eVal (.int 0)) oGt) (tBin (eArgs (aCons (eVal x_deal_here) (aCons (eVal (.int 3)) aNil)) fun ds => callW (fw__law_draw T) Qx (ds ++ [])) (eVal (.int 0)) (oEq noOwn))) (mSet (eLc (iApp (eArgs (aCons (eVal x_deal_here) (aCons (eVal (.int 4)) aNil)) fun ds => callW (fw__law_draw T) Qx (ds ++ [])) pRange1) (fun x_turn => (eArgs (aCons (eVal x_deal_here) (aCons (eBin (eVal x_deep) (eVal (.int 1)) oSub) aNil)) fun ds => callW frec (fun _ _ _ => False) (ds ++ [])))) fun x_inner => mRet (eIf (tBin (eArgs (aCons (eVal x_deal_here) (aCons (eVal (.int 2)) aNil)) fun ds => callW (fw__law_draw T) Qx (ds ++ [])) (eVal (.int 0)) (oEq noOwn)) (eVal x_inner) (eArgs (aCons (eVal x_inner) aNil) (on1 pTuple1))) Q) (mSet (eArgs (aCons (eVal .non) (aCons (eVal (.bl true)) (aCons (eVal (.bl false)) (aCons (eVal (.int 0)) (aCons (eVal (.int 1)) (aCons (eBin (eVal (.int 0)) (eVal (.int 3)) oSub) (aCons (eBin (eVal (.int 10)) (eVal (.int 9)) oPow) (aCons (eVal (.str "")) (aCons (eVal (.str "a")) (aCons (eVal (.str "no")) (aCons (eVal (.str "yes")) (aCons (eVal (.str "abcde")) (aCons (eVal (.str "A")) (aCons (eVal (.str "x y")) (aCons (eArgs (aCons (eVal (.str "a")) (aCons (eArgs (aCons (eVal (.str "a")) aNil) pTup) aNil)) pTup) (aCons (eVal (.str "on")) aNil)))))))))))))))) pLst) fun x_some => mRet (eBin (eVal x_some) (eArgs (aCons (eVal x_deal_here) (aCons (eVal (.int 16)) aNil)) fun ds => callW (fw__law_draw T) Qx (ds ++ [])) pIx) Q)
def fw__law_any (T : Tp P K mg) : Nat → FS
  | 0 => fun _ _ _ _ => False
  | n + 1 => fun ds C Q Qx => match ds with
    | [x_deal_here, x_deep] => w__law_any T (fw__law_any T n) x_deal_here x_deep Qx Q C
    | _ => False
theorem ok__law_any (T : Tp P K mg) : ∀ n, FnG P w K mg base (1 + n + 1) T.f__law_any T.d__law_any ["_law_deal_here", "_law_deep"] (fw__law_any T n)
  | 0 => ⟨fun _ _ _ _ h => h.elim, fun _ _ _ _ _ _ _ _ _ _ _ _ _ ⟨_, _, _, _, _, _, _, h, _⟩ => h.elim⟩
  | n + 1 => by
    have ihr := ok__law_any T n
    show FnG P w K mg base _ _ _ _ (fun ds C Q Qx => match ds with
    | [x_deal_here, x_deep] => w__law_any T (fw__law_any T n) x_deal_here x_deep Qx Q C
    | _ => False)
    generalize fw__law_any T n = frec at ihr ⊢
    refine fnT T.F__law_any sc__law_any (fun ds C Q Qx h => ?_) (fun cdv A outer s H E X ds C Q hr h => ?_)
    · skip; split at h
      · rfl
      · exact h.elim
    · skip; split at h
      rotate_left
      · exact h.elim
      have hN := sc__law_any.nd
      have hu := hu_G hr
      have hg := hr.gd
      rename_i x_deal_here x_deep
      generalize hQx : (fun cls fs C' => ∀ ρ, X.XQ cls fs ρ C' : QX) = Qx at h
      have hX : ∀ ρ cls fs C, Qx cls fs C → X.XQ cls fs ρ C := by subst hQx; exact fun ρ cls fs C h => h ρ
      clear hQx
      revert h; revert C
      show SB X _ [some x_deal_here, some x_deep, none, none, none] (w__law_any T frec x_deal_here x_deep Qx Q) _
      unfold w__law_any
      refine sb_if (st_p (sp_and (st_cmp (se_var 1 rfl (pv 1)) se_int oGt_ok) (sp_and1 (st_cmp (se_call (dds := []) (ok__law_draw T) (hr.mono (by omega)) rfl T.g__law_draw T.F__law_draw.kp T.b__law_draw .nil (fun _ => Reps.nil) (hX _) (sa_cons (se_var 0 rfl (pv 0)) (sa_cons se_int sa_nil))) se_int (oEq_ok hu noOwn_ok))))) ?_ ?_
      · first | refine sb_setLc (r := fun x_inner => [some x_deal_here, some x_deep, some x_inner, none, none]) [("_law_turn", 4)] (.one 4) 2 rfl hN rfl rfl (sw_true rfl rfl rfl rfl) (blkOk_by rfl) (fun _ _ _ _ _ => pg_name (i := 4) hN rfl (by first | exact .inl rfl | exact .inr rfl)) (by decide) (si_range1 rfl T.z_range (se_call (dds := []) (ok__law_draw T) (hr.mono (by omega)) rfl T.g__law_draw T.F__law_draw.kp T.b__law_draw .nil (fun _ => Reps.nil) (hX _) (sa_cons (se_var 0 rfl (pv 0)) (sa_cons se_int sa_nil)))) (bd_one (r := fun x_turn => [some x_deal_here, some x_deep, none, none, some x_turn]) (fun _ => rfl) (fun x_turn _ _ _ _ _ => (se_call (dds := []) ihr (hr.mono (by omega)) rfl T.g__law_any T.F__law_any.kp T.b__law_any .nil (fun _ => Reps.nil) (fun _ _ _ h => h.elim) (sa_cons (se_var 0 rfl (pv 0)) (sa_cons (se_bin (se_var 1 rfl (pv 1)) se_int oSub_ok) sa_nil))))) (fun _ => rfl) (fun x_inner => ?_) | refine sb_set (r := fun x_inner => [some x_deal_here, some x_deep, some x_inner, none, none]) 2 hN rfl (by first | exact .inl rfl | exact .inr rfl) (fun _ => rfl) (se_lc [("_law_turn", 4)] (.one 4) rfl hN (blkOk_by rfl) (fun _ _ _ _ _ => pg_name (i := 4) hN rfl (by first | exact .inl rfl | exact .inr rfl)) (by decide) (si_range1 rfl T.z_range (se_call (dds := []) (ok__law_draw T) (hr.mono (by omega)) rfl T.g__law_draw T.F__law_draw.kp T.b__law_draw .nil (fun _ => Reps.nil) (hX _) (sa_cons (se_var 0 rfl (pv 0)) (sa_cons se_int sa_nil)))) (bd_one (r := fun x_turn => [some x_deal_here, some x_deep, none, none, some x_turn]) (fun _ => rfl) (fun x_turn _ _ _ _ _ => (se_call (dds := []) ihr (hr.mono (by omega)) rfl T.g__law_any T.F__law_any.kp T.b__law_any .nil (fun _ => Reps.nil) (fun _ _ _ h => h.elim) (sa_cons (se_var 0 rfl (pv 0)) (sa_cons (se_bin (se_var 1 rfl (pv 1)) se_int oSub_ok) sa_nil)))))) (fun x_inner => ?_)
        exact sb_ret (se_if (st_cmp (se_call (dds := []) (ok__law_draw T) (hr.mono (by omega)) rfl T.g__law_draw T.F__law_draw.kp T.b__law_draw .nil (fun _ => Reps.nil) (hX _) (sa_cons (se_var 0 rfl (pv 0)) (sa_cons se_int sa_nil))) se_int (oEq_ok hu noOwn_ok)) (se_var 2 rfl (pv 2)) (se_callTy (id := "tuple") rfl T.z_tuple (by decide +kernel) (sa_cons (se_var 2 rfl (pv 2)) sa_nil) pTuple_ok)) (fun _ _ h => h)
      · refine sb_more ?_
        refine sb_set (r := fun x_some => [some x_deal_here, some x_deep, none, some x_some, none]) 3 hN rfl (by first | exact .inl rfl | exact .inr rfl) (fun _ => rfl) (se_lst (sa_cons se_non (sa_cons se_bl (sa_cons se_bl (sa_cons se_int (sa_cons se_int (sa_cons (se_bin se_int se_int oSub_ok) (sa_cons (se_bin se_int se_int oPow_ok) (sa_cons se_str (sa_cons se_str (sa_cons se_str (sa_cons se_str (sa_cons se_str (sa_cons se_str (sa_cons se_str (sa_cons (se_tup (sa_cons se_str (sa_cons (se_tup (sa_cons se_str sa_nil)) sa_nil))) (sa_cons se_str sa_nil))))))))))))))))) (fun x_some => ?_)
        exact sb_ret (se_ix (se_var 3 rfl (pv 3)) (se_call (dds := []) (ok__law_draw T) (hr.mono (by omega)) rfl T.g__law_draw T.F__law_draw.kp T.b__law_draw .nil (fun _ => Reps.nil) (hX _) (sa_cons (se_var 0 rfl (pv 0)) (sa_cons se_int sa_nil)))) (fun _ _ h => h)
def w__law_bent (T : Tp P K mg) (x_deal_here x_things : D) (Qx : QX) (Q : QE) : MB := mSet (eArgs (aCons (eVal x_things) aNil) (on1 pList1)) fun x_found => mSet (eArgs (aCons (eVal x_deal_here) (aCons (eVal (.int 7)) aNil)) fun ds => callW (fw__law_draw T) Qx (ds ++ [])) fun x_form => mIf (tOr (tBin (eVal x_form) (eVal (.int 0)) (oEq noOwn)) (tBin (eVal x_found) (eArgs aNil pLst) (oEq noOwn))) (mRet (eDrop (eArgs (aCons (eVal x_deal_here) (aCons (eVal (.int 2)) aNil)) fun ds => callW (fw__law_any T 3) Qx (ds ++ []))) Q) (mSet (eArgs (aCons (eVal x_deal_here) (aCons (eArgs (aCons (eVal x_found) aNil) (on1 (pLen1 no1))) aNil)) fun ds => callW (fw__law_draw T) Qx (ds ++ [])) fun x_at => mIf (tBin (eVal x_form) (eVal (.int 1)) (oEq noOwn)) (mRet (eDrop (eBin (eVal x_found) (eSl (eVal x_found) (oSome (eVal x_at)) (oSome (eBin (eVal x_at) (eVal (.int 1)) oAdd))) oAdd)) Q) (mIf (tBin (eVal x_form) (eVal (.int 2)) (oEq noOwn)) (mRet (eDrop (eBin (eSl (eVal x_found) oNone (oSome (eVal x_at))) (eSl (eVal x_found) (oSome (eBin (eVal x_at) (eVal (.int 1)) oAdd)) oNone) oAdd)) Q) (mIf (tAnd (tBin (eVal x_form) (eVal (.int 5)) oLt) (tAnd (tVal (eArgs (aCons (eBin (eVal x_found) (eVal x_at) pIx) (aCons (eVal (.raw (.ty "tuple"))) aNil)) (on2 (pIsI K)))) (tAnd (tBin (eArgs (aCons (eBin (eVal x_found) (eVal x_at) pIx) aNil) (on1 (pLen1 no1))) (eVal (.int 2)) (oEq noOwn)) (tVal (eArgs (aCons (eBin (eBin (eVal x_found) (eVal x_at) pIx) (eVal (.int 1)) pIx) (aCons (eVal (.raw (.ty "list"))) aNil)) (on2 (pIsI K))))))) (mSet (eBin (eVal x_found) (eVal x_at) pIx) fun x_d => mUn2 x_d fun x_name x_targets => mSet (eArgs (aCons (eArgs (aCons (eVal x_name) (aCons (eBin (eVal x_targets) (eArgs (aCons (eVal .non) aNil) pLst) oAdd) aNil)) pTup) (aCons (eArgs (aCons (eVal x_name) (aCons (eSl (eVal x_targets) (oSome (eVal (.int 1))) oNone) aNil)) pTup) (aCons (eArgs (aCons (eVal x_targets) (aCons (eVal x_name) aNil)) pTup) (aCons (eArgs (aCons (eVal x_name) (aCons (eVal x_targets) aNil)) pLst) aNil)))) pLstC) fun x_bent_here => mExp (eL1 (eVal x_bent_here) (eArgs (aCons (eVal x_name) (aCons (eBin (eArgs (aCons (eVal (.str "zz")) aNil) pLstC) (eArgs (aCons (eVal x_targets) aNil) (on1 (pLen1 no1))) oMulC) aNil)) pTup) pApp) (mSet (eBin (eVal x_bent_here) (eArgs (aCons (eArgs (aCons (eVal x_name) (aCons (eArgs (aCons (eVal x_targets) aNil) (on1 pTuple1)) aNil)) pTup) (aCons (eArgs (aCons (eVal x_name) (aCons (eVal x_targets) (aCons (eVal (.int 1)) aNil))) pTup) (aCons (eArgs (aCons (eVal (.str "no")) (aCons (eVal x_targets) aNil)) pTup) (aCons (eArgs (aCons (eVal x_name) (aCons (eVal .non) aNil)) pTup) aNil)))) pLst) oAddC) fun x_bent_here1 => mRet (eDrop (eBin (eBin (eSl (eVal x_found) oNone (oSome (eVal x_at))) (eArgs (aCons (eBin (eVal x_bent_here1) (eArgs (aCons (eVal x_deal_here) (aCons (eVal (.int 9)) aNil)) fun ds => callW (fw__law_draw T) Qx (ds ++ [])) pIx) aNil) pLst) oAdd) (eSl (eVal x_found) (oSome (eBin (eVal x_at) (eVal (.int 1)) oAdd)) oNone) oAdd)) Q)) (mRet (eDrop (eBin (eBin (eSl (eVal x_found) oNone (oSome (eVal x_at))) (eArgs (aCons (eArgs (aCons (eVal x_deal_here) (aCons (eVal (.int 2)) aNil)) fun ds => callW (fw__law_any T 3) Qx (ds ++ [])) aNil) pLst) oAdd) (eSl (eVal x_found) (oSome (eBin (eVal x_at) (eVal (.int 1)) oAdd)) oNone) oAdd)) Q))))
def fw__law_bent (T : Tp P K mg) : FS := fun ds C Q Qx => match ds with
  | [x_deal_here, x_things] => w__law_bent T x_deal_here x_things Qx Q C
  | _ => False
theorem ok__law_bent (T : Tp P K mg) : FnG P w K mg base 6 T.f__law_bent T.d__law_bent ["_law_deal_here", "_law_things"] (fw__law_bent T) := by
  refine fnT T.F__law_bent sc__law_bent (fun ds C Q Qx h => ?_) (fun cdv A outer s H E X ds C Q hr h => ?_)
  · unfold fw__law_bent at h; split at h
    · rfl
    · exact h.elim
  · unfold fw__law_bent at h; split at h
    rotate_left
    · exact h.elim
    have hN := sc__law_bent.nd
    have hu := hu_G hr
    have hg := hr.gd
    rename_i x_deal_here x_things
    generalize hQx : (fun cls fs C' => ∀ ρ, X.XQ cls fs ρ C' : QX) = Qx at h
    have hX : ∀ ρ cls fs C, Qx cls fs C → X.XQ cls fs ρ C := by subst hQx; exact fun ρ cls fs C h => h ρ
    clear hQx
    revert h; revert C
    show SB X _ [some x_deal_here, some x_things, none, none, none, none, none, none] (w__law_bent T x_deal_here x_things Qx Q) _
    unfold w__law_bent
    refine sb_par (r := fun x_found x_form => [some x_deal_here, some x_things, some x_found, some x_form, none, none, none, none]) 2 3 hN rfl rfl (by decide) rfl rfl rfl (se_callTy (id := "list") rfl T.z_list (by decide +kernel) (sa_cons (se_var 1 rfl (pv 1)) sa_nil) pList_ok) (se_call (dds := []) (ok__law_draw T) (hr.mono (by omega)) rfl T.g__law_draw T.F__law_draw.kp T.b__law_draw .nil (fun _ => Reps.nil) (hX _) (sa_cons (se_var 0 rfl (pv 0)) (sa_cons se_int sa_nil))) (fun _ _ => rfl) (fun x_found x_form => ?_)
    refine sb_if (st_p (sp_or (st_cmp (se_var 3 rfl (pv 3)) se_int (oEq_ok hu noOwn_ok)) (sp_or1 (st_cmp (se_var 2 rfl (pv 2)) (se_lst sa_nil) (oEq_ok hu noOwn_ok))))) ?_ ?_
    · exact sb_ret (se_drop (se_call (dds := []) (ok__law_any T 3) (hr.mono (by omega)) rfl T.g__law_any T.F__law_any.kp T.b__law_any .nil (fun _ => Reps.nil) (hX _) (sa_cons (se_var 0 rfl (pv 0)) (sa_cons se_int sa_nil)))) (fun _ _ h => h)
    · refine sb_more ?_
      refine sb_set (r := fun x_at => [some x_deal_here, some x_things, some x_found, some x_form, some x_at, none, none, none]) 4 hN rfl (by first | exact .inl rfl | exact .inr rfl) (fun _ => rfl) (se_call (dds := []) (ok__law_draw T) (hr.mono (by omega)) rfl T.g__law_draw T.F__law_draw.kp T.b__law_draw .nil (fun _ => Reps.nil) (hX _) (sa_cons (se_var 0 rfl (pv 0)) (sa_cons (se_callB (id := "len") rfl T.z_len (by decide +kernel) (sa_cons (se_var 2 rfl (pv 2)) sa_nil) (pLen_ok no1_ok)) sa_nil))) (fun x_at => ?_)
      refine sb_if (st_cmp (se_var 3 rfl (pv 3)) se_int (oEq_ok hu noOwn_ok)) ?_ ?_
      · exact sb_ret (se_drop (se_bin (se_var 2 rfl (pv 2)) (se_slice (se_var 2 rfl (pv 2)) (so_some (se_var 4 rfl (pv 4))) (so_some (se_bin (se_var 4 rfl (pv 4)) se_int oAdd_ok))) oAdd_ok)) (fun _ _ h => h)
      · refine sb_more ?_
        refine sb_if (st_cmp (se_var 3 rfl (pv 3)) se_int (oEq_ok hu noOwn_ok)) ?_ ?_
        · exact sb_ret (se_drop (se_bin (se_slice (se_var 2 rfl (pv 2)) so_none (so_some (se_var 4 rfl (pv 4)))) (se_slice (se_var 2 rfl (pv 2)) (so_some (se_bin (se_var 4 rfl (pv 4)) se_int oAdd_ok)) so_none) oAdd_ok)) (fun _ _ h => h)
        · refine sb_more ?_
          refine sb_if (st_p (sp_and (st_cmp (se_var 3 rfl (pv 3)) se_int oLt_ok) (sp_and (st_val (se_callB (id := "isinstance") rfl T.z_isinstance (by decide +kernel) (sa_cons (se_ix (se_var 2 rfl (pv 2)) (se_var 4 rfl (pv 4))) (sa_cons (se_ty rfl T.z_tuple (by decide +kernel)) sa_nil)) pIsI_ok)) (sp_and (st_cmp (se_callB (id := "len") rfl T.z_len (by decide +kernel) (sa_cons (se_ix (se_var 2 rfl (pv 2)) (se_var 4 rfl (pv 4))) sa_nil) (pLen_ok no1_ok)) se_int (oEq_ok hu noOwn_ok)) (sp_and1 (st_val (se_callB (id := "isinstance") rfl T.z_isinstance (by decide +kernel) (sa_cons (se_ix (se_ix (se_var 2 rfl (pv 2)) (se_var 4 rfl (pv 4))) se_int) (sa_cons (se_ty rfl T.z_list (by decide +kernel)) sa_nil)) pIsI_ok))))))) ?_ ?_
          · refine sb_asg (se_ix (se_var 2 rfl (pv 2)) (se_var 4 rfl (pv 4))) (fun x_d => ?_)
            refine sg_two (r := fun x_name x_targets => [some x_deal_here, some x_things, some x_found, some x_form, some x_at, some x_name, some x_targets, none]) rfl (fun _ _ => (gs_cons 5 (pg_name (i := 5) hN rfl (by first | exact .inl rfl | exact .inr rfl)) (gs_cons 6 (pg_name (i := 6) hN rfl (by first | exact .inl rfl | exact .inr rfl)) gs_nil))) (fun x_name x_targets => ?_)
            refine sb_set (r := fun x_bent_here => [some x_deal_here, some x_things, some x_found, some x_form, some x_at, some x_name, some x_targets, some x_bent_here]) 7 hN rfl (by first | exact .inl rfl | exact .inr rfl) (fun _ => rfl) (se_lstC (sa_cons (se_tup (sa_cons (se_var 5 rfl (pv 5)) (sa_cons (se_bin (se_var 6 rfl (pv 6)) (se_lst (sa_cons se_non sa_nil)) oAdd_ok) sa_nil))) (sa_cons (se_tup (sa_cons (se_var 5 rfl (pv 5)) (sa_cons (se_slice (se_var 6 rfl (pv 6)) (so_some se_int) so_none) sa_nil))) (sa_cons (se_tup (sa_cons (se_var 6 rfl (pv 6)) (sa_cons (se_var 5 rfl (pv 5)) sa_nil))) (sa_cons (se_lst (sa_cons (se_var 5 rfl (pv 5)) (sa_cons (se_var 6 rfl (pv 6)) sa_nil))) sa_nil))))) (fun x_bent_here => ?_)
            refine sb_exp (se_append (se_var 7 rfl (pv 7)) (se_tup (sa_cons (se_var 5 rfl (pv 5)) (sa_cons (se_bin (se_lstC (sa_cons se_str sa_nil)) (se_callB (id := "len") rfl T.z_len (by decide +kernel) (sa_cons (se_var 6 rfl (pv 6)) sa_nil) (pLen_ok no1_ok)) oMulC_ok) sa_nil)))) ?_
            refine sb_set (r := fun x_bent_here1 => [some x_deal_here, some x_things, some x_found, some x_form, some x_at, some x_name, some x_targets, some x_bent_here1]) 7 hN rfl (by first | exact .inl rfl | exact .inr rfl) (fun _ => rfl) (se_bin (se_var 7 rfl (pv 7)) (se_lst (sa_cons (se_tup (sa_cons (se_var 5 rfl (pv 5)) (sa_cons (se_callTy (id := "tuple") rfl T.z_tuple (by decide +kernel) (sa_cons (se_var 6 rfl (pv 6)) sa_nil) pTuple_ok) sa_nil))) (sa_cons (se_tup (sa_cons (se_var 5 rfl (pv 5)) (sa_cons (se_var 6 rfl (pv 6)) (sa_cons se_int sa_nil)))) (sa_cons (se_tup (sa_cons se_str (sa_cons (se_var 6 rfl (pv 6)) sa_nil))) (sa_cons (se_tup (sa_cons (se_var 5 rfl (pv 5)) (sa_cons se_non sa_nil))) sa_nil))))) oAddC_ok) (fun x_bent_here1 => ?_)
            exact sb_ret (se_drop (se_bin (se_bin (se_slice (se_var 2 rfl (pv 2)) so_none (so_some (se_var 4 rfl (pv 4)))) (se_lst (sa_cons (se_ix (se_var 7 rfl (pv 7)) (se_call (dds := []) (ok__law_draw T) (hr.mono (by omega)) rfl T.g__law_draw T.F__law_draw.kp T.b__law_draw .nil (fun _ => Reps.nil) (hX _) (sa_cons (se_var 0 rfl (pv 0)) (sa_cons se_int sa_nil)))) sa_nil)) oAdd_ok) (se_slice (se_var 2 rfl (pv 2)) (so_some (se_bin (se_var 4 rfl (pv 4)) se_int oAdd_ok)) so_none) oAdd_ok)) (fun _ _ h => h)
          · refine sb_more ?_
            exact sb_ret (se_drop (se_bin (se_bin (se_slice (se_var 2 rfl (pv 2)) so_none (so_some (se_var 4 rfl (pv 4)))) (se_lst (sa_cons (se_call (dds := []) (ok__law_any T 3) (hr.mono (by omega)) rfl T.g__law_any T.F__law_any.kp T.b__law_any .nil (fun _ => Reps.nil) (hX _) (sa_cons (se_var 0 rfl (pv 0)) (sa_cons se_int sa_nil))) sa_nil)) oAdd_ok) (se_slice (se_var 2 rfl (pv 2)) (so_some (se_bin (se_var 4 rfl (pv 4)) se_int oAdd_ok)) so_none) oAdd_ok)) (fun _ _ h => h)
def w_law_a2 (T : Tp P K mg)  (Qx : QX) (Q : QE) (s1 : Unit) : MB := mRet (eDrop (eVal (.bl true))) Q
def w_law_a4 (T : Tp P K mg) (x_things : D) (nx1 : (Unit) → MB) (Qx : QX) (Q : QE) (s3 : Unit) : MB := mSet (eVal x_things) fun x_d => mUnC4 x_d fun x_some x_kinds x_loose x_others => mIf (tBin (eArgs (aCons (eArgs (aCons (eVal x_some) (aCons (eVal x_kinds) (aCons (eVal x_loose) (aCons (eVal x_others) aNil)))) fun ds => callW (fw__law_tried T) Qx (ds ++ [])) aNil) (on1 pRepr1)) (eArgs (aCons (eArgs (aCons (eVal x_some) (aCons (eVal x_kinds) (aCons (eVal x_loose) (aCons (eVal x_others) aNil)))) fun ds => callW (fw__law_due T) Qx (ds ++ [])) aNil) (on1 pRepr1)) (oNe noOwn)) (mRet (eDrop (eVal (.bl false))) Q) (mPart (nx1 ()))
def w_law_l3 (T : Tp P K mg) (x_deal_here : D) (x_things : D) (Qx : QX) (Q : QE) (d3 : D) (s3 : Unit) (nx3 : (Unit) → MB) (bk3 : (Unit) → MB) : MB := mSet (eArgs (aCons (eVal x_deal_here) (aCons (eVal (.int 4)) aNil)) fun ds => callW (fw__law_draw T) Qx (ds ++ [])) fun x_at => mIf (tVal (eArgs (aCons (eBin (eVal x_things) (eVal x_at) pIx) (aCons (eArgs (aCons (eVal (.raw (.ty "list"))) (aCons (eVal (.raw (.ty "tuple"))) aNil)) pTup) aNil)) (on2 (pIsI K)))) (mSet (eArgs (aCons (eVal x_deal_here) (aCons (eBin (eVal x_things) (eVal x_at) pIx) aNil)) fun ds => callW (fw__law_bent T) Qx (ds ++ [])) fun x_d1 => mSub (eVal x_things) (eVal x_at) x_d1 (mPart (nx3 ()))) (mPart (nx3 ()))
def w_law_l1 (T : Tp P K mg) (x_deal_here : D) (Qx : QX) (Q : QE) (d1 : D) (s1 : Unit) (nx1 : (Unit) → MB) (bk1 : (Unit) → MB) : MB := mSet (eArgs (aCons (eArgs (aCons (eVal x_deal_here) (aCons (eVal (.int 3)) aNil)) fun ds => callW (fw__law_book T) Qx (ds ++ [])) aNil) (on1 pListC1)) fun x_things => mFor (α := Unit) (iApp (eBin (eVal (.int 1)) (eArgs (aCons (eVal x_deal_here) (aCons (eVal (.int 2)) aNil)) fun ds => callW (fw__law_draw T) Qx (ds ++ [])) oAdd) pRange1) (w_law_l3 T x_deal_here x_things Qx Q) () (w_law_a4 T x_things nx1 Qx Q)
def w_law (T : Tp P K mg) (x_script : D) (Qx : QX) (Q : QE) : MB := mSet (eArgs (aCons (eVal x_script) (aCons (eVal (.int 0)) aNil)) fun ds => callW (fw__law_deal T) Qx (ds ++ [])) fun x_deal_here => mFor (α := Unit) (iApp (eVal (.int 16)) pRange1) (w_law_l1 T x_deal_here Qx Q) () (w_law_a2 T Qx Q)
def fw_law (T : Tp P K mg) : FS := fun ds C Q Qx => match ds with
  | [x_script] => w_law T x_script Qx Q C
  | _ => False
theorem ok_law (T : Tp P K mg) : FnG P w K mg base 7 T.f_law T.d_law ["_law_script"] (fw_law T) := by
  refine fnT T.F_law sc_law (fun ds C Q Qx h => ?_) (fun cdv A outer s H E X ds C Q hr h => ?_)
  · unfold fw_law at h; split at h
    · rfl
    · exact h.elim
  · unfold fw_law at h; split at h
    rotate_left
    · exact h.elim
    have hN := sc_law.nd
    have hu := hu_G hr
    have hg := hr.gd
    rename_i x_script
    generalize hQx : (fun cls fs C' => ∀ ρ, X.XQ cls fs ρ C' : QX) = Qx at h
    have hX : ∀ ρ cls fs C, Qx cls fs C → X.XQ cls fs ρ C := by subst hQx; exact fun ρ cls fs C h => h ρ
    clear hQx
    revert h; revert C
    show SB X _ [some x_script, none, none, none, none, none, none, none, none, none] (w_law T x_script Qx Q) _
    unfold w_law
    refine sb_set (r := fun x_deal_here => [some x_script, some x_deal_here, none, none, none, none, none, none, none, none]) 1 hN rfl (by first | exact .inl rfl | exact .inr rfl) (fun _ => rfl) (se_call (dds := []) (ok__law_deal T) (hr.mono (by omega)) rfl T.g__law_deal T.F__law_deal.kp T.b__law_deal .nil (fun _ => Reps.nil) (hX _) (sa_cons (se_var 0 rfl (pv 0)) (sa_cons se_int sa_nil))) (fun x_deal_here => ?_)
    refine sb_for (α := Unit) (fun s1 => [some x_script, some x_deal_here, none, none, none, none, none, none, none, none]) rfl (si_range1 rfl T.z_range se_int) (by walk_at "le") (fun d1 s1 nx1 bk1 W V hW1 hV1 => ?_) (fun s1 => ?_)
    · unfold w_law_l1
      refine sg_name (r := [some x_script, some x_deal_here, some d1, none, none, none, none, none, none, none]) 2 rfl ?_ (pg_name (i := 2) hN rfl (by first | exact .inl rfl | exact .inr rfl))
      refine sb_set (r := fun x_things => [some x_script, some x_deal_here, some d1, some x_things, none, none, none, none, none, none]) 3 hN rfl (by first | exact .inl rfl | exact .inr rfl) (fun _ => rfl) (se_callTy (id := "list") rfl T.z_list (by decide +kernel) (sa_cons (se_call (dds := []) (ok__law_book T) (hr.mono (by omega)) rfl T.g__law_book T.F__law_book.kp T.b__law_book .nil (fun _ => Reps.nil) (hX _) (sa_cons (se_var 1 rfl (pv 1)) (sa_cons se_int sa_nil))) sa_nil) pListC_ok) (fun x_things => ?_)
      refine sb_for (α := Unit) (fun s3 => [some x_script, some x_deal_here, some d1, some x_things, none, none, none, none, none, none]) rfl (si_range1 rfl T.z_range (se_bin se_int (se_call (dds := []) (ok__law_draw T) (hr.mono (by omega)) rfl T.g__law_draw T.F__law_draw.kp T.b__law_draw .nil (fun _ => Reps.nil) (hX _) (sa_cons (se_var 1 rfl (pv 1)) (sa_cons se_int sa_nil))) oAdd_ok)) (by walk_at "le") (fun d3 s3 nx3 bk3 W V hW3 hV3 => ?_) (fun s3 => ?_)
      · unfold w_law_l3
        refine sg_name (r := [some x_script, some x_deal_here, some d1, some x_things, some d3, none, none, none, none, none]) 4 rfl ?_ (pg_name (i := 4) hN rfl (by first | exact .inl rfl | exact .inr rfl))
        refine sb_set (r := fun x_at => [some x_script, some x_deal_here, some d1, some x_things, some d3, some x_at, none, none, none, none]) 5 hN rfl (by first | exact .inl rfl | exact .inr rfl) (fun _ => rfl) (se_call (dds := []) (ok__law_draw T) (hr.mono (by omega)) rfl T.g__law_draw T.F__law_draw.kp T.b__law_draw .nil (fun _ => Reps.nil) (hX _) (sa_cons (se_var 1 rfl (pv 1)) (sa_cons se_int sa_nil))) (fun x_at => ?_)
        refine sb_if (st_val (se_callB (id := "isinstance") rfl T.z_isinstance (by decide +kernel) (sa_cons (se_ix (se_var 3 rfl (pv 3)) (se_var 5 rfl (pv 5))) (sa_cons (se_tup (sa_cons (se_ty rfl T.z_list (by decide +kernel)) (sa_cons (se_ty rfl T.z_tuple (by decide +kernel)) sa_nil))) sa_nil)) pIsI_ok)) ?_ ?_
        · refine sb_asg (se_call (dds := []) (ok__law_bent T) (hr.mono (by omega)) rfl T.g__law_bent T.F__law_bent.kp T.b__law_bent .nil (fun _ => Reps.nil) (hX _) (sa_cons (se_var 1 rfl (pv 1)) (sa_cons (se_ix (se_var 3 rfl (pv 3)) (se_var 5 rfl (pv 5))) sa_nil))) (fun x_d1 => ?_)
          refine sg_sub (se_var 3 rfl (pv 3)) (se_var 5 rfl (pv 5)) ?_
          refine sb_more ?_
          refine sb_part ?_
          exact sb_le hW3 (by walk_at "le")
        · refine sb_more ?_
          refine sb_part ?_
          exact sb_le hW3 (by walk_at "le")
      · unfold w_law_a4
        refine sb_asg (se_var 3 rfl (pv 3)) (fun x_d => ?_)
        refine sg_fourC (r := fun x_some x_kinds x_loose x_others => [some x_script, some x_deal_here, some d1, some x_things, none, none, some x_some, some x_kinds, some x_loose, some x_others]) rfl (fun _ _ _ _ => (gs_cons 6 (pg_name (i := 6) hN rfl (by first | exact .inl rfl | exact .inr rfl)) (gs_cons 7 (pg_name (i := 7) hN rfl (by first | exact .inl rfl | exact .inr rfl)) (gs_cons 8 (pg_name (i := 8) hN rfl (by first | exact .inl rfl | exact .inr rfl)) (gs_cons 9 (pg_name (i := 9) hN rfl (by first | exact .inl rfl | exact .inr rfl)) gs_nil))))) (fun x_some x_kinds x_loose x_others => ?_)
        refine sb_if (st_cmp (se_callB (id := "repr") rfl T.z_repr (by decide +kernel) (sa_cons (se_call (dds := []) (ok__law_tried T) (hr.mono (by omega)) rfl T.g__law_tried T.F__law_tried.kp T.b__law_tried .nil (fun _ => Reps.nil) (hX _) (sa_cons (se_var 6 rfl (pv 6)) (sa_cons (se_var 7 rfl (pv 7)) (sa_cons (se_var 8 rfl (pv 8)) (sa_cons (se_var 9 rfl (pv 9)) sa_nil))))) sa_nil) (pRepr_ok hg hu)) (se_callB (id := "repr") rfl T.z_repr (by decide +kernel) (sa_cons (se_call (dds := []) (ok__law_due T) (hr.mono (by omega)) rfl T.g__law_due T.F__law_due.kp T.b__law_due .nil (fun _ => Reps.nil) (hX _) (sa_cons (se_var 6 rfl (pv 6)) (sa_cons (se_var 7 rfl (pv 7)) (sa_cons (se_var 8 rfl (pv 8)) (sa_cons (se_var 9 rfl (pv 9)) sa_nil))))) sa_nil) (pRepr_ok hg hu)) (oNe_ok hu noOwn_ok)) ?_ ?_
        · exact sb_ret (se_drop se_bl) (fun _ _ h => h)
        · refine sb_more ?_
          refine sb_part ?_
          exact sb_le hW1 (by walk_at "le")
    · unfold w_law_a2
      exact sb_ret (se_drop se_bl) (fun _ _ h => h)
end
end Kk

namespace Kk
open PySem L2 PySem.Spec PyProof.Rows Tr
set_option hygiene false
local macro_rules | `(tactic| walk_at "cell") => `(tactic| first | exact LstD.l | exact LstD.c (i := 0) rfl | exact LstD.c (i := 1) rfl | exact LstD.c (i := 2) rfl | exact LstD.c (i := 3) rfl | exact LstD.c (i := 4) rfl | exact LstD.c (i := 5) rfl | exact LstD.c (i := 6) rfl | exact LstD.c (i := 7) rfl | with_reducible assumption | walk_at "cellx")
local macro_rules | `(tactic| walk_at "sq") => `(tactic| first | exact SeqD.l | exact SeqD.t | exact SeqD.c (i := 0) rfl | exact SeqD.c (i := 1) rfl | exact SeqD.c (i := 2) rfl | exact SeqD.c (i := 3) rfl | exact SeqD.c (i := 4) rfl | exact SeqD.c (i := 5) rfl | exact SeqD.c (i := 6) rfl | exact SeqD.c (i := 7) rfl | with_reducible assumption | exact .inl (by walk_at "cellx"))
local macro_rules | `(tactic| walk_at "n") => `(tactic| first | with_reducible assumption | omega | (simp only [List.length_cons, List.length_nil, List.length_map, List.length_append, rangeD_len]; omega) | decide | (simp; done) | (simp; omega) | (simp at *; omega) | exact Or.inl ⟨by decide, by decide⟩ | exact Or.inr ⟨by decide, by decide⟩ | exact ⟨by decide, by decide⟩ | exact ⟨by decide, by decide, by decide⟩)
local macro_rules | `(tactic| walk_at "nm") => `(tactic| first | exact Or.inl (by decide) | exact Or.inr (by decide) | exact Or.inl (by omega) | exact Or.inr (by omega))
local macro_rules | `(tactic| walk_at "p") => `(tactic| first
  | ((with_reducible show oAdd _ _ _ _); first | with_reducible refine s_add_int ?_ | with_reducible refine s_add_str ?_ | with_reducible refine s_add_tup ?_ | with_reducible refine s_add_lst ?_ | refine s_add_cell (by walk_at "cell") (by walk_at "cell") ?_)
  | ((with_reducible show oAddO _ _ _ _ _); first | refine s_addO rfl ?_ | refine s_addOI ?_)
  | ((with_reducible show pIxO _ _ _ _ _ _ _); refine s_ixO rfl ?_)
  | ((with_reducible show oSub _ _ _ _); first | with_reducible refine s_sub ?_)
  | ((with_reducible show oMul _ _ _ _); first | with_reducible refine s_mul ?_)
  | ((with_reducible show oFdiv _ _ _ _); first | with_reducible refine s_fdiv ?_)
  | ((with_reducible show oMod _ _ _ _); first | with_reducible refine s_mod ?_)
  | ((with_reducible show oPow _ _ _ _); first | with_reducible refine s_pow ?_)
  | ((with_reducible show oLt _ _ _ _); first | with_reducible refine s_lt ?_ | with_reducible refine s_lt_str ?_)
  | ((with_reducible show oLe _ _ _ _); first | with_reducible refine s_le ?_ | with_reducible refine s_le_str ?_)
  | ((with_reducible show oGt _ _ _ _); first | with_reducible refine s_gt ?_)
  | ((with_reducible show oGe _ _ _ _); first | with_reducible refine s_ge ?_)
  | ((with_reducible show pII _ _ _ _ _); first | with_reducible refine s_ii ?_)
  | ((with_reducible show oEq _ _ _ _ _); first | with_reducible refine s_eq_int ?_ | with_reducible refine s_eq_str ?_ | with_reducible refine s_eq_bl ?_ | walk_at "eq")
  | ((with_reducible show oNe _ _ _ _ _); first | with_reducible refine s_ne_int ?_ | with_reducible refine s_ne_str ?_ | with_reducible refine s_ne_bl ?_ | walk_at "ne")
  | ((with_reducible show oIs _ _ _ _); first | with_reducible refine s_is_bl ?_ | with_reducible refine s_isN_ref ?_ | refine s_isN rfl ?_)
  | ((with_reducible show oIsNot _ _ _ _); first | with_reducible refine s_isnot_bl ?_ | with_reducible refine s_isNotN_ref ?_ | refine s_isNotN rfl ?_)
  | ((with_reducible show oIn (.str _) (.tup (_ :: _)) _ _); first | refine s_inS (xs := [_]) .t ?_ | refine s_inS (xs := [_, _]) .t ?_ | refine s_inS (xs := [_, _, _]) .t ?_ | refine s_inS (xs := [_, _, _, _]) .t ?_ | refine s_inS (xs := [_, _, _, _, _]) .t ?_ | refine s_inS (xs := [_, _, _, _, _, _]) .t ?_ | refine s_inS (xs := [_, _, _, _, _, _, _]) .t ?_ | refine s_inS (xs := [_, _, _, _, _, _, _, _]) .t ?_ | refine s_inS (xs := [_, _, _, _, _, _, _, _, _]) .t ?_ | refine s_inS (xs := [_, _, _, _, _, _, _, _, _, _]) .t ?_ | refine s_inS (xs := [_, _, _, _, _, _, _, _, _, _, _]) .t ?_ | refine s_inS (xs := [_, _, _, _, _, _, _, _, _, _, _, _]) .t ?_ | refine s_inS (xs := [_, _, _, _, _, _, _, _, _, _, _, _, _]) .t ?_)
  | ((with_reducible show oIn (.str _) (.lst (_ :: _)) _ _); first | refine s_inS (xs := [_]) .l ?_ | refine s_inS (xs := [_, _]) .l ?_ | refine s_inS (xs := [_, _, _]) .l ?_ | refine s_inS (xs := [_, _, _, _]) .l ?_ | refine s_inS (xs := [_, _, _, _, _]) .l ?_ | refine s_inS (xs := [_, _, _, _, _, _]) .l ?_ | refine s_inS (xs := [_, _, _, _, _, _, _]) .l ?_ | refine s_inS (xs := [_, _, _, _, _, _, _, _]) .l ?_ | refine s_inS (xs := [_, _, _, _, _, _, _, _, _]) .l ?_ | refine s_inS (xs := [_, _, _, _, _, _, _, _, _, _]) .l ?_ | refine s_inS (xs := [_, _, _, _, _, _, _, _, _, _, _]) .l ?_ | refine s_inS (xs := [_, _, _, _, _, _, _, _, _, _, _, _]) .l ?_ | refine s_inS (xs := [_, _, _, _, _, _, _, _, _, _, _, _, _]) .l ?_)
  | ((with_reducible show oNotIn (.str _) (.tup (_ :: _)) _ _); first | refine s_notInS (xs := [_]) .t ?_ | refine s_notInS (xs := [_, _]) .t ?_ | refine s_notInS (xs := [_, _, _]) .t ?_ | refine s_notInS (xs := [_, _, _, _]) .t ?_ | refine s_notInS (xs := [_, _, _, _, _]) .t ?_ | refine s_notInS (xs := [_, _, _, _, _, _]) .t ?_ | refine s_notInS (xs := [_, _, _, _, _, _, _]) .t ?_ | refine s_notInS (xs := [_, _, _, _, _, _, _, _]) .t ?_ | refine s_notInS (xs := [_, _, _, _, _, _, _, _, _]) .t ?_ | refine s_notInS (xs := [_, _, _, _, _, _, _, _, _, _]) .t ?_ | refine s_notInS (xs := [_, _, _, _, _, _, _, _, _, _, _]) .t ?_ | refine s_notInS (xs := [_, _, _, _, _, _, _, _, _, _, _, _]) .t ?_ | refine s_notInS (xs := [_, _, _, _, _, _, _, _, _, _, _, _, _]) .t ?_)
  | ((with_reducible show oNotIn (.str _) (.lst (_ :: _)) _ _); first | refine s_notInS (xs := [_]) .l ?_ | refine s_notInS (xs := [_, _]) .l ?_ | refine s_notInS (xs := [_, _, _]) .l ?_ | refine s_notInS (xs := [_, _, _, _]) .l ?_ | refine s_notInS (xs := [_, _, _, _, _]) .l ?_ | refine s_notInS (xs := [_, _, _, _, _, _]) .l ?_ | refine s_notInS (xs := [_, _, _, _, _, _, _]) .l ?_ | refine s_notInS (xs := [_, _, _, _, _, _, _, _]) .l ?_ | refine s_notInS (xs := [_, _, _, _, _, _, _, _, _]) .l ?_ | refine s_notInS (xs := [_, _, _, _, _, _, _, _, _, _]) .l ?_ | refine s_notInS (xs := [_, _, _, _, _, _, _, _, _, _, _]) .l ?_ | refine s_notInS (xs := [_, _, _, _, _, _, _, _, _, _, _, _]) .l ?_ | refine s_notInS (xs := [_, _, _, _, _, _, _, _, _, _, _, _, _]) .l ?_)
  | ((with_reducible show oIn _ _ _ _); first | with_reducible refine s_inSign ?_ | refine s_inS (by walk_at "sq") ?_)
  | ((with_reducible show oNotIn _ _ _ _); refine s_notInS (by walk_at "sq") ?_)
  | ((with_reducible show oNotInS _ _ _ _); refine s_notInSign ?_)
  | ((with_reducible show pTup _ _ _); first | with_reducible refine s_tup ?_)
  | ((with_reducible show pLst _ _ _); first | with_reducible refine s_lst ?_)
  | ((with_reducible show pLstC _ _ _); first | with_reducible refine s_lstC ?_)
  | ((with_reducible show pTru _ _ _); first | with_reducible refine s_tru ?_)
  | ((with_reducible show pNeg _ _ _); first | with_reducible refine s_neg ?_)
  | ((with_reducible show pFld _ _ _ _ _); walk_at "fld")
  | ((with_reducible show pIx _ _ _ _); first | refine s_ix_tup (by rfl) ?_ | refine s_ix_lst (by rfl) ?_ | refine s_ix_cell (by walk_at "cell") (by rfl) ?_ | walk_at "ix")
  | ((with_reducible show pOI _ _ _); first | with_reducible refine s_oi ?_)
  | ((with_reducible show pSl _ _ _ _ _); first | with_reducible refine s_sl_tup ?_ | with_reducible refine s_sl_lst ?_ | with_reducible refine s_sl_str ?_ | refine s_sl_cell (by walk_at "cell") ?_)
  | ((with_reducible show pRev _ _ _); refine s_rev (by walk_at "cell") ?_)
  | ((with_reducible show pRevC _ _ _); refine s_revC (by walk_at "cell") ?_)
  | ((with_reducible show pIter _ _ _); first | with_reducible refine s_it_lst ?_ | with_reducible refine s_it_tup ?_ | refine s_it_cell (by walk_at "sq") ?_)
  | ((with_reducible show pIterS _ _ _); first | with_reducible refine s_itS ?_)
  | ((with_reducible show pRange1 _ _ _); first | with_reducible refine s_rg1 ?_)
  | ((with_reducible show pRange2 _ _ _ _); first | with_reducible refine s_rg2 ?_)
  | ((with_reducible show pEnum _ _ _); first | with_reducible refine s_en_lst ?_ | with_reducible refine s_en_tup ?_ | refine s_en_cell (by walk_at "sq") ?_)
  | ((with_reducible show un2 _ _ _ _); first | with_reducible refine s_un2 ?_)
  | ((with_reducible show un3 _ _ _ _); first | with_reducible refine s_un3 ?_)
  | ((with_reducible show mUn2 _ _ _); first | with_reducible refine s_mun2 ?_)
  | ((with_reducible show mUn3 _ _ _); first | with_reducible refine s_mun3 ?_)
  | ((with_reducible show mUn4 _ _ _); first | with_reducible refine s_mun4 ?_)
  | ((with_reducible show mUn5 _ _ _); first | with_reducible refine s_mun5 ?_)
  | ((with_reducible show mUn6 _ _ _); first | with_reducible refine s_mun6 ?_)
  | ((with_reducible show on1 _ _ _ _); first | ((with_reducible show on1 (pLen1 _) _ _ _); first | with_reducible refine s_len_lst ?_ | with_reducible refine s_len_tup ?_ | with_reducible refine s_len_str ?_ | with_reducible refine s_len_own ?_ | refine s_len_cell (by walk_at "cell") ?_) | ((with_reducible show on1 (pStr1 _) _ _ _); first | with_reducible refine s_str_str ?_ | with_reducible refine s_str_int ?_ | with_reducible refine s_str_own ?_ | with_reducible refine s_str_ownC ?_) | ((with_reducible show on1 pInt1 _ _ _); first | with_reducible refine s_int_int ?_ | with_reducible refine s_int_bl ?_ | with_reducible refine s_int_str ?_) | ((with_reducible show on1 pList1 _ _ _); first | with_reducible refine s_list_lst ?_ | with_reducible refine s_list_tup ?_ | refine s_list_cell (by walk_at "sq") ?_ | refine s_list_seq (by with_reducible assumption) ?_) | ((with_reducible show on1 pListC1 _ _ _); first | with_reducible refine s_listC_lst ?_ | with_reducible refine s_listC_tup ?_ | refine s_listC_cell (by walk_at "sq") ?_) | ((with_reducible show on1 pTuple1 _ _ _); first | with_reducible refine s_tuple_lst ?_ | with_reducible refine s_tuple_tup ?_ | refine s_tuple_seq (by walk_at "sq") ?_) | ((with_reducible show on1 pAbs1 _ _ _); first | with_reducible refine s_abs ?_) | ((with_reducible show on1 pAll1 _ _ _); refine s_allM ?_) | ((with_reducible show on1 pAny1 _ _ _); refine s_anyM ?_))
  | ((with_reducible show on2 pMax2 _ _ _); first | with_reducible refine s_max ?_)
  | ((with_reducible show on2 pMin2 _ _ _); first | with_reducible refine s_min ?_)
  | ((with_reducible show on2 (pIsI _) _ _ _); walk_at "isi")
  | ((with_reducible show onStr _ _ _ _); first | with_reducible refine s_onStr ?_)
  | ((with_reducible show pSplit _ _ _ _); first | with_reducible refine s_split ?_)
  | ((with_reducible show pPart _ _ _ _); first | with_reducible refine s_part ?_)
  | ((with_reducible show pStarts _ _ _ _); first | with_reducible refine s_starts ?_)
  | ((with_reducible show pJoin _ _ _ _); refine s_join (by walk_at "sq") ?_)
  | ((with_reducible show pFmt _ _ _); first | with_reducible refine s_fmt_str ?_ | with_reducible refine s_fmt_int ?_)
  | ((with_reducible show pApp _ _ _ _); first | refine s_app 0 rfl ?_ | refine s_app 1 rfl ?_ | refine s_app 2 rfl ?_ | refine s_app 3 rfl ?_ | refine s_app 4 rfl ?_)
  | ((with_reducible show mFrz _ _ _); first | refine s_frz 0 rfl ?_ | refine s_frz 1 rfl ?_ | refine s_frz 2 rfl ?_ | refine s_frz 3 rfl ?_ | refine s_frz 4 rfl ?_)
  | ((with_reducible show if true = true then _ else _); first | with_reducible refine ifT ?_)
  | ((with_reducible show if false = true then _ else _); first | with_reducible refine ifF ?_)
  | ((with_reducible show if (!false) = true then _ else _); refine ifT ?_)
  | ((with_reducible show if (!true) = true then _ else _); refine ifF ?_)
  | ((with_reducible show if Tr.isNon .non = true then _ else _); refine ifT ?_)
  | ((with_reducible show if (!Tr.isNon .non) = true then _ else _); refine ifF ?_)
  | ((with_reducible show if Tr.isNon (.str _) = true then _ else _); refine ifF ?_)
  | ((with_reducible show if (!Tr.isNon (.str _)) = true then _ else _); refine ifT ?_)
  | ((with_reducible show if Tr.isNon (.int _) = true then _ else _); refine ifF ?_)
  | ((with_reducible show if (!Tr.isNon (.int _)) = true then _ else _); refine ifT ?_)
  | ((with_reducible show if Tr.isNon (.bl _) = true then _ else _); refine ifF ?_)
  | ((with_reducible show if (!Tr.isNon (.bl _)) = true then _ else _); refine ifT ?_)
  | ((with_reducible show if Tr.isNon (.lst _) = true then _ else _); refine ifF ?_)
  | ((with_reducible show if (!Tr.isNon (.lst _)) = true then _ else _); refine ifT ?_)
  | ((with_reducible show if Tr.isNon (.tup _) = true then _ else _); refine ifF ?_)
  | ((with_reducible show if (!Tr.isNon (.tup _)) = true then _ else _); refine ifT ?_)
  | ((with_reducible show if Tr.isNon (.ins _ _ _) = true then _ else _); refine ifF ?_)
  | ((with_reducible show if (!Tr.isNon (.ins _ _ _)) = true then _ else _); refine ifT ?_)
  | ((with_reducible show if Tr.isNon (oN none) = true then _ else _); refine ifT ?_)
  | ((with_reducible show if (!Tr.isNon (oN none)) = true then _ else _); refine ifF ?_)
  | ((with_reducible show if Tr.isNon (oN (some _)) = true then _ else _); refine ifF ?_)
  | ((with_reducible show if (!Tr.isNon (oN (some _))) = true then _ else _); refine ifT ?_)
  | ((with_reducible show if Tr.isNon (oD none) = true then _ else _); refine ifT ?_)
  | ((with_reducible show if (!Tr.isNon (oD none)) = true then _ else _); refine ifF ?_)
  | ((with_reducible show if Tr.isNon (oD (some _)) = true then _ else _); refine ifF ?_)
  | ((with_reducible show if (!Tr.isNon (oD (some _))) = true then _ else _); refine ifT ?_)
  | ((with_reducible show if (decide (true = true)) = true then _ else _); refine ifT ?_)
  | ((with_reducible show if (!decide (true = true)) = true then _ else _); refine ifF ?_)
  | ((with_reducible show if ((true == true)) = true then _ else _); refine ifT ?_)
  | ((with_reducible show if (!(true == true)) = true then _ else _); refine ifF ?_)
  | ((with_reducible show if ((true != true)) = true then _ else _); refine ifF ?_)
  | ((with_reducible show if (decide (true = false)) = true then _ else _); refine ifF ?_)
  | ((with_reducible show if (!decide (true = false)) = true then _ else _); refine ifT ?_)
  | ((with_reducible show if ((true == false)) = true then _ else _); refine ifF ?_)
  | ((with_reducible show if (!(true == false)) = true then _ else _); refine ifT ?_)
  | ((with_reducible show if ((true != false)) = true then _ else _); refine ifT ?_)
  | ((with_reducible show if (decide (false = true)) = true then _ else _); refine ifF ?_)
  | ((with_reducible show if (!decide (false = true)) = true then _ else _); refine ifT ?_)
  | ((with_reducible show if ((false == true)) = true then _ else _); refine ifF ?_)
  | ((with_reducible show if (!(false == true)) = true then _ else _); refine ifT ?_)
  | ((with_reducible show if ((false != true)) = true then _ else _); refine ifT ?_)
  | ((with_reducible show if (decide (false = false)) = true then _ else _); refine ifT ?_)
  | ((with_reducible show if (!decide (false = false)) = true then _ else _); refine ifF ?_)
  | ((with_reducible show if ((false == false)) = true then _ else _); refine ifT ?_)
  | ((with_reducible show if (!(false == false)) = true then _ else _); refine ifF ?_)
  | ((with_reducible show if ((false != false)) = true then _ else _); refine ifF ?_)
  | ((with_reducible show if decide ((_ : Int) < _) = true then _ else _); first | refine ifPos (decide_eq_true (by walk_at "om")) ?_ | refine ifNeg (decide_eq_false (by walk_at "om")) ?_)
  | ((with_reducible show if (!decide ((_ : Int) < _)) = true then _ else _); first | refine ifPosN (decide_eq_false (by walk_at "om")) ?_ | refine ifNegN (decide_eq_true (by walk_at "om")) ?_)
  | ((with_reducible show if decide ((_ : Int) ≤ _) = true then _ else _); first | refine ifPos (decide_eq_true (by walk_at "om")) ?_ | refine ifNeg (decide_eq_false (by walk_at "om")) ?_)
  | ((with_reducible show if (!decide ((_ : Int) ≤ _)) = true then _ else _); first | refine ifPosN (decide_eq_false (by walk_at "om")) ?_ | refine ifNegN (decide_eq_true (by walk_at "om")) ?_)
  | ((with_reducible show if decide ((_ : Int) = _) = true then _ else _); first | refine ifPos (decide_eq_true (by walk_at "om")) ?_ | refine ifNeg (decide_eq_false (by walk_at "om")) ?_)
  | ((with_reducible show if (!decide ((_ : Int) = _)) = true then _ else _); first | refine ifPosN (decide_eq_false (by walk_at "om")) ?_ | refine ifNegN (decide_eq_true (by walk_at "om")) ?_)
  | ((with_reducible show lcB _ _ _ (List.map _ _) [] _); walk_at "L")
  | ((with_reducible show lcB _ _ _ (signsD _) [] _); (unfold signsD; walk_at "L"))
  | ((with_reducible show (∃ (ns : List Str) (fds : List D), InsD _ _ _ ns fds ∧ ns.contains _ = false) ∧ _); refine ⟨⟨_, _, .inl rfl, by decide⟩, ?_⟩)
  | ((with_reducible show True ∧ _); refine ⟨trivial, ?_⟩)
  | ((with_reducible show isL _ _ ∧ _); refine ⟨s_isL (by walk_at "cell"), ?_⟩)
  | ((with_reducible show CMul _ _ ∧ _); refine ⟨by walk_at "nm", ?_⟩)
  | ((with_reducible show CPow _ _ ∧ _); refine ⟨⟨by decide, by decide, by decide⟩, ?_⟩)
  | ((with_reducible show _ ∧ _); refine ⟨by walk_at "n", ?_⟩)
  | ((with_reducible show ∃ (i : Nat) (z Cl : Addr) (ns : List Str) (ds : List D), _ = D.raw (V.ref z) ∧ _ ∧ Cls _ Cl ∧ _ ∧ _ ∧ _); walk_at "sfld"))
local macro_rules | `(tactic| walk_at "sfld") => `(tactic| first
  | fail)
local macro_rules | `(tactic| walk_at "few") => `(tactic| first | decide | exact (show (1 : Nat) < 1000 by decide) | exact (show (2 : Nat) < 1000 by decide) | exact (show (3 : Nat) < 1000 by decide) | exact (show (4 : Nat) < 1000 by decide) | exact (show (5 : Nat) < 1000 by decide) | exact (show (6 : Nat) < 1000 by decide) | exact (show (7 : Nat) < 1000 by decide) | exact (show (8 : Nat) < 1000 by decide) | exact (show (9 : Nat) < 1000 by decide) | exact (show (10 : Nat) < 1000 by decide) | exact (show (11 : Nat) < 1000 by decide) | exact (show (12 : Nat) < 1000 by decide))
local macro_rules | `(tactic| walk_at "eq") => `(tactic| first
  | fail)
local macro_rules | `(tactic| walk_at "ne") => `(tactic| first
  | fail)
local macro_rules | `(tactic| walk_at "fld") => `(tactic| first
  | fail)
local macro_rules | `(tactic| walk_at "ix") => `(tactic| first
  | fail)
local macro_rules | `(tactic| walk_at "isi") => `(tactic| first
  | refine s_isi (.ty _) (.str _) (by rfl) ?_)
local macro_rules | `(tactic| walk_at "h") => `(tactic| with_reducible (conv => whnf))
local macro_rules | `(tactic| walk_at "c") => `(tactic| fail)
local macro_rules | `(tactic| walk_at "pm2") => `(tactic| first | walk_at "pm" | exact List.Perm.trans (List.Perm.trans (by with_reducible assumption) q213) q213 | exact List.Perm.trans (List.Perm.trans (by with_reducible assumption) q213) q312 | exact List.Perm.trans (List.Perm.trans (by with_reducible assumption) q213) q4123 | exact List.Perm.trans (List.Perm.trans (by with_reducible assumption) q213) q51234 | exact List.Perm.trans (List.Perm.trans (by with_reducible assumption) q312) q213 | exact List.Perm.trans (List.Perm.trans (by with_reducible assumption) q312) q312 | exact List.Perm.trans (List.Perm.trans (by with_reducible assumption) q312) q4123 | exact List.Perm.trans (List.Perm.trans (by with_reducible assumption) q312) q51234 | exact List.Perm.trans (List.Perm.trans (by with_reducible assumption) q4123) q213 | exact List.Perm.trans (List.Perm.trans (by with_reducible assumption) q4123) q312 | exact List.Perm.trans (List.Perm.trans (by with_reducible assumption) q4123) q4123 | exact List.Perm.trans (List.Perm.trans (by with_reducible assumption) q4123) q51234 | exact List.Perm.trans (List.Perm.trans (by with_reducible assumption) q51234) q213 | exact List.Perm.trans (List.Perm.trans (by with_reducible assumption) q51234) q312 | exact List.Perm.trans (List.Perm.trans (by with_reducible assumption) q51234) q4123 | exact List.Perm.trans (List.Perm.trans (by with_reducible assumption) q51234) q51234 | exact List.Perm.trans (List.Perm.trans (List.Perm.trans (by with_reducible assumption) q213) q213) q213 | exact List.Perm.trans (List.Perm.trans (List.Perm.trans (by with_reducible assumption) q213) q213) q312 | exact List.Perm.trans (List.Perm.trans (List.Perm.trans (by with_reducible assumption) q213) q213) q4123 | exact List.Perm.trans (List.Perm.trans (List.Perm.trans (by with_reducible assumption) q213) q312) q213 | exact List.Perm.trans (List.Perm.trans (List.Perm.trans (by with_reducible assumption) q213) q312) q312 | exact List.Perm.trans (List.Perm.trans (List.Perm.trans (by with_reducible assumption) q213) q312) q4123 | exact List.Perm.trans (List.Perm.trans (List.Perm.trans (by with_reducible assumption) q213) q4123) q213 | exact List.Perm.trans (List.Perm.trans (List.Perm.trans (by with_reducible assumption) q213) q4123) q312 | exact List.Perm.trans (List.Perm.trans (List.Perm.trans (by with_reducible assumption) q213) q4123) q4123 | exact List.Perm.trans (List.Perm.trans (List.Perm.trans (by with_reducible assumption) q312) q213) q213 | exact List.Perm.trans (List.Perm.trans (List.Perm.trans (by with_reducible assumption) q312) q213) q312 | exact List.Perm.trans (List.Perm.trans (List.Perm.trans (by with_reducible assumption) q312) q213) q4123 | exact List.Perm.trans (List.Perm.trans (List.Perm.trans (by with_reducible assumption) q312) q312) q213 | exact List.Perm.trans (List.Perm.trans (List.Perm.trans (by with_reducible assumption) q312) q312) q312 | exact List.Perm.trans (List.Perm.trans (List.Perm.trans (by with_reducible assumption) q312) q312) q4123 | exact List.Perm.trans (List.Perm.trans (List.Perm.trans (by with_reducible assumption) q312) q4123) q213 | exact List.Perm.trans (List.Perm.trans (List.Perm.trans (by with_reducible assumption) q312) q4123) q312 | exact List.Perm.trans (List.Perm.trans (List.Perm.trans (by with_reducible assumption) q312) q4123) q4123 | exact List.Perm.trans (List.Perm.trans (List.Perm.trans (by with_reducible assumption) q4123) q213) q213 | exact List.Perm.trans (List.Perm.trans (List.Perm.trans (by with_reducible assumption) q4123) q213) q312 | exact List.Perm.trans (List.Perm.trans (List.Perm.trans (by with_reducible assumption) q4123) q213) q4123 | exact List.Perm.trans (List.Perm.trans (List.Perm.trans (by with_reducible assumption) q4123) q312) q213 | exact List.Perm.trans (List.Perm.trans (List.Perm.trans (by with_reducible assumption) q4123) q312) q312 | exact List.Perm.trans (List.Perm.trans (List.Perm.trans (by with_reducible assumption) q4123) q312) q4123 | exact List.Perm.trans (List.Perm.trans (List.Perm.trans (by with_reducible assumption) q4123) q4123) q213 | exact List.Perm.trans (List.Perm.trans (List.Perm.trans (by with_reducible assumption) q4123) q4123) q312 | exact List.Perm.trans (List.Perm.trans (List.Perm.trans (by with_reducible assumption) q4123) q4123) q4123)
local macro_rules | `(tactic| walk_at "cellx") => `(tactic| fail)
local macro_rules | `(tactic| walk_at "pm") => `(tactic| first | with_reducible assumption | exact List.Perm.refl _ | exact q213 | exact q312 | exact q4123 | exact q0 | exact List.Perm.trans (by with_reducible assumption) q213 | exact List.Perm.trans (by with_reducible assumption) q312 | exact List.Perm.trans (by with_reducible assumption) q4123 | exact List.Perm.trans (by with_reducible assumption) q51234 | exact List.Perm.trans (by with_reducible assumption) q0)
local macro_rules | `(tactic| walk_at "g") => `(tactic| ((repeat (first | walk_at "p" | walk_at "c" | (walk_at "h"; first | walk_at "p" | walk_at "c"))); try walk_at "h"))
local macro_rules | `(tactic| walk_at "S") => `(tactic| (walk_at "g"; try ((with_reducible show if _ then _ else _); refine ite2M (fun h => ?_) (fun h => ?_) <;> walk_at "S")))
local macro_rules | `(tactic| walk_at "om") => `(tactic| first | omega | (simp only [List.length_cons, List.length_nil, List.length_map, List.length_append, rangeD_len]; omega))
local macro_rules | `(tactic| walk_at "P0") => `(tactic| first | trivial | walk_at "sq" | with_reducible assumption)
local macro_rules | `(tactic| walk_at "ln") => `(tactic| first | with_reducible assumption | omega | (simp only [List.length_map, List.length_append, List.length_filter, rangeD_len]; omega) | (rw [Array.length_toList]; first | assumption | (show Str.length _ ≤ _; omega)) | (simp; omega))
local macro_rules | `(tactic| walk_at "L") => `(tactic| (refine lcB_map _ ?hh (by walk_at "P0") ?el (by walk_at "ln") ?rest; (case el => (intro a ha k hk; walk_at "g"; exact hk))))
local macro_rules | `(tactic| walk_at "d") => `(tactic| (refine c_draw0 T (by with_reducible assumption) (by walk_at "n") (by walk_at "n") fun k qs m k0 k1 hd => ?_))
local macro_rules | `(tactic| walk_at "fld") => `(tactic| first
  | ((with_reducible show pFld _ "choices" (.ins T.c_Book _ _) _ _); refine s_fld (.inl rfl) T.i_Book.c T.na_Book_choices (by rfl) ?_)
  | ((with_reducible show pFld _ "kinds" (.ins T.c_Book _ _) _ _); refine s_fld (.inl rfl) T.i_Book.c T.na_Book_kinds (by rfl) ?_)
  | ((with_reducible show pFld _ "targets" (.ins T.c_Book _ _) _ _); refine s_fld (.inl rfl) T.i_Book.c T.na_Book_targets (by rfl) ?_)
  | ((with_reducible show pFld _ "loose" (.ins T.c_Book _ _) _ _); refine s_fld (.inl rfl) T.i_Book.c T.na_Book_loose (by rfl) ?_)
  | ((with_reducible show pFld _ "others" (.ins T.c_Book _ _) _ _); refine s_fld (.inl rfl) T.i_Book.c T.na_Book_others (by rfl) ?_))
local macro_rules | `(tactic| walk_at "isi") => `(tactic| first
  | ((with_reducible show on2 (pIsI _) [.ins T.c_Book _ _, .raw (.ref T.c_Book)] _ _); refine s_isi (.own _) (.ins T.i_Book) kit_self ?_))
local macro_rules | `(tactic| walk_at "sfld") => `(tactic| first
  | refine ⟨0, _, _, _, _, rfl, rfl, T.i_Book.c, T.na_Book_choices, by walk_at "few", ?_⟩
  | refine ⟨1, _, _, _, _, rfl, rfl, T.i_Book.c, T.na_Book_choices, by walk_at "few", ?_⟩
  | refine ⟨0, _, _, _, _, rfl, rfl, T.i_Book.c, T.na_Book_kinds, by walk_at "few", ?_⟩
  | refine ⟨1, _, _, _, _, rfl, rfl, T.i_Book.c, T.na_Book_kinds, by walk_at "few", ?_⟩
  | refine ⟨0, _, _, _, _, rfl, rfl, T.i_Book.c, T.na_Book_targets, by walk_at "few", ?_⟩
  | refine ⟨1, _, _, _, _, rfl, rfl, T.i_Book.c, T.na_Book_targets, by walk_at "few", ?_⟩
  | refine ⟨0, _, _, _, _, rfl, rfl, T.i_Book.c, T.na_Book_loose, by walk_at "few", ?_⟩
  | refine ⟨1, _, _, _, _, rfl, rfl, T.i_Book.c, T.na_Book_loose, by walk_at "few", ?_⟩
  | refine ⟨0, _, _, _, _, rfl, rfl, T.i_Book.c, T.na_Book_others, by walk_at "few", ?_⟩
  | refine ⟨1, _, _, _, _, rfl, rfl, T.i_Book.c, T.na_Book_others, by walk_at "few", ?_⟩)
section
variable {P : Program} {w : World} {K : W.Frag} {mg : Str → Option Value} {base : Heap}
def dealC (p q : Addr) (qs : List Int) (m : Int) : Cells := [(p, .lst [.raw (.ref q), .int m]), (q, .lst (qs.map D.int))]
def absI (i : Int) : Int := if i < 0 then -i else i
structure DealOk (qs : List Int) (m : Int) : Prop where
  l : qs.length ≤ 63
  a : 0 ≤ m
  b : m < 2147483647
theorem p_deal (T : Tp P K mg) {ns : List Int} {b : Int} {Qx : QX} {Q : QE} (hl : ns.length ≤ 63) (hb : 0 ≤ b) (hb2 : b ≤ 63) (h : ∀ p q qs m, DealOk qs m → Q (.raw (.ref p)) (dealC p q qs m)) :
    w__law_deal T (.lst (ns.map .int)) (.int b) Qx Q [] := by
  unfold w__law_deal
  walk_at "h"
  walk_at "g"
  rw [cutD_map]
  have hl2 : (cutL ns (some b) (some 63)).length ≤ 63 := by
    have := ((List.take_sublist (HT.sIx ns.length ns.length (some 63) - HT.sIx ns.length 0 (some b)) (ns.drop (HT.sIx ns.length 0 (some b)))).trans (List.drop_sublist _ _)).length_le
    exact Nat.le_trans this hl
  generalize cutL ns (some b) (some 63) = cs at hl2
  refine lcB_map (l := cs) D.int (fun i => .int (absI i)) trivial (fun i _ k q => ?_) (by omega) ?_
  · walk_at "g"
    exact q
  walk_at "g"
  refine loop_inv (fun _ s C => ∃ m : Int, s = .int m ∧ 0 ≤ m ∧ m < 2147483647 ∧ C = []) ⟨_, rfl, by omega, by omega, rfl⟩ ?_ ?_
  · rintro i d s C nx hi ⟨m, rfl, h0, h1, rfl⟩ hn
    refine ⟨trivial, ?_⟩
    rw [List.getElem?_map] at hi
    obtain ⟨v, rfl⟩ : ∃ v, d = .int v := by
      cases e : cs[i]? with
      | none => rw [e] at hi; cases hi
      | some v => rw [e] at hi; cases hi; exact ⟨_, rfl⟩
    unfold w__law_deal_l1
    walk_at "g"
    exact part_id (hn _ _ ⟨_, rfl, Int.emod_nonneg _ (by decide), Int.emod_lt_of_pos _ (by decide), rfl⟩)
  · rintro s C ⟨m, rfl, h0, h1, rfl⟩
    refine ⟨trivial, ?_⟩
    unfold w__law_deal_a2
    walk_at "g"
    refine lcB1_map (l := cs) (fun i => .int (absI i)) (fun i => .int (absI i)) (fun i => decide ((10 : Int) ^ 18 ≤ absI i)) trivial (fun i _ k q => ?_) (fun i _ _ k q => ?_) (by omega) ?_
    · walk_at "g"
      exact q
    · exact q
    walk_at "g"
    intro q
    walk_at "g"
    intro p
    refine drop_id ?_
    have := h p q ((cs.filter fun i => decide ((10 : Int) ^ 18 ≤ absI i)).map absI).reverse m ⟨by rw [List.length_reverse, List.length_map]; exact Nat.le_trans (List.length_filter_le _ _) hl2, h0, h1⟩
    unfold dealC at this
    rw [List.map_reverse, List.map_map] at this
    exact this
theorem p_draw (T : Tp P K mg) {p q : Addr} {qs : List Int} {m n : Int} {Qx : QX} {Q : QE} (hd : DealOk qs m) (hn : 0 < n) (hn2 : n < 1073741824) (h : ∀ k qs' m', 0 ≤ k → k < n → DealOk qs' m' → Q (.int k) (dealC p q qs' m')) :
    w__law_draw T (.raw (.ref p)) (.int n) Qx Q (dealC p q qs m) := by
  unfold w__law_draw
  refine ⟨fun j _ C => ∃ qs : List Int, qs.length ≤ 63 ∧ j = qs.length ∧ C = dealC p q qs m, ⟨_, qs, hd.l, rfl, rfl⟩, ?_⟩
  rintro j _ C ⟨qs, hq, rfl, rfl⟩
  unfold w__law_draw_t1
  walk_at "h"
  walk_at "g"
  refine s_neD (.inl rfl) (eqd_lstI (xs := qs) (ys := []) (by walk_at "cell") .l) ?_
  walk_at "g"
  refine ite2M (fun h1 => ?_) (fun h1 => ?_)
  · have hne : qs ≠ [] := fun z => by subst z; cases h1
    obtain ⟨ys, y, rfl⟩ : ∃ ys y, qs = ys ++ [y] := ⟨_, _, (List.dropLast_concat_getLast hne).symm⟩
    have hq1 : (dealC p q (ys ++ [y]) m)[1]? = some (q, Cell.lst (ys.map .int ++ [.int y])) := by
      show some (q, Cell.lst ((ys ++ [y]).map D.int)) = _
      rw [List.map_append]; rfl
    walk_at "g"
    refine s_ix_cell (.c hq1) atI_last ?_
    walk_at "g"
    have fin : decide (y = 0) = false → w__law_draw_a3 T (.raw (.ref p)) (.int n) Qx Q () (dealC p q (ys ++ [y]) m) := fun _ => by
      unfold w__law_draw_a3
      walk_at "g"
      refine s_neD (.inl rfl) (eqd_lstI (xs := ys ++ [y]) (ys := []) (by walk_at "cell") .l) ?_
      walk_at "g"
      rw [if_pos (show (!decide (ys ++ [y] = [])) = true by simp)]
      walk_at "g"
      refine s_pop (d := .int y) 1 hq1 ?_
      walk_at "g"
      have := h (y % n) (ys ++ [y / n]) m (Int.emod_nonneg _ (by omega)) (Int.emod_lt_of_pos _ hn) ⟨by simp at hq ⊢; omega, hd.a, hd.b⟩
      unfold dealC at this
      rw [List.map_append] at this
      exact this
    refine ite2M (fun h2 => ?_) (fun h2 => fin (by simpa using h2))
    unfold w__law_draw_l2
    walk_at "g"
    refine s_pop (d := .int y) 1 hq1 ?_
    exact part_id ⟨ys.length, by simp, ys, by simp at hq; omega, rfl, rfl⟩
  · walk_at "g"
    unfold w__law_draw_a3
    walk_at "g"
    refine s_neD (.inl rfl) (eqd_lstI (xs := qs) (ys := []) (by walk_at "cell") .l) ?_
    walk_at "g"
    rw [if_neg h1]
    walk_at "g"
    refine ⟨0, p, _, 1, 1, rfl, rfl, rfl, rfl, ?_⟩
    walk_at "g"
    exact h _ qs _ (Int.emod_nonneg _ (by omega)) (Int.emod_lt_of_pos _ hn) ⟨hq, Int.emod_nonneg _ (by decide), Int.emod_lt_of_pos _ (by decide)⟩


abbrev St4 := List Int × Int
def dk (p q : Addr) (s : St4) : Cells := dealC p q s.1 s.2
def DkOk (s : St4) : Prop := DealOk s.1 s.2
theorem c_dealS (T : Tp P K mg) {ns : List Int} {b : Int} {Xq : QX} {Q : QE} {C : Cells} (hl : ns.length ≤ 63) (hb : 0 ≤ b) (hb2 : b ≤ 63) (h : ∀ p q s, DkOk s → Q (.raw (.ref p)) (dk p q s ++ C)) :
    callW (fw__law_deal T) Xq [.lst (ns.map .int), .int b] C Q := call_none (p_deal T hl hb hb2 fun p q qs m hd => h p q (qs, m) hd)
theorem c_drawP (T : Tp P K mg) {p q : Addr} {s : St4} {n : Int} {Xq : QX} {Q : QE} {C r : Cells} (pm : C.Perm (dk p q s ++ r)) (hd : DkOk s) (hn : 0 < n) (hn2 : n < 1073741824) (h : ∀ k s', 0 ≤ k → k < n → DkOk s' → Q (.int k) (dk p q s' ++ r)) :
    callW (fw__law_draw T) Xq [.raw (.ref p), .int n] C Q := ⟨dk p q s, r, pm, p_draw T hd hn hn2 fun k qs' m' h0 h1 hd' => h k (qs', m') h0 h1 hd'⟩
theorem c_draw (T : Tp P K mg) {p q : Addr} {s : St4} {n : Int} {Xq : QX} {Q : QE} {r : Cells} (hd : DkOk s) (hn : 0 < n) (hn2 : n < 1073741824) (h : ∀ k s', 0 ≤ k → k < n → DkOk s' → Q (.int k) (dk p q s' ++ r)) :
    callW (fw__law_draw T) Xq [.raw (.ref p), .int n] (dk p q s ++ r) Q := c_drawP T (List.Perm.refl _) hd hn hn2 h
theorem c_draw0 (T : Tp P K mg) {p q : Addr} {s : St4} {n : Int} {Xq : QX} {Q : QE} (hd : DkOk s) (hn : 0 < n) (hn2 : n < 1073741824) (h : ∀ k s', 0 ≤ k → k < n → DkOk s' → Q (.int k) (dk p q s')) :
    callW (fw__law_draw T) Xq [.raw (.ref p), .int n] (dk p q s) Q := c_drawP T (r := []) (by rw [List.append_nil]) hd hn hn2 fun k s' h0 h1 hd' => by rw [List.append_nil]; exact h k s' h0 h1 hd'
def tyS : D → String
  | .non => "NoneType"
  | .bl _ => "bool"
  | .int _ => "int"
  | .str _ => "str"
  | .lst _ => "list"
  | .tup _ => "tuple"
  | _ => ""
def basicD : D → Bool
  | .non | .bl _ | .int _ | .str _ | .lst _ | .tup _ => true
  | _ => false
theorem basic_ty {C : Cells} {d : D} (h : basicD d = true) : TyD K C d (.type (tyS d)) := by
  cases d with
  | non => exact .non
  | bl b => exact .bl _
  | int i => exact .int _
  | str s => exact .str _
  | lst l => exact .lst _
  | tup l => exact .tup _
  | _ => cases h
def isKind (t : String) (d : D) : Bool := (kitB (tyS d) t).getD false
theorem kind_some {d : D} (h : basicD d = true) : ∀ t ∈ (["str", "int", "bool", "list", "tuple"] : List String), kitB (tyS d) t = some (isKind t d) := by
  have all : ∀ s ∈ (["NoneType", "bool", "int", "str", "list", "tuple"] : List String), ∀ t ∈ (["str", "int", "bool", "list", "tuple"] : List String), kitB s t = some ((kitB s t).getD false) := by decide +kernel
  intro t ht
  cases d with
  | non => exact all "NoneType" (by decide) t ht
  | bl b => exact all "bool" (by decide) t ht
  | int i => exact all "int" (by decide) t ht
  | str s => exact all "str" (by decide) t ht
  | lst l => exact all "list" (by decide) t ht
  | tup l => exact all "tuple" (by decide) t ht
  | _ => cases h
theorem s_isB {C : Cells} {d : D} {t : String} {Q : QE} (h : basicD d = true) (ht : t ∈ (["str", "int", "bool", "list", "tuple"] : List String)) (q : Q (.bl (isKind t d)) C) : on2 (pIsI K) [d, .raw (.ty t)] C Q :=
  s_isi (.ty _) (basic_ty h) (kit_ty (kind_some h t ht)) q
theorem kind_tab : (∀ b, isKind "int" (.bl b) = true ∧ isKind "bool" (.bl b) = true ∧ isKind "str" (.bl b) = false) ∧ (∀ i, isKind "int" (.int i) = true ∧ isKind "bool" (.int i) = false ∧ isKind "str" (.int i) = false) ∧ (∀ s, isKind "int" (.str s) = false ∧ isKind "bool" (.str s) = false ∧ isKind "str" (.str s) = true) ∧
    (isKind "int" .non = false ∧ isKind "bool" .non = false ∧ isKind "str" .non = false) ∧ (∀ l, isKind "int" (.lst l) = false ∧ isKind "bool" (.lst l) = false ∧ isKind "str" (.lst l) = false) ∧ (∀ l, isKind "int" (.tup l) = false ∧ isKind "bool" (.tup l) = false ∧ isKind "str" (.tup l) = false) := by
  exact ⟨fun _ => (show (kitB "bool" "int").getD false = true ∧ (kitB "bool" "bool").getD false = true ∧ (kitB "bool" "str").getD false = false by decide +kernel), fun _ => (show (kitB "int" "int").getD false = true ∧ (kitB "int" "bool").getD false = false ∧ (kitB "int" "str").getD false = false by decide +kernel), fun _ => (show (kitB "str" "int").getD false = false ∧ (kitB "str" "bool").getD false = false ∧ (kitB "str" "str").getD false = true by decide +kernel), (show (kitB "NoneType" "int").getD false = false ∧ (kitB "NoneType" "bool").getD false = false ∧ (kitB "NoneType" "str").getD false = false by decide +kernel), fun _ => (show (kitB "list" "int").getD false = false ∧ (kitB "list" "bool").getD false = false ∧ (kitB "list" "str").getD false = false by decide +kernel), fun _ => (show (kitB "tuple" "int").getD false = false ∧ (kitB "tuple" "bool").getD false = false ∧ (kitB "tuple" "str").getD false = false by decide +kernel)⟩
theorem basic_any {C : Cells} {d : D} (h : basicD d = true) (hl : (strOf d).length ≤ 100000) : AnyD K C d :=
  ⟨⟨_, basic_ty h, kit_ty (by rw [kind_some h "str" (by decide)]; congr 1; obtain ⟨k1, k2, k3, k4, k5, k6⟩ := kind_tab; cases d with
    | non => exact k4.2.2
    | bl b => exact (k1 b).2.2
    | int i => exact (k2 i).2.2
    | str s => exact (k3 s).2.2
    | lst l => exact (k5 l).2.2
    | tup l => exact (k6 l).2.2
    | _ => cases h)⟩, hl⟩


def isNameS (s : Str) : Bool := decide (1 ≤ s.length ∧ s.length ≤ 4) && !decide (s ∈ barred) && s.cps.toList.all (fun c => decide (c ∈ small.cps.toList))
def isNameD (d : D) : Bool := isStr d && isNameS (strOf d)
theorem p_is_name (T : Tp P K mg) {d : D} {C : Cells} {Q : QE} {Qx : QX} (ha : AnyD K C d) (q : Q (.bl (isNameD d)) C) : callW (fw_is_name T) Qx [d] C Q := by
  refine call_all (show w_is_name T d Qx Q C from ?_)
  unfold w_is_name
  walk_at "g"
  refine s_isStr ha ?_
  walk_at "g"
  have hl := ha.ln
  unfold isNameD at q
  by_cases hd : isStr d = true
  · obtain ⟨s, rfl⟩ : ∃ s, d = .str s := by cases d <;> first | exact ⟨_, rfl⟩ | cases hd
    refine ifF ?_
    have hl' : s.length ≤ 100000 := hl
    have q' : Q (.bl (isNameS s)) C := q
    unfold isNameS at q'
    walk_at "S"
    all_goals try (refine q_bl q' ?_; simp at *; omega)
    all_goals try (refine q_bl q' ?_; simp at *; simp [*]; done)
    refine q_bl q' ?_
    simp at *
    have : 1 ≤ s.length := by omega
    have : s.length ≤ 4 := by omega
    simp [*]
  · have e : isStr d = false := by simpa using hd
    rw [e] at q ⊢
    refine ifT ?_
    walk_at "g"
    exact q
theorem p_is_nameS (T : Tp P K mg) {s : Str} {C : Cells} {Q : QE} {Qx : QX} (hl : s.length ≤ 100000) (q : Q (.bl (isNameS s)) C) : callW (fw_is_name T) Qx [.str s] C Q := p_is_name T (any_str hl) q
local macro_rules | `(tactic| walk_at "c") => `(tactic| first
  | ((with_reducible show callW (fw_is_name T) _ _ _ _); refine p_is_nameS T (by walk_at "n") ?_))

theorem ixN_in {n : Nat} {k : Int} (h0 : 0 ≤ k) (h1 : k < n) : ixN n k = some k.toNat := by
  unfold ixN
  rw [if_pos h0, if_pos h1]
theorem perm_move {α : Type} {fs ls xs : List α} {n : Nat} {y : α} (hy : ls[n]? = some y) (pm : (fs ++ ls).Perm xs) : ((fs ++ [y]) ++ ls.eraseIdx n).Perm xs := by
  obtain ⟨h1, e⟩ := List.getElem?_eq_some_iff.mp hy
  refine List.Perm.trans ?_ pm
  rw [List.append_assoc]
  refine List.Perm.append_left fs ?_
  rw [List.eraseIdx_eq_take_drop_succ]
  have e2 : ls = ls.take n ++ ls[n] :: ls.drop (n + 1) := by rw [List.getElem_cons_drop, List.take_append_drop]
  rw [e] at e2
  refine List.Perm.trans ?_ (List.Perm.of_eq e2.symm)
  exact (show (y :: (ls.take n ++ ls.drop (n + 1))).Perm (ls.take n ++ y :: ls.drop (n + 1)) from List.perm_middle.symm)
theorem map_erase {α β : Type} (g : α → β) : ∀ (l : List α) (n : Nat), (l.map g).eraseIdx n = (l.eraseIdx n).map g
  | [], n => by simp
  | x :: l, 0 => rfl
  | x :: l, n + 1 => by
    show g x :: (l.map g).eraseIdx n = g x :: (l.eraseIdx n).map g
    rw [map_erase g l n]
theorem p_mixed (T : Tp P K mg) {p q : Addr} {s : St4} {xs : List Str} {Qx : QX} {Q : QE} (hd : DkOk s) (hx : ∀ x ∈ xs, PyData.strOk x = true) (hl : xs.length ≤ 1000) (h : ∀ (ys : List Str) (s' : St4), ys.Perm xs → DkOk s' → Q (.lst (ys.map D.str)) (dk p q s')) :
    w__law_mixed T (.raw (.ref p)) (.lst (xs.map D.str)) Qx Q (dk p q s) := by
  unfold w__law_mixed
  walk_at "g"
  intro l
  walk_at "g"
  intro f
  refine ⟨fun n _ C => ∃ (s : St4) (ls fs : List Str), DkOk s ∧ (fs ++ ls).Perm xs ∧ n = ls.length ∧ (C = dk p q s ++ [(f, .lst (fs.map D.str)), (l, .lst (ls.map D.str))] ∨ C = (f, .lst (fs.map D.str)) :: (l, .lst (ls.map D.str)) :: dk p q s), ⟨xs.length, s, xs, [], hd, by simp, rfl, .inr rfl⟩, ?_⟩
  rintro n u C ⟨s, ls, fs, hd, pm, rfl, hC⟩
  have hls : ∀ x ∈ ls, PyData.strOk x = true := fun x hm => hx x (pm.subset (List.mem_append_right _ hm))
  have hll : fs.length + ls.length = xs.length := by rw [← pm.length_eq, List.length_append]
  have cf : (f, Cell.lst (fs.map D.str)) ∈ C := by rcases hC with rfl | rfl <;> simp
  have cl : (l, Cell.lst (ls.map D.str)) ∈ C := by rcases hC with rfl | rfl <;> simp
  have hp : C.Perm (dk p q s ++ [(f, .lst (fs.map D.str)), (l, .lst (ls.map D.str))]) := by
    rcases hC with rfl | rfl
    · exact List.Perm.refl _
    · exact List.perm_append_comm (l₁ := [(f, Cell.lst (fs.map D.str)), (l, Cell.lst (ls.map D.str))]) (l₂ := dk p q s)
  unfold w__law_mixed_t1
  walk_at "g"
  refine s_neD (.inl rfl) (eqd_lstS (xs := ls) (ys := []) (.inr ⟨l, rfl, cl⟩) .l hls (by simp)) ?_
  walk_at "g"
  refine ite2M (fun h1 => ?_) (fun h1 => ?_)
  · have hne : ls ≠ [] := fun z => by subst z; cases h1
    have hpos : 0 < ls.length := List.length_pos_iff.mpr hne
    unfold w__law_mixed_l2
    walk_at "g"
    refine ⟨⟨f, _, rfl, cf⟩, ?_⟩
    walk_at "g"
    refine ⟨⟨l, _, rfl, cl⟩, ?_⟩
    walk_at "g"
    refine s_len_cell (.inr ⟨l, rfl, cl⟩) ?_
    rw [List.length_map]
    walk_at "g"
    refine c_drawP T hp hd (by omega) (by omega) fun k s2 k0 k1 hd2 => ?_
    walk_at "g"
    obtain ⟨y, hy⟩ : ∃ y, ls[k.toNat]? = some y := ⟨ls[k.toNat]'(by omega), List.getElem?_eq_getElem _⟩
    refine ⟨3, l, ls.map D.str, k, k.toNat, .str y, rfl, rfl, rfl, ⟨by omega, by omega⟩, ixN_in k0 (by rw [List.length_map]; exact k1), by rw [List.getElem?_map, hy]; rfl, ?_⟩
    refine ⟨2, f, fs.map D.str, rfl, rfl, by rw [List.length_map]; omega, ?_⟩
    walk_at "g"
    refine part_id ⟨(ls.eraseIdx k.toNat).length, ?_, s2, ls.eraseIdx k.toNat, fs ++ [y], hd2, perm_move hy pm, rfl, .inl ?_⟩
    · rw [List.length_eraseIdx_of_lt (by omega)]; omega
    · rw [List.map_append, ← map_erase D.str ls k.toNat]; rfl
  · have he : ls = [] := by
      cases ls with
      | nil => rfl
      | cons a b => exact absurd (by simp) h1
    subst he
    unfold w__law_mixed_a3
    rw [List.append_nil] at pm
    rcases hC with rfl | rfl
    · refine s_frz 2 rfl ?_
      walk_at "g"
      exact ⟨dk p q s, [(l, .lst [])], List.Perm.refl _, h fs s pm hd⟩
    · refine s_frz 0 rfl ?_
      walk_at "g"
      exact ⟨dk p q s, [(l, .lst [])], List.perm_append_comm (l₁ := [(l, Cell.lst [])]) (l₂ := dk p q s), h fs s pm hd⟩


def words22 : List Str := ["on", "off", "a", "b", "like", "zzzz", "list", "old", "all", "open", "take", "drop", "kind", "abc", "xyz", "mv", "gh", "w", "tri", "nu", "pqrs", "ej"]
theorem words22_ok : words22.Nodup ∧ ∀ x ∈ words22, isNameS x = true ∧ PyData.strOk x = true ∧ x.length ≤ 4 ∧ x ≠ "no" := by decide +kernel
theorem cutN_take {α : Type} {l : List α} {n : Int} (h0 : 0 ≤ n) (h1 : n ≤ l.length) : cutL l none (some n) = l.take n.toNat := by
  unfold cutL
  obtain ⟨m, rfl⟩ := Int.eq_ofNat_of_zero_le h0
  have e1 : HT.sIx l.length 0 none = 0 := rfl
  have e2 : HT.sIx l.length l.length (some (m : Int)) = m := by
    rw [HT.sIx_nat]; omega
  rw [e1, e2]
  simp
structure Names (ns : List Str) (k : Int) : Prop where
  len : (ns.length : Int) = k
  nd : ns.Nodup
  mem : ∀ x ∈ ns, x ∈ words22
theorem Names.perm {ns ms : List Str} {k : Int} (h : Names ns k) (p : ms.Perm ns) : Names ms k := ⟨by rw [p.length_eq]; exact h.len, p.nodup_iff.mpr h.nd, fun x hx => h.mem x (p.subset hx)⟩
theorem Names.take {ns : List Str} {k j : Int} (h : Names ns k) (j0 : 0 ≤ j) (j1 : j ≤ k) : Names (ns.take j.toNat) j := by
  have := h.len
  refine ⟨?_, h.nd.sublist (List.take_sublist _ _), fun x hx => h.mem x (List.mem_of_mem_take hx)⟩
  rw [List.length_take]; omega
theorem Names.ok {ns : List Str} {k : Int} (h : Names ns k) : ∀ x ∈ ns, isNameS x = true ∧ PyData.strOk x = true ∧ x.length ≤ 4 ∧ x ≠ "no" := fun x hx => words22_ok.2 x (h.mem x hx)
theorem c_mixed (T : Tp P K mg) {p q : Addr} {s : St4} {xs : List Str} {k : Int} {Xq : QX} {Q : QE} {C r : Cells} (pm : C.Perm (dk p q s ++ r)) (hd : DkOk s) (hx : Names xs k) (hk : k ≤ 1000) (h : ∀ (ys : List Str) (s' : St4), Names ys k → ys.Perm xs → DkOk s' → Q (.lst (ys.map D.str)) (dk p q s' ++ r)) :
    callW (fw__law_mixed T) Xq [.raw (.ref p), .lst (xs.map D.str)] C Q :=
  ⟨dk p q s, r, pm, p_mixed T hd (fun x hm => (hx.ok x hm).2.1) (by have := hx.len; omega) fun ys s' hp hd' => h ys s' (hx.perm hp) hp hd'⟩
theorem p_words (T : Tp P K mg) {p q : Addr} {s : St4} {k : Int} {Qx : QX} {Q : QE} (hd : DkOk s) (k0 : 0 ≤ k) (k1 : k ≤ 22) (h : ∀ (ns : List Str) (s' : St4), Names ns k → DkOk s' → Q (.lst (ns.map D.str)) (dk p q s')) : w__law_words T (.raw (.ref p)) (.int k) Qx Q (dk p q s) := by
  unfold w__law_words
  walk_at "g"
  refine c_mixed T (xs := words22) (k := 22) (r := []) (by rw [List.append_nil]) hd ⟨rfl, words22_ok.1, fun _ h => h⟩ (by decide) fun ys s1 hy hp hd1 => ?_
  rw [List.append_nil]
  walk_at "g"
  rw [cutD_map, cutN_take k0 (by rw [hy.len]; exact k1)]
  exact h _ _ (hy.take k0 k1) hd1
theorem c_words (T : Tp P K mg) {p q : Addr} {s : St4} {k : Int} {Xq : QX} {Q : QE} {C r : Cells} (pm : C.Perm (dk p q s ++ r)) (hd : DkOk s) (k0 : 0 ≤ k) (k1 : k ≤ 22) (h : ∀ (ns : List Str) (s' : St4), Names ns k → DkOk s' → Q (.lst (ns.map D.str)) (dk p q s' ++ r)) :
    callW (fw__law_words T) Xq [.raw (.ref p), .int k] C Q := ⟨dk p q s, r, pm, p_words T hd k0 k1 h⟩
abbrev Kd := Str × List (Option Str)
def oD : Option Str → D
  | none => .non
  | some s => .str s
def kdD (k : Kd) : D := .tup [.str k.1, .lst (k.2.map oD)]
structure BookOk (ns : List Str) (kds : List Kd) (ls os : List Str) (m : Int) : Prop where
  n : ∃ k, 1 ≤ k ∧ k ≤ m ∧ Names ns k
  k : ∃ k, 0 ≤ k ∧ k ≤ m ∧ Names (kds.map (·.1)) k
  t : ∀ x ∈ kds, x.2.length = ns.length ∧ ∀ o ∈ x.2, ∀ s, o = some s → s ∈ ns
  l : ∃ k, Names ls k ∧ ∀ x ∈ ls, x ∈ kds.map (·.1)
  o : ∃ k, Names os k ∧ ∀ x ∈ os, x ∈ kds.map (·.1)
def formD (ns : List Str) (kds : List Kd) (ls os : List Str) : D := .tup [.lst (ns.map D.str), .lst (kds.map kdD), .lst (ls.map D.str), .lst (os.map D.str)]
theorem l_drawsP {α : Type} {p q : Addr} {s : St4} {C0 r : Cells} {f : D → ME} {Q : QE} {ds : List D} (g : α → D) (S : α → Prop) (pm : C0.Perm (dk p q s ++ r)) (hd : DkOk s) (hl : ds.length ≤ 100000) (h0 : 0 < ds.length)
    (step : ∀ d C s (k : QE), C.Perm (dk p q s ++ r) → DkOk s → (∀ x s', S x → DkOk s' → k (g x) (dk p q s' ++ r)) → f d C k)
    (h : ∀ (xs : List α) s', xs.length = ds.length → (∀ x ∈ xs, S x) → DkOk s' → Q (.lst (xs.map g)) (dk p q s' ++ r)) : lcB (fun _ => True) f Q ds [] C0 := by
  refine lcB_inv (fun i acc C => ∃ (xs : List α) (s : St4), DkOk s ∧ acc = xs.map g ∧ xs.length = i ∧ (∀ x ∈ xs, S x) ∧ C.Perm (dk p q s ++ r) ∧ (0 < i → C = dk p q s ++ r)) ⟨[], s, hd, rfl, rfl, by simp, pm, by simp⟩ ?_ ?_ hl ?_
  · rintro i d acc C k hi ⟨xs, s, hd, rfl, rfl, hx, pm, _⟩ hk
    refine ⟨trivial, step d C s k pm hd fun x s' hS hd' => hk _ _ ⟨xs ++ [x], s', hd', by simp, by simp, fun y hy => ?_, List.Perm.refl _, fun _ => rfl⟩⟩
    rcases List.mem_append.mp hy with h | h
    · exact hx y h
    · rw [List.mem_singleton.mp h]; exact hS
  · rintro acc C ⟨xs, s, hd, rfl, hn, hx, _, e⟩
    obtain rfl := e h0
    exact ⟨trivial, h xs s hn hx hd⟩
  · rintro i acc C ⟨xs, _, _, rfl, h, _⟩
    rw [List.length_map]; omega
theorem p_lbook_l1 (T : Tp P K mg) {p q z : Addr} {s : St4} {ns : List Str} {x : Str} {kds : List Kd} {C : Cells} {Qx : QX} {Q : QE} {nx bk : Unit → MB} (hd : DkOk s) (n0 : 0 < ns.length) (n1 : ns.length ≤ 100) (hk : kds.length ≤ 100) (pm : C.Perm (dk p q s ++ [(z, .lst (kds.map kdD))]))
    (hn : ∀ (os : List (Option Str)) (s' : St4), os.length = ns.length → (∀ o ∈ os, ∀ w, o = some w → w ∈ ns) → DkOk s' → nx () (dk p q s' ++ [(z, .lst ((kds ++ [(x, os)]).map kdD))])) :
    w__law_book_l1 T (.raw (.ref p)) (.lst (ns.map D.str)) (.raw (.ref z)) Qx Q (.str x) () nx bk C := by
  have cz : (z, Cell.lst (kds.map kdD)) ∈ C := pm.mem_iff.mpr (by simp)
  unfold w__law_book_l1
  walk_at "g"
  refine ⟨⟨z, _, rfl, cz⟩, ?_⟩
  walk_at "g"
  refine l_drawsP (r := [(z, .lst (kds.map kdD))]) oD (fun o => ∀ w, o = some w → w ∈ ns) pm hd (by rw [List.length_map]; omega) (by rw [List.length_map]; exact n0) (fun d C s k pm hd hk => ?_) fun os s' hlen hos hd' => ?_
  · walk_at "g"
    refine c_drawP T pm hd (by rw [List.length_map]; omega) (by rw [List.length_map]; omega) fun j s2 j0 j1 hd2 => ?_
    have e : ns.map D.str ++ [D.non] = (ns.map some ++ [none]).map oD := by rw [List.map_append, List.map_map]; rfl
    rw [e]
    refine s_ix_at (g := oD) j0 (by rw [List.length_append, List.length_map]; rw [List.length_map] at j1; exact j1) fun o ho => hk o s2 (fun w hw => ?_) hd2
    subst hw
    rcases List.mem_append.mp ho with ho | ho
    · obtain ⟨y, hy, e⟩ := List.mem_map.mp ho
      cases e; exact hy
    · cases List.mem_singleton.mp ho
  · rw [List.length_map] at hlen
    walk_at "g"
    have := hn os s' hlen hos hd'
    rw [List.map_append] at this
    exact part_id this
theorem p_lbook (T : Tp P K mg) {p q : Addr} {s : St4} {m : Int} {Qx : QX} {Q : QE} (hd : DkOk s) (m0 : 1 ≤ m) (m1 : m ≤ 20) (h : ∀ ns kds ls os (s' : St4), BookOk ns kds ls os m → DkOk s' → Q (formD ns kds ls os) (dk p q s')) : w__law_book T (.raw (.ref p)) (.int m) Qx Q (dk p q s) := by
  unfold w__law_book
  walk_at "g"
  refine c_draw0 T hd (by omega) (by omega) fun a s1 a0 a1 hd1 => ?_
  walk_at "g"
  refine c_words T (r := []) (by rw [List.append_nil]) hd1 (by omega) (by omega) fun ns s2 hns hd2 => ?_
  rw [List.append_nil]
  walk_at "g"
  refine c_draw0 T hd2 (by omega) (by omega) fun b s3 b0 b1 hd3 => ?_
  walk_at "g"
  refine c_words T (r := []) (by rw [List.append_nil]) hd3 (by omega) (by omega) fun ks s4 hks hd4 => ?_
  rw [List.append_nil]
  walk_at "g"
  intro z
  walk_at "g"
  refine loop_inv (fun i _ C => ∃ (kds : List Kd) (s : St4), DkOk s ∧ kds.map (·.1) = ks.take i ∧ (∀ x ∈ kds, x.2.length = ns.length ∧ ∀ o ∈ x.2, ∀ w, o = some w → w ∈ ns) ∧ (C = dk p q s ++ [(z, .lst (kds.map kdD))] ∨ C = (z, .lst (kds.map kdD)) :: dk p q s)) ⟨[], s4, hd4, by simp, by simp, .inr rfl⟩ ?_ ?_
  · rintro i d u C nx hi ⟨kds, s, hd, e, ht, hC⟩ hn
    have pm : C.Perm (dk p q s ++ [(z, .lst (kds.map kdD))]) := by
      rcases hC with rfl | rfl
      · exact List.Perm.refl _
      · exact List.perm_append_comm (l₁ := [(z, Cell.lst (kds.map kdD))]) (l₂ := dk p q s)
    have hi2 : i < ks.length := by
      have := (List.getElem?_eq_some_iff.mp hi).1
      rwa [List.length_map] at this
    rw [List.getElem?_map] at hi
    obtain ⟨x, hx, rfl⟩ := Option.map_eq_some_iff.mp hi
    have kl := hks.len
    have nl := hns.len
    have hkl : kds.length ≤ 100 := by
      have : (kds.map (·.1)).length = (ks.take i).length := by rw [e]
      rw [List.length_map, List.length_take] at this
      omega
    refine ⟨trivial, p_lbook_l1 T hd (by omega) (by omega) hkl pm fun os s' hlen hos hd' => hn _ _ ⟨kds ++ [(x, os)], s', hd', ?_, fun y hy => ?_, .inl rfl⟩⟩
    · rw [List.map_append, e, List.take_succ, hx]; rfl
    · rcases List.mem_append.mp hy with hy | hy
      · exact ht y hy
      · rw [List.mem_singleton.mp hy]; exact ⟨hlen, hos⟩
  · rintro u C ⟨kds, s, hd, e, ht, hC⟩
    refine ⟨trivial, ?_⟩
    have pm : C.Perm (dk p q s ++ [(z, .lst (kds.map kdD))]) := by
      rcases hC with rfl | rfl
      · exact List.Perm.refl _
      · exact List.perm_append_comm (l₁ := [(z, Cell.lst (kds.map kdD))]) (l₂ := dk p q s)
    rw [List.length_map, List.take_length] at e
    have kl := hks.len
    unfold w__law_book_a2
    walk_at "g"
    refine c_mixed T pm hd hks (by omega) fun ls s5 hls pl hd5 => ?_
    walk_at "g"
    refine c_draw T hd5 (by rw [List.length_map]; omega) (by rw [List.length_map]; omega) fun j s6 j0 j1 hd6 => ?_
    rw [List.length_map] at j1
    walk_at "g"
    rw [cutD_map, cutN_take j0 (by have := hls.len; omega)]
    refine c_mixed T (r := []) (show (dk p q s6).Perm _ by rw [List.append_nil]) hd6 hks (by omega) fun os s7 hos po hd7 => ?_
    rw [List.append_nil]
    walk_at "g"
    refine c_draw0 T hd7 (by rw [List.length_map]; omega) (by rw [List.length_map]; omega) fun i s8 i0 i1 hd8 => ?_
    rw [List.length_map] at i1
    walk_at "g"
    rw [cutD_map, cutN_take i0 (by have := hos.len; omega)]
    walk_at "g"
    refine ⟨dk p q s8, [], by rw [List.append_nil], h ns kds _ _ s8 ⟨⟨_, by omega, by omega, hns⟩, ⟨b, b0, by omega, by rw [e]; exact hks⟩, ht, ⟨j, hls.take j0 (by omega), fun x hx => ?_⟩, ⟨i, hos.take i0 (by omega), fun x hx => ?_⟩⟩ hd8⟩
    · rw [e]; exact pl.subset (List.mem_of_mem_take hx)
    · rw [e]; exact po.subset (List.mem_of_mem_take hx)
theorem c_lbook (T : Tp P K mg) {p q : Addr} {s : St4} {m : Int} {Xq : QX} {Q : QE} {C r : Cells} (pm : C.Perm (dk p q s ++ r)) (hd : DkOk s) (m0 : 1 ≤ m) (m1 : m ≤ 20) (h : ∀ ns kds ls os (s' : St4), BookOk ns kds ls os m → DkOk s' → Q (formD ns kds ls os) (dk p q s' ++ r)) :
    callW (fw__law_book T) Xq [.raw (.ref p), .int m] C Q := ⟨dk p q s, r, pm, p_lbook T hd m0 m1 h⟩


def Junk (n : Nat) (as : List Addr) (J : Cells) : Prop := ∀ a ∈ as, ∃ ds : List D, (a, Cell.lst ds) ∈ J ∧ ds.length ≤ n
theorem Junk.sub {n m : Nat} {as bs : List Addr} {J : Cells} (h : Junk n as J) (hn : n ≤ m) (s : ∀ b ∈ bs, b ∈ as) : Junk m bs J := fun a ha => let ⟨ds, h1, h2⟩ := h a (s a ha); ⟨ds, h1, Nat.le_trans h2 hn⟩
theorem Junk.isL {n : Nat} {as : List Addr} {J base C : Cells} {a : Addr} (h : Junk n as J) (pm : C.Perm (base ++ J)) (ha : a ∈ as) : Tr.isL (.raw (.ref a)) C :=
  let ⟨ds, hm, _⟩ := h a ha
  ⟨a, ds, rfl, pm.mem_iff.mpr (List.mem_append_right _ hm)⟩
theorem p_is_sequence (T : Tp P K mg) {d : D} {b : Bool} {C : Cells} {Q : QE} {Qx : QX} (h : SqA K C d b) (q : Q (.bl b) C) : callW (fw_is_sequence T) Qx [d] C Q := by
  refine call_all (show w_is_sequence T d Qx Q C from ?_)
  unfold w_is_sequence
  walk_at "g"
  refine s_isSq h ?_
  exact q


def anyC : List D := [.non, .bl true, .bl false, .int 0, .int 1, .int (0 - 3), .int (10 ^ 9), .str "", .str "a", .str "no", .str "yes", .str "abcde", .str "A", .str "x y", .tup [.str "a", .tup [.str "a"]], .str "on"]
inductive AV : Nat → D → Prop
  | c {n d} (h : d ∈ anyC) : AV n d
  | l {n ds} (h : ∀ d ∈ ds, AV n d) (hl : ds.length ≤ 3) : AV (n + 1) (.lst ds)
  | t {n ds} (h : ∀ d ∈ ds, AV n d) (hl : ds.length ≤ 3) : AV (n + 1) (.tup ds)
theorem anyD_of {K : W.Frag} {C : Cells} {d : D} {t : String} (h : TyD K C d (.type t)) (hk : kitB t "str" = some (isStr d)) (hl : (strOf d).length ≤ 100000) : AnyD K C d := ⟨⟨_, h, kit_ty hk⟩, hl⟩
theorem AV.any {K : W.Frag} {C : Cells} {n : Nat} {d : D} (h : AV n d) : AnyD K C d := by
  cases h with
  | c h =>
    unfold anyC at h
    simp only [List.mem_cons, List.not_mem_nil, or_false] at h
    rcases h with rfl | rfl | rfl | rfl | rfl | rfl | rfl | rfl | rfl | rfl | rfl | rfl | rfl | rfl | rfl | rfl
    all_goals first
      | exact any_str (by decide)
      | exact anyD_of .non (by decide +kernel) (by decide)
      | exact anyD_of (.bl _) (by decide +kernel) (by decide)
      | exact anyD_of (.int _) (by decide +kernel) (by decide)
      | exact anyD_of (.tup _) (by decide +kernel) (by decide)
  | l h hl => exact anyD_of (.lst _) (show kitB "list" "str" = some false by decide +kernel) (by show Str.empty.length ≤ _; decide)
  | t h hl => exact anyD_of (.tup _) (show kitB "tuple" "str" = some false by decide +kernel) (by show Str.empty.length ≤ _; decide)
theorem AV.seq {K : W.Frag} {n : Nat} {d : D} (h : AV n d) : (∀ C, SqA K C d false) ∨ (∃ ds, (d = .lst ds ∨ d = .tup ds) ∧ ds.length ≤ 3 ∧ ∀ x ∈ ds, ∃ m, AV m x) ∨ d = .tup [.str "a", .tup [.str "a"]] := by
  cases h with
  | c h =>
    unfold anyC at h
    simp only [List.mem_cons, List.not_mem_nil, or_false] at h
    rcases h with rfl | rfl | rfl | rfl | rfl | rfl | rfl | rfl | rfl | rfl | rfl | rfl | rfl | rfl | rfl | rfl
    all_goals first
      | exact .inr (.inr rfl)
      | exact .inl fun C => sq_ty (.str _) (.inr ⟨by decide +kernel, by decide +kernel⟩)
      | exact .inl fun C => sq_ty .non (.inr ⟨by decide +kernel, by decide +kernel⟩)
      | exact .inl fun C => sq_ty (.bl _) (.inr ⟨by decide +kernel, by decide +kernel⟩)
      | exact .inl fun C => sq_ty (.int _) (.inr ⟨by decide +kernel, by decide +kernel⟩)
  | l h hl => exact .inr (.inl ⟨_, .inl rfl, hl, fun x hx => ⟨_, h x hx⟩⟩)
  | t h hl => exact .inr (.inl ⟨_, .inr rfl, hl, fun x hx => ⟨_, h x hx⟩⟩)
theorem AV.lay {n : Nat} {d : D} (h : AV n d) : plainD d = true ∧ (toPy d).canLay0 = true ∧ (toPy d).depth ≤ 3 + n := by
  induction h with
  | c h =>
    have all : ∀ d ∈ anyC, plainD d = true ∧ (toPy d).canLay0 = true ∧ (toPy d).depth ≤ 3 := by
      intro d h
      unfold anyC at h
      simp only [List.mem_cons, List.not_mem_nil, or_false] at h
      rcases h with rfl | rfl | rfl | rfl | rfl | rfl | rfl | rfl | rfl | rfl | rfl | rfl | rfl | rfl | rfl | rfl
      all_goals exact ⟨by decide +kernel, by decide +kernel, by decide +kernel⟩
    obtain ⟨a, b, c⟩ := all _ h
    exact ⟨a, b, by omega⟩
  | l h hl ih =>
    obtain ⟨a, b, c⟩ := lays ih
    exact ⟨a, b, by rw [toPy, PyData.depth]; omega⟩
  | t h hl ih =>
    obtain ⟨a, b, c⟩ := lays ih
    exact ⟨a, b, by rw [toPy, PyData.depth]; omega⟩
theorem p_any (T : Tp P K mg) : ∀ (k n : Nat) {p q : Addr} {s : St4} {Qx : QX} {Q : QE}, n < k → DkOk s → (∀ d s', AV n d → DkOk s' → Q d (dk p q s')) → fw__law_any T k [.raw (.ref p), .int (n : Int)] (dk p q s) Q Qx
  | 0, n, _, _, _, _, _, hk, _, _ => by omega
  | k + 1, n, p, q, s, Qx, Q, hk, hd, h => by
    show w__law_any T (fw__law_any T k) (.raw (.ref p)) (.int n) Qx Q (dk p q s)
    have leaf : ∀ {l : List D} {f : Int} {s : St4}, l = anyC → DkOk s → 0 ≤ f → f < 16 → pIx (.lst l) (.int f) (dk p q s) Q := by
      rintro l f s rfl hd h0 h1
      rw [show anyC = anyC.map id by rw [List.map_id]]
      exact s_ix_at h0 h1 fun d hm => h d s (.c hm) hd
    unfold w__law_any
    walk_at "g"
    refine ite2M (fun h1 => ?_) (fun h1 => ?_)
    · have hn : 0 < n := by have := of_decide_eq_true h1; omega
      walk_at "g"
      refine c_draw0 T hd (by decide) (by decide) fun f s1 _ _ hd1 => ?_
      walk_at "g"
      refine ite2M (fun h2 => ?_) (fun h2 => ?_)
      · walk_at "g"
        refine c_draw0 T hd1 (by decide) (by decide) fun c s2 hc0 hc1 hd2 => ?_
        walk_at "g"
        refine lcB_inv (fun i acc C1 => ∃ (s : St4), DkOk s ∧ acc.length = i ∧ i ≤ 3 ∧ (∀ x ∈ acc, AV (n - 1) x) ∧ C1 = dk p q s) ⟨s2, hd2, rfl, by decide, by simp, rfl⟩ ?_ ?_ (by rw [rangeD_len]; omega) ?_
        · rintro i d acc C1 kk hi ⟨s3, hd3, rfl, hl3, hx, rfl⟩ hkk
          have hlt : acc.length < 3 := by
            have := (List.getElem?_eq_some_iff.mp hi).1
            rw [rangeD_len] at this
            omega
          refine ⟨trivial, ?_⟩
          walk_at "g"
          rw [show (n : Int) - 1 = ((n - 1 : Nat) : Int) by omega]
          refine call_all (p_any T k (n - 1) (by omega) hd3 fun d s4 hv hd4 => hkk _ _ ⟨s4, hd4, by simp, by omega, fun x hx' => ?_, rfl⟩)
          rcases List.mem_append.mp hx' with h | h
          · exact hx x h
          · rw [List.mem_singleton.mp h]; exact hv
        rotate_left
        · rintro i acc C1 ⟨_, _, h, _⟩
          omega
        rintro acc C1 ⟨s5, hd5, hal, hl3, hx, rfl⟩
        refine ⟨trivial, ?_⟩
        walk_at "g"
        refine c_draw0 T hd5 (by decide) (by decide) fun f s6 _ _ hd6 => ?_
        walk_at "g"
        obtain ⟨j, rfl⟩ : ∃ j, n = j + 1 := ⟨n - 1, by omega⟩
        refine ite2M (fun h3 => ?_) (fun h3 => ?_)
        · walk_at "g"
          exact h _ _ (.l hx (by omega)) hd6
        · walk_at "g"
          exact h _ _ (.t hx (by omega)) hd6
      · walk_at "g"
        refine c_draw0 T hd1 (by decide) (by decide) fun f s2 hc0 hc1 hd2 => ?_
        exact leaf rfl hd2 hc0 hc1
    · walk_at "g"
      refine c_draw0 T hd (by decide) (by decide) fun f s2 hc0 hc1 hd2 => ?_
      exact leaf rfl hd2 hc0 hc1
theorem c_any0 (T : Tp P K mg) {k n : Nat} {p q : Addr} {s : St4} {Xq : QX} {Q : QE} (hk : n < k) (hd : DkOk s) (h : ∀ d s', AV n d → DkOk s' → Q d (dk p q s')) :
    callW (fw__law_any T k) Xq [.raw (.ref p), .int (n : Int)] (dk p q s) Q := call_all (p_any T k n hk hd h)


theorem chr_le (a b : Nat) : (!decide ((⟨#[b]⟩ : Str).cps.toList < (⟨#[a]⟩ : Str).cps.toList)) = decide (a ≤ b) := by
  show (!decide ([b] < [a])) = _
  rw [Bool.eq_iff_iff]
  simp only [Bool.not_eq_true', decide_eq_false_iff_not, decide_eq_true_eq]
  constructor
  · intro h
    apply Nat.le_of_not_lt
    intro z
    exact h (List.Lex.rel z)
  · intro h z
    cases z with
    | rel z => omega
    | cons z => cases z
theorem small_in (c : Nat) : decide (c ∈ small.cps.toList) = (decide (97 ≤ c) && decide (c ≤ 122)) := by
  have e : small.cps.toList = (List.range 26).map (· + 97) := by decide +kernel
  rw [e, Bool.eq_iff_iff]
  simp only [decide_eq_true_eq, List.mem_map, List.mem_range, Bool.and_eq_true]
  exact ⟨fun ⟨a, h, e⟩ => by omega, fun h => ⟨c - 97, by omega, by omega⟩⟩
theorem chr_ok {s : Str} (h : PyData.strOk s = true) {c : Nat} (hc : c ∈ s.cps.toList) : PyData.strOk (⟨#[c]⟩ : Str) = true := by
  have h1 : ∀ x ∈ s.cps.toList, x < 0x110000 := by
    have h2 : s.cps.all (· < 0x110000) = true := h
    rw [← Array.all_toList, List.all_eq_true] at h2
    exact fun x hx => of_decide_eq_true (h2 x hx)
  show (#[c] : Array Nat).all (· < 0x110000) = true
  rw [← Array.all_toList]
  simp [h1 c hc]
theorem filter_nil {α β : Type} (f : α → β) (p : α → Bool) (l : List α) : decide ((l.filter fun a => !p a).map f = []) = l.all p := by
  rw [Bool.eq_iff_iff]
  simp
theorem p_law_is_name (T : Tp P K mg) {s : Str} {C : Cells} {Q : QE} {Qx : QX} (ho : PyData.strOk s = true) (hl : s.length ≤ 100000) (q : Q (.bl (isNameS s)) C) : callW (fw__law_is_name T) Qx [.str s] C Q := by
  refine call_all (show w__law_is_name T (.str s) Qx Q C from ?_)
  unfold w__law_is_name
  walk_at "g"
  unfold isNameS at q
  walk_at "S"
  all_goals try (refine q_bl q ?_; simp at *; omega)
  · refine q_bl q ?_
    have e : decide (s ∈ barred) = true := h
    rw [e]; simp
  · have e : decide (s ∈ barred) = false := eq_false_of_ne_true h
    rename_i h1
    unfold signsD
    refine lcB1_map _ (fun c => D.str ⟨#[c]⟩) (fun c => !(decide (97 ≤ c) && decide (c ≤ 122))) trivial (fun c hc k q => ?_) (fun c hc hb k q => q) (by rw [Array.length_toList]; exact hl) ?_
    · walk_at "S"
      · rw [show ("a" : Str) = ⟨#[97]⟩ from rfl, chr_le] at h
        rw [show ("z" : Str) = ⟨#[122]⟩ from rfl, chr_le]
        rw [h, Bool.true_and] at q
        exact q
      · rw [show ("a" : Str) = ⟨#[97]⟩ from rfl, chr_le] at h
        rw [eq_false_of_ne_true h, Bool.false_and] at q
        exact q
    walk_at "g"
    have e3 : (decide (1 ≤ s.length ∧ s.length ≤ 4)) = true := by simp at *; omega
    have em : decide ((s.cps.toList.filter fun c => !(decide (97 ≤ c) && decide (c ≤ 122))).map (fun c => (⟨#[c]⟩ : Str)) = []) = s.cps.toList.all fun c => decide (c ∈ small.cps.toList) := by
      rw [filter_nil]
      congr 1
      funext c
      exact (small_in c).symm
    refine s_eqD (.inl rfl) (eqd_lstS (xs := (s.cps.toList.filter fun c => !(decide (97 ≤ c) && decide (c ≤ 122))).map fun c => (⟨#[c]⟩ : Str)) (ys := []) (by rw [List.map_map]; exact .l) .l (fun x hx => ?_) (by simp)) ?_
    · obtain ⟨c, hc, rfl⟩ := List.mem_map.mp hx
      exact chr_ok ho (List.mem_filter.mp hc).1
    · refine q_bl q ?_
      rw [e, em, e3]
      simp only [Bool.not_false, Bool.true_and]


inductive Dt : Nat → D → Prop
  | non {n} : Dt n .non
  | bl {n} (b : Bool) : Dt n (.bl b)
  | int {n} (i : Int) : Dt n (.int i)
  | str {n} {s : Str} (h : PyData.strOk s = true) (l : s.length ≤ 1000) : Dt n (.str s)
  | lst {n ds} (h : ∀ d ∈ ds, Dt n d) (l : ds.length ≤ 1000) : Dt (n + 1) (.lst ds)
  | tup {n ds} (h : ∀ d ∈ ds, Dt n d) (l : ds.length ≤ 1000) : Dt (n + 1) (.tup ds)
def seqO : D → Option (List D)
  | .lst ds => some ds
  | .tup ds => some ds
  | _ => none
theorem Dt.mono {n m : Nat} {d : D} (h : Dt n d) (l : n ≤ m) : Dt m d := by
  induction h generalizing m with
  | non => exact .non
  | bl b => exact .bl b
  | int i => exact .int i
  | str h k => exact .str h k
  | lst h k ih =>
    obtain ⟨j, rfl⟩ : ∃ j, m = j + 1 := ⟨m - 1, by omega⟩
    exact .lst (fun d hd => ih d hd (by omega)) k
  | tup h k ih =>
    obtain ⟨j, rfl⟩ : ∃ j, m = j + 1 := ⟨m - 1, by omega⟩
    exact .tup (fun d hd => ih d hd (by omega)) k
theorem Dt.basic {n : Nat} {d : D} (h : Dt n d) : basicD d = true := by cases h <;> rfl
theorem Dt.any {n : Nat} {d : D} {K : W.Frag} {C : Cells} (h : Dt n d) : AnyD K C d := basic_any h.basic (by
  have e : (Str.ofString "").length ≤ 100000 := by decide +kernel
  cases h with
  | str h l => exact Nat.le_trans l (by decide)
  | _ => exact e)
theorem Dt.lay {n : Nat} {d : D} (h : Dt n d) : plainD d = true ∧ (toPy d).canLay0 = true ∧ (toPy d).depth ≤ n := by
  induction h with
  | non => exact ⟨rfl, rfl, Nat.zero_le _⟩
  | bl b => exact ⟨rfl, rfl, Nat.zero_le _⟩
  | int i => exact ⟨rfl, rfl, Nat.zero_le _⟩
  | str h k => exact ⟨rfl, (ShowOk.str h).lay, Nat.zero_le _⟩
  | lst h k ih =>
    obtain ⟨a, b, c⟩ := lays ih
    exact ⟨a, b, by rw [toPy, PyData.depth]; omega⟩
  | tup h k ih =>
    obtain ⟨a, b, c⟩ := lays ih
    exact ⟨a, b, by rw [toPy, PyData.depth]; omega⟩
theorem Dt.seq {n : Nat} {d : D} {ds : List D} {C : Cells} (h : Dt n d) (e : seqO d = some ds) : SeqD C d ds ∧ ds.length ≤ 1000 ∧ ∀ x ∈ ds, Dt (n - 1) x := by
  cases h with
  | lst h l => cases e; exact ⟨.l, l, h⟩
  | tup h l => cases e; exact ⟨.t, l, h⟩
  | _ => cases e
theorem Dt.sq {n : Nat} {d : D} {K : W.Frag} {C : Cells} (h : Dt n d) : SqA K C d (seqO d).isSome := by
  cases h with
  | non => exact sq_ty .non (.inr ⟨by decide +kernel, (by decide +kernel : kitB _ "tuple" = some false)⟩)
  | bl b => exact sq_ty (.bl _) (.inr ⟨by decide +kernel, (by decide +kernel : kitB _ "tuple" = some false)⟩)
  | int i => exact sq_ty (.int _) (.inr ⟨by decide +kernel, (by decide +kernel : kitB _ "tuple" = some false)⟩)
  | str h l => exact sq_ty (.str _) (.inr ⟨by decide +kernel, (by decide +kernel : kitB _ "tuple" = some false)⟩)
  | lst h l => exact sq_seq .l
  | tup h l => exact sq_seq .t
theorem AV.dt {n : Nat} {d : D} (h : AV n d) : Dt (n + 2) d := by
  have all : ∀ s ∈ (["", "a", "no", "yes", "abcde", "A", "x y", "on"] : List Str), PyData.strOk s = true ∧ s.length ≤ 1000 := by decide +kernel
  have st : ∀ {s : Str} {n : Nat}, s ∈ (["", "a", "no", "yes", "abcde", "A", "x y", "on"] : List Str) → Dt n (.str s) := fun h => .str (all _ h).1 (all _ h).2
  induction h with
  | @c n d h =>
    have h2 : Dt 2 d := by
      unfold anyC at h
      simp only [List.mem_cons, List.not_mem_nil, or_false] at h
      rcases h with rfl | rfl | rfl | rfl | rfl | rfl | rfl | rfl | rfl | rfl | rfl | rfl | rfl | rfl | rfl | rfl
      all_goals first
        | exact .non
        | exact .bl _
        | exact .int _
        | exact st (by simp)
        | (refine .tup (fun d hd => ?_) (by decide)
           rcases List.mem_cons.mp hd with rfl | hd
           · exact st (by simp)
           rw [List.mem_singleton.mp hd]
           refine .tup (fun d hd => ?_) (by decide)
           rw [List.mem_singleton.mp hd]
           exact st (by simp))
    exact h2.mono (by omega)
  | l h hl ih => exact .lst ih (by omega)
  | t h hl ih => exact .tup ih (by omega)
def eqS (s : Str) (z : D) : Bool := isStr z && decide (strOf z = s)
theorem eqv_txt {n : Nat} {z : D} {s : Str} (h : Dt n z) : PyData.eqv (toPy z) (toPy (.str s)) = eqS s z := by
  cases h with
  | str h l =>
    show PyData.eqv (.str _) (.str s) = (true && _)
    rw [PyData.eqv, Bool.true_and]
    rfl
  | _ => rfl
theorem enumZ : ∀ (l : List D) (k : Nat), enumD k l = (l.zipIdx k).map fun p => .tup [.int (p.2 : Nat), p.1]
  | [], _ => rfl
  | a :: l, k => by
    rw [List.zipIdx_cons, List.map_cons, ← enumZ l (k + 1)]
    rfl
theorem cut_take {ds : List D} {n : Nat} : Tr.cutD ds none (some (n : Int)) = ds.take n := by
  unfold Tr.cutD
  rw [show HT.sIx ds.length 0 none = 0 from rfl, HT.sIx_nat, List.drop_zero, Nat.sub_zero]
  by_cases h : n ≤ ds.length
  · rw [Nat.min_eq_left h]
  · rw [Nat.min_eq_right (by omega), List.take_of_length_le (Nat.le_refl _), List.take_of_length_le (by omega)]
theorem sl_seq {C : Cells} {d : D} {ds : List D} {l u : Option Int} {Q : QE} (h0 : SeqD C d ds) (h : ∀ e, SeqD C e (cutD ds l u) → Q e C) : pSl d l u C Q := by
  rcases h0 with (rfl | ⟨a, rfl, hm⟩) | rfl
  · exact s_sl_lst (h _ .l)
  · exact s_sl_cell (.inr ⟨a, rfl, hm⟩) (h _ .l)
  · exact s_sl_tup (h _ .t)
theorem len_seq {C : Cells} {d : D} {ds : List D} {own1 : D → ME} {Q : QE} (h0 : SeqD C d ds) (q : Q (.int ds.length) C) : on1 (pLen1 own1) [d] C Q := by
  rcases h0 with (rfl | ⟨a, rfl, hm⟩) | rfl
  · exact s_len_lst q
  · exact s_len_cell (.inr ⟨a, rfl, hm⟩) q
  · exact s_len_tup q
theorem dt_inOk {n : Nat} {s : Str} {ds : List D} (hs : Dt n (.str s)) (h : ∀ x ∈ ds, Dt n x) (hn : n ≤ 60) : InOk (.str s) ds := by
  obtain ⟨a, b, c⟩ := hs.lay
  exact ⟨⟨a, b, by omega⟩, fun d hd => let z := (h d hd).lay; ⟨z.1, z.2.1⟩⟩
theorem any_eqv {n : Nat} {s : Str} {ds : List D} (h : ∀ x ∈ ds, Dt n x) : (ds.any fun z => PyData.eqv (toPy z) (toPy (.str s))) = ds.any (eqS s) := by
  induction ds with
  | nil => rfl
  | cons d ds ih => rw [List.any_cons, List.any_cons, eqv_txt (h d List.mem_cons_self), ih fun x hx => h x (List.mem_cons_of_mem _ hx)]
theorem s_notInT {n : Nat} {s : Str} {ds : List D} {y : D} {C : Cells} {Q : QE} (h0 : SeqD C y ds) (hs : Dt n (.str s)) (h : ∀ x ∈ ds, Dt n x) (hn : n ≤ 60) (q : Q (.bl (!ds.any (eqS s))) C) : oNotInP (.str s) y C Q :=
  ⟨ds, h0, dt_inOk hs h hn, by rw [any_eqv h]; exact q⟩
theorem s_inT {n : Nat} {s : Str} {ds : List D} {y : D} {C : Cells} {Q : QE} (h0 : SeqD C y ds) (hs : Dt n (.str s)) (h : ∀ x ∈ ds, Dt n x) (hn : n ≤ 60) (q : Q (.bl (ds.any (eqS s))) C) : oInP (.str s) y C Q :=
  ⟨ds, h0, dt_inOk hs h hn, by rw [any_eqv h]; exact q⟩


def okAt (ds : List D) (p : D × Nat) : Bool := isNameD p.1 && !(ds.take p.2).any (eqS (strOf p.1))
def namesL (ds : List D) : Bool := ds.zipIdx.all (okAt ds)
def namesD (d : D) : Bool := (seqO d).any namesL
theorem isName_str {d : D} (h : isNameD d = true) : ∃ s, d = .str s ∧ isNameS s = true := by
  unfold isNameD at h
  rw [Bool.and_eq_true] at h
  cases d <;> first | exact ⟨_, rfl, h.2⟩ | cases h.1
section
variable {d e : D} {C : Cells} {Q : QE} {Qx : QX} {n : Nat}
theorem c_are_names (T : Tp P K mg) (h : Dt n d) (hn : n ≤ 50) (q : Q (.bl (namesD d)) C) : callW (fw_are_names T) Qx [d] C Q := by
  refine cl_are_names T ?_
  unfold w_are_names
  walk_at "g"
  refine p_is_sequence T h.sq ?_
  unfold namesD at q
  cases hs : seqO d with
  | none =>
    rw [hs] at q
    dsimp only [Option.isSome]
    walk_at "g"
    exact q
  | some ds =>
    rw [hs] at q
    obtain ⟨h0, hl, hx⟩ := h.seq (C := C) hs
    dsimp only [Option.isSome]
    walk_at "g"
    refine s_en_seq h0 fun P hP => ?_
    rw [enumZ]
    refine lcB_map (l := ds.zipIdx) (fun p : D × Nat => .tup [.int (p.2 : Nat), p.1]) (fun p => D.bl (okAt ds p)) (hP _ h0) (fun p hp k hk => ?_) (by rw [List.length_zipIdx]; omega) ?_
    · obtain ⟨x, i⟩ := p
      have hi : ds[i]? = some x := List.mem_zipIdx_iff_getElem?.mp hp
      have hxd := hx x (List.mem_of_getElem? hi)
      dsimp only
      walk_at "g"
      refine p_is_name T hxd.any ?_
      unfold okAt at hk
      dsimp only at hk
      cases hnm : isNameD x with
      | false =>
        rw [hnm] at hk
        walk_at "g"
        exact hk
      | true =>
        rw [hnm] at hk
        obtain ⟨s, rfl, _⟩ := isName_str hnm
        walk_at "g"
        refine sl_seq h0 fun e he => ?_
        walk_at "g"
        rw [cut_take] at he
        exact s_notInT he hxd (fun y hy => hx y (List.mem_of_mem_take hy)) (by omega) hk
    · walk_at "g"
      exact q
theorem c_l_is_name (T : Tp P K mg) (h : Dt n d) (q : Q (.bl (isNameD d)) C) : callW (fw__law_is_name T) Qx [d] C Q := by
  by_cases hd : isStr d = true
  · obtain ⟨s, rfl⟩ : ∃ s, d = .str s := by cases d <;> first | exact ⟨_, rfl⟩ | cases hd
    cases h with
    | str ho hl => exact p_law_is_name T ho (by omega) q
  · have e : isStr d = false := by simpa using hd
    unfold isNameD at q
    rw [e] at q
    refine cl__law_is_name T ?_
    unfold w__law_is_name
    walk_at "g"
    refine s_isStr h.any ?_
    rw [e]
    walk_at "g"
    exact q
theorem c_l_are_names (T : Tp P K mg) (h : Dt n d) (hn : n ≤ 50) (q : Q (.bl (namesD d)) C) : callW (fw__law_are_names T) Qx [d] C Q := by
  refine cl__law_are_names T ?_
  unfold w__law_are_names
  walk_at "g"
  refine s_isSq h.sq ?_
  unfold namesD at q
  cases hs : seqO d with
  | none =>
    rw [hs] at q
    dsimp only [Option.isSome]
    walk_at "g"
    exact q
  | some ds =>
    rw [hs] at q
    obtain ⟨h0, hl, hx⟩ := h.seq (C := C) hs
    dsimp only [Option.isSome]
    walk_at "g"
    refine s_en_seq h0 fun P hP => ?_
    rw [enumZ]
    refine lcB1_map (l := ds.zipIdx) (fun p : D × Nat => .tup [.int (p.2 : Nat), p.1]) (fun p => D.int (p.2 : Nat)) (fun p => !okAt ds p) (hP _ h0) (fun p hp k hk => ?_) (fun p hp _ k hk => ?_) (by rw [List.length_zipIdx]; omega) ?_
    · obtain ⟨x, i⟩ := p
      have hi : ds[i]? = some x := List.mem_zipIdx_iff_getElem?.mp hp
      have hxd := hx x (List.mem_of_getElem? hi)
      dsimp only
      walk_at "g"
      refine c_l_is_name T hxd ?_
      unfold okAt at hk
      dsimp only at hk
      cases hnm : isNameD x with
      | false =>
        rw [hnm] at hk
        walk_at "g"
        exact hk
      | true =>
        rw [hnm] at hk
        obtain ⟨s, rfl, _⟩ := isName_str hnm
        walk_at "g"
        refine sl_seq h0 fun e he => ?_
        walk_at "g"
        rw [cut_take] at he
        refine s_inT he hxd (fun y hy => hx y (List.mem_of_mem_take hy)) (by omega) ?_
        rw [Bool.true_and, Bool.not_not] at hk
        walk_at "g"
        exact hk
    · walk_at "g"
      exact hk
    · walk_at "g"
      refine s_eqD (.inl rfl) (eqd_nil (xs := (ds.zipIdx.filter fun p => !okAt ds p).map fun p => D.int (p.2 : Nat)) fun d hd => ?_) ?_
      · obtain ⟨p, _, rfl⟩ := List.mem_map.mp hd
        exact ⟨rfl, rfl, Nat.zero_le _⟩
      · rw [show ((ds.zipIdx.filter fun p => !okAt ds p).map fun p => D.int (p.2 : Nat)).isEmpty = namesL ds from by
          unfold namesL
          rw [Bool.eq_iff_iff, List.isEmpty_iff, List.map_eq_nil_iff, List.filter_eq_nil_iff, List.all_eq_true]
          simp]
        walk_at "g"
        exact q
end


def tg1 (ns : List Str) (x : D) : Bool := match x with
  | .non => true
  | .str s => decide (s ∈ ns)
  | _ => false
def targL (ns : List Str) (ds : List D) : Bool := decide (ds.length = ns.length) && ds.all (tg1 ns)
def targD (ns : List Str) (d : D) : Bool := (seqO d).any (targL ns)
def pairB : D → Bool
  | .tup [_, _] => true
  | _ => false
def fstD : D → D
  | .tup (a :: _) => a
  | _ => .non
def sndD : D → D
  | .tup (_ :: b :: _) => b
  | _ => .non
def kindL (ns : List Str) (ds : List D) : Bool := ds.all pairB && (namesL (ds.map fstD) && ds.all fun x => targD ns (sndD x))
def kindsD (ns : List Str) (d : D) : Bool := (seqO d).any (kindL ns)
def someL (nk : List Str) (ds : List D) : Bool := namesL ds && ds.all fun x => decide (Tr.strOf x ∈ nk)
def someD (nk : List Str) (d : D) : Bool := (seqO d).any (someL nk)
theorem ifP3 {c : Prop} [Decidable c] {A B : Prop} (h : c) (a : A) : if c then A else B := by rw [if_pos h]; exact a
theorem ifN3 {c : Prop} [Decidable c] {A B : Prop} (h : ¬ c) (b : B) : if c then A else B := by rw [if_neg h]; exact b
theorem pair_of {x : D} (h : pairB x = true) : ∃ a b, x = .tup [a, b] := by
  cases x with
  | tup l =>
    match l, h with
    | [a, b], _ => exact ⟨a, b, rfl⟩
  | _ => cases h
section
variable {d e x : D} {C : Cells} {Q : QE} {Qx : QX} {n : Nat} {ns nk : List Str} {ds : List D}
theorem c_is_targets (T : Tp P K mg) (h : Dt n d) (hn : n ≤ 50) (he : SeqD C e (ns.map D.str)) (hN : ∀ x ∈ ns, isNameS x = true) (q : Q (.bl (targD ns d)) C) : callW (fw_is_targets T) Qx [d, e] C Q := by
  refine cl_is_targets T ?_
  unfold w_is_targets
  walk_at "g"
  refine p_is_sequence T h.sq ?_
  unfold targD at q
  cases hs : seqO d with
  | none =>
    rw [hs] at q
    dsimp only [Option.isSome]
    walk_at "g"
    exact q
  | some ds =>
    rw [hs] at q
    obtain ⟨h0, hl, hx⟩ := h.seq (C := C) hs
    replace q : Q (.bl (targL ns ds)) C := q
    unfold targL at q
    dsimp only [Option.isSome]
    walk_at "g"
    refine len_seq h0 ?_
    walk_at "g"
    refine len_seq he ?_
    rw [List.length_map]
    walk_at "g"
    by_cases hlen : ds.length = ns.length
    · rw [decide_eq_true hlen, Bool.true_and] at q
      refine ifN3 (by rw [decide_eq_true (by omega)]; decide) ?_
      walk_at "g"
      refine s_it_seq h0 fun P hP => ?_
      refine lcB_mapD (fun x => .bl (tg1 ns x)) (hP _ h0) (fun x hxm k hk => ?_) (by omega) ?_
      · have hxd := hx x hxm
        generalize n - 1 = n1 at hxd
        cases hxd with
        | non =>
          walk_at "g"
          first | exact hk | exact ifT hk
        | str ho hl =>
          rename_i s
          walk_at "g"
          try refine ifF ?_
          walk_at "g"
          unfold tg1 at hk
          dsimp only at hk
          cases hnm : isNameS s with
          | true =>
            walk_at "g"
            exact hk
          | false =>
            walk_at "g"
            rw [decide_eq_false (fun z => by rw [hN s z] at hnm; cases hnm)] at hk
            exact hk
        | bl b =>
          walk_at "g"
          try refine ifF ?_
          walk_at "g"
          refine p_is_name T (Dt.any (n := 0) (.bl b)) ?_
          rw [show isNameD (.bl b) = false from rfl]
          walk_at "g"
          exact hk
        | int i =>
          walk_at "g"
          try refine ifF ?_
          walk_at "g"
          refine p_is_name T (Dt.any (n := 0) (.int i)) ?_
          rw [show isNameD (.int i) = false from rfl]
          walk_at "g"
          exact hk
        | lst h l =>
          walk_at "g"
          try refine ifF ?_
          walk_at "g"
          refine p_is_name T (Dt.any (.lst h l)) ?_
          rw [show isNameD (.lst _) = false from rfl]
          walk_at "g"
          exact hk
        | tup h l =>
          walk_at "g"
          try refine ifF ?_
          walk_at "g"
          refine p_is_name T (Dt.any (.tup h l)) ?_
          rw [show isNameD (.tup _) = false from rfl]
          walk_at "g"
          exact hk
      · rw [show (ds.map fun x => D.bl (tg1 ns x)) = (ds.map (tg1 ns)).map D.bl by rw [List.map_map]; rfl]
        walk_at "g"
        rw [List.all_map]
        exact q
    · rw [decide_eq_false hlen, Bool.false_and] at q
      refine ifP3 (by rw [decide_eq_false (by omega)]; rfl) ?_
      walk_at "g"
      exact q
theorem tup_kind {n : Nat} (h : Dt n x) : isKind "tuple" x = (match x with | .tup _ => true | _ => false) := by
  cases h with
  | tup h l => exact (show (kitB "tuple" "tuple").getD false = true by decide +kernel)
  | lst h l => exact (show (kitB "list" "tuple").getD false = false by decide +kernel)
  | non => exact (show (kitB "NoneType" "tuple").getD false = false by decide +kernel)
  | bl b => exact (show (kitB "bool" "tuple").getD false = false by decide +kernel)
  | int i => exact (show (kitB "int" "tuple").getD false = false by decide +kernel)
  | str h l => exact (show (kitB "str" "tuple").getD false = false by decide +kernel)
theorem pair_len {l : List D} : pairB (.tup l) = decide (((l.length : Nat) : Int) = 2) := by
  match l with
  | [] => rfl
  | [_] => rfl
  | [_, _] => rfl
  | _ :: _ :: _ :: r =>
    symm
    refine decide_eq_false ?_
    simp only [List.length_cons]
    omega
theorem dt_pair {a b : D} (h : Dt n (.tup [a, b])) : Dt n a ∧ Dt n b := by
  cases h with
  | tup h l => exact ⟨(h a (by simp)).mono (by omega), (h b (by simp)).mono (by omega)⟩
theorem firsts_dt (hx : ∀ x ∈ ds, Dt n x) (hp : ∀ x ∈ ds, pairB x = true) (hl : ds.length ≤ 1000) : Dt (n + 1) (.lst (ds.map fstD)) := by
  refine .lst (fun y hy => ?_) (by rw [List.length_map]; exact hl)
  obtain ⟨x, hx2, rfl⟩ := List.mem_map.mp hy
  obtain ⟨a, b, rfl⟩ := pair_of (hp x hx2)
  exact (dt_pair (hx _ hx2)).1
theorem c_are_kinds (T : Tp P K mg) (h : Dt n d) (hn : n ≤ 40) (he : SeqD C e (ns.map D.str)) (hN : ∀ x ∈ ns, isNameS x = true) (q : Q (.bl (kindsD ns d)) C) : callW (fw_are_kinds T) Qx [d, e] C Q := by
  refine cl_are_kinds T ?_
  unfold w_are_kinds
  walk_at "g"
  refine p_is_sequence T h.sq ?_
  unfold kindsD at q
  cases hs : seqO d with
  | none =>
    rw [hs] at q
    dsimp only [Option.isSome]
    walk_at "g"
    exact q
  | some ds =>
    rw [hs] at q
    obtain ⟨h0, hl, hx⟩ := h.seq (C := C) hs
    replace q : Q (.bl (kindL ns ds)) C := q
    unfold kindL at q
    dsimp only [Option.isSome]
    walk_at "g"
    refine s_it_seq h0 fun P hP => ?_
    refine lcB_mapD (fun x => .bl (pairB x)) (hP _ h0) (fun x hxm k hk => ?_) (by omega) ?_
    · have hxd := hx x hxm
      walk_at "g"
      refine s_isB hxd.basic (by decide) ?_
      rw [tup_kind hxd]
      cases x with
      | tup l =>
        dsimp only
        walk_at "g"
        rw [pair_len] at hk
        exact hk
      | _ =>
        dsimp only
        walk_at "g"
        exact hk
    rw [show (ds.map fun x => D.bl (pairB x)) = (ds.map pairB).map D.bl by rw [List.map_map]; rfl]
    walk_at "g"
    rw [List.all_map, show ((fun a => a) ∘ pairB) = pairB from rfl]
    cases hp : ds.all pairB with
    | false =>
      rw [hp] at q
      walk_at "g"
      exact q
    | true =>
      rw [hp, Bool.true_and] at q
      have hp2 := List.all_eq_true.mp hp
      walk_at "g"
      refine s_it_seq h0 fun P hP => ?_
      refine lcB_mapD fstD (hP _ h0) (fun x hxm k hk => ?_) (by omega) ?_
      · obtain ⟨a, b, rfl⟩ := pair_of (hp2 x hxm)
        walk_at "g"
        exact hk
      walk_at "g"
      refine c_are_names T (firsts_dt hx hp2 hl) (by omega) ?_
      rw [show namesD (.lst (ds.map fstD)) = namesL (ds.map fstD) from rfl]
      cases hnm : namesL (ds.map fstD) with
      | false =>
        rw [hnm] at q
        walk_at "g"
        exact q
      | true =>
        rw [hnm, Bool.true_and] at q
        walk_at "g"
        refine s_it_seq h0 fun P hP => ?_
        refine lcB_mapD (fun x => .bl (targD ns (sndD x))) (hP _ h0) (fun x hxm k hk => ?_) (by omega) ?_
        · obtain ⟨a, b, rfl⟩ := pair_of (hp2 x hxm)
          walk_at "g"
          exact c_is_targets T (dt_pair (hx _ hxm)).2 (by omega) he hN hk
        rw [show (ds.map fun x => D.bl (targD ns (sndD x))) = (ds.map fun x => targD ns (sndD x)).map D.bl by rw [List.map_map]; rfl]
        walk_at "g"
        rw [List.all_map]
        exact q
theorem names_strs (h : namesL ds = true) : ds = (ds.map Tr.strOf).map D.str := by
  have h2 : ∀ x ∈ ds, x = D.str (Tr.strOf x) := fun x hx => by
    obtain ⟨i, hi, e⟩ := List.mem_iff_getElem.mp hx
    have hm : (x, i) ∈ ds.zipIdx := List.mem_zipIdx_iff_getElem?.mpr (by rw [List.getElem?_eq_getElem hi, e])
    have := List.all_eq_true.mp h _ hm
    unfold okAt at this
    rw [Bool.and_eq_true] at this
    obtain ⟨s, e2, _⟩ := isName_str this.1
    have e3 : x = .str s := e2
    rw [e3]; rfl
  rw [List.map_map]
  exact (List.map_id ds).symm.trans (List.map_congr_left h2)
theorem c_are_some (T : Tp P K mg) (h : Dt n d) (hn : n ≤ 40) (he : SeqD C e (nk.map D.str)) (q : Q (.bl (someD nk d)) C) : callW (fw_are_some T) Qx [d, e] C Q := by
  refine cl_are_some T ?_
  unfold w_are_some
  walk_at "g"
  refine c_are_names T h (by omega) ?_
  unfold someD at q
  unfold namesD
  cases hs : seqO d with
  | none =>
    rw [hs] at q
    dsimp only [Option.any]
    walk_at "g"
    exact q
  | some ds =>
    rw [hs] at q
    obtain ⟨h0, hl, hx⟩ := h.seq (C := C) hs
    replace q : Q (.bl (someL nk ds)) C := q
    unfold someL at q
    rw [show Option.any namesL (some ds) = namesL ds from rfl]
    cases hnm : namesL ds with
    | false =>
      rw [hnm] at q
      walk_at "g"
      exact q
    | true =>
      rw [hnm, Bool.true_and] at q
      have hst := names_strs hnm
      walk_at "g"
      refine s_it_seq h0 fun P hP => ?_
      refine lcB_mapD (fun x => .bl (decide (Tr.strOf x ∈ nk))) (hP _ h0) (fun x hxm k hk => ?_) (by omega) ?_
      · rw [hst] at hxm
        obtain ⟨s, hs2, rfl⟩ := List.mem_map.mp hxm
        walk_at "g"
        exact hk
      rw [show (ds.map fun x => D.bl (decide (Tr.strOf x ∈ nk))) = (ds.map fun x => decide (Tr.strOf x ∈ nk)).map D.bl by rw [List.map_map]; rfl]
      walk_at "g"
      rw [List.all_map]
      exact q
end


theorem any_key {α : Type} (ky : α → Str) (x : Str) : ∀ m : List α, x ∉ m.map ky → ((m.map fun a => (Sum.inr (ky a) : Key)).any fun k => decide (k = .inr x)) = false
  | [], _ => rfl
  | a :: m, h => by
    rw [List.map_cons, List.any_cons, any_key ky x m fun z => h (by rw [List.map_cons]; exact List.mem_cons_of_mem _ z)]
    have : ky a ≠ x := fun e => h (by rw [List.map_cons, e]; exact List.mem_cons_self)
    simp [this]
theorem dcB_go {α : Type} {P : Cells → Prop} {f g : D → ME} {Q : QE} {C : Cells} (a : α → D) (ky : α → Str) (vl : α → D) (hp : P C) : ∀ (l m : List α), ((m ++ l).map ky).Nodup → (m ++ l).length < 100000 → (∀ x ∈ l, ∀ k : QE, k (.str (ky x)) C → f (a x) C k) → (∀ x ∈ l, ∀ k : QE, k (vl x) C → g (a x) C k) →
    Q (.dic ((m ++ l).map fun x => .inr (ky x)) ((m ++ l).map vl)) C → dcB P f g Q (l.map a) (m.map fun x => .inr (ky x)) (m.map vl) C
  | [], m, nd, hl, hf, hg, q => by
    rw [List.append_nil] at q
    exact ⟨hp, q⟩
  | x :: l, m, nd, hl, hf, hg, q => by
    refine ⟨hp, hf x List.mem_cons_self _ (hg x List.mem_cons_self _ ⟨.inr (ky x), rfl, ?_, ?_⟩)⟩
    · rw [List.length_map]; rw [List.length_append] at hl; omega
    have hx : x :: l = [x] ++ l := rfl
    have hn : ky x ∉ m.map ky := fun hm => by
      rw [List.map_append, List.map_cons] at nd
      exact (List.nodup_append.mp nd).2.2 _ hm _ List.mem_cons_self rfl
    have e := any_key ky (ky x) m hn
    have := dcB_go a ky vl hp l (m ++ [x]) (by rw [List.append_assoc]; exact nd) (by rw [List.append_assoc]; exact hl) (fun y hy => hf y (List.mem_cons_of_mem _ hy)) (fun y hy => hg y (List.mem_cons_of_mem _ hy)) (by rw [List.append_assoc]; exact q)
    unfold putKs putD
    rw [e, if_neg (by decide), if_neg (by decide)]
    rw [List.map_append, List.map_append] at this
    exact this
theorem dcB_map {α : Type} {P : Cells → Prop} {f g : D → ME} {Q : QE} {C : Cells} {l : List α} (a : α → D) (ky : α → Str) (vl : α → D) (hp : P C) (nd : (l.map ky).Nodup) (hl : l.length < 100000) (hf : ∀ x ∈ l, ∀ k : QE, k (.str (ky x)) C → f (a x) C k) (hg : ∀ x ∈ l, ∀ k : QE, k (vl x) C → g (a x) C k)
    (q : Q (.dic (l.map fun x => .inr (ky x)) (l.map vl)) C) : dcB P f g Q (l.map a) [] [] C := dcB_go a ky vl hp l [] nd hl hf hg q
theorem dcB_mapD {P : Cells → Prop} {f g : D → ME} {Q : QE} {C : Cells} {l : List D} (ky : D → Str) (vl : D → D) (hp : P C) (nd : (l.map ky).Nodup) (hl : l.length < 100000) (hf : ∀ x ∈ l, ∀ k : QE, k (.str (ky x)) C → f x C k) (hg : ∀ x ∈ l, ∀ k : QE, k (vl x) C → g x C k)
    (q : Q (.dic (l.map fun x => .inr (ky x)) (l.map vl)) C) : dcB P f g Q l [] [] C := by
  have := dcB_map (P := P) (f := f) (g := g) (Q := Q) (l := l) id ky vl hp nd hl hf hg q
  rwa [List.map_id] at this
theorem Dt.wk {n : Nat} {d : D} (h : Dt n d) : Tr.wk d = d := by cases h <;> rfl
theorem names_nodup {ds : List D} (h : namesL ds = true) : (ds.map Tr.strOf).Nodup := by
  rw [List.nodup_iff_pairwise_ne, List.pairwise_iff_getElem]
  intro i j hi hj hij e
  rw [List.length_map] at hi hj
  rw [List.getElem_map, List.getElem_map] at e
  have at_ : ∀ k (hk : k < ds.length), okAt ds (ds[k], k) = true := fun k hk => List.all_eq_true.mp h _ (List.mem_zipIdx_iff_getElem?.mpr (List.getElem?_eq_getElem hk))
  have h1 := at_ i hi
  have h2 := at_ j hj
  unfold okAt at h1 h2
  rw [Bool.and_eq_true] at h1 h2
  obtain ⟨s, e1, _⟩ := isName_str h1.1
  have e1 : ds[i] = .str s := e1
  have : (ds.take j).any (eqS (Tr.strOf ds[j])) = true := by
    rw [List.any_eq_true]
    refine ⟨ds[i], ?_, ?_⟩
    · rw [List.mem_take_iff_getElem]
      exact ⟨i, by omega, rfl⟩
    · unfold eqS
      rw [e1] at e ⊢
      rw [← e]
      simp [Tr.isStr]
  have h3 : (!(ds.take j).any (eqS (Tr.strOf ds[j]))) = true := h2.2
  rw [this] at h3
  cases h3
theorem names_name {ds : List D} (h : namesL ds = true) : ∀ x ∈ ds.map Tr.strOf, isNameS x = true := fun x hx => by
  obtain ⟨d, hd, rfl⟩ := List.mem_map.mp hx
  obtain ⟨i, hi, e⟩ := List.mem_iff_getElem.mp hd
  have := List.all_eq_true.mp h (d, i) (List.mem_zipIdx_iff_getElem?.mpr (by rw [List.getElem?_eq_getElem hi, e]))
  unfold okAt at this
  rw [Bool.and_eq_true] at this
  obtain ⟨s, e2, e3⟩ := isName_str this.1
  have e2 : d = .str s := e2
  rw [e2]; exact e3
def strsD (d : D) : List Str := ((seqO d).getD []).map Tr.strOf
def nkD (d : D) : List Str := (((seqO d).getD []).map fstD).map Tr.strOf
def bookErr (d1 d2 d3 d4 : D) : Option Str :=
  if (namesD d1 && !((seqO d1).getD []).isEmpty) = false then some "choices"
  else if kindsD (strsD d1) d2 = false then some "kinds"
  else if someD (nkD d2) d3 = false then some "loose"
  else if someD (nkD d2) d4 = false then some "others"
  else none
theorem len0 {ds : List D} : decide (((ds.length : Nat) : Int) = 0) = ds.isEmpty := by
  cases ds with
  | nil => rfl
  | cons a l => exact decide_eq_false (by rw [List.length_cons]; omega)
theorem tupN {n : Nat} {d : D} {ds : List D} {C : Cells} {Q : QE} (h : Dt n d) (e : seqO d = some ds) (q : ∀ d', Q d' C) : on1 pTupleN [d] C Q := by
  cases h with
  | lst h l => exact s_tupleN .l (q _)
  | tup h l => exact s_tupleN' (s_tuple_tup (q _))
  | _ => cases e
section
variable {d1 d2 d3 d4 : D} {C C' : Cells} {Q : QE} {Qx : QX} {n : Nat} {z : Addr}
theorem p_Book_initX (T : Tp P K mg) (h1 : Dt n d1) (h2 : Dt n d2) (h3 : Dt n d3) (h4 : Dt n d4) (hn : n ≤ 40)
    (hb : ∀ w c, bookErr d1 d2 d3 d4 = some w → Qx (.ref T.c_InvalidBook) (some (["word"], [.str w])) ((z, c) :: C'))
    (hg : bookErr d1 d2 d3 d4 = none → ∀ ns fs, Q .non ((z, .ins T.c_Book ns fs) :: C')) :
    w_Book_init T (.raw (.ref z)) d1 d2 d3 d4 Qx Q ((z, .ins T.c_Book [] []) :: C') := by
  unfold w_Book_init
  walk_at "g"
  rw [h1.wk]
  refine c_are_names T h1 (by omega) ?_
  cases hs1 : seqO d1 with
  | none =>
    unfold namesD
    rw [hs1]
    dsimp only [Option.any]
    walk_at "g"
    refine hb _ _ ?_
    unfold bookErr namesD
    rw [hs1]
    rfl
  | some e1 =>
  have q1 := h1.seq (C := C') hs1
  obtain ⟨_, l1, x1⟩ := q1
  have s1 : ∀ C : Cells, SeqD C d1 e1 := fun C => (h1.seq hs1).1
  have en1 : namesD d1 = namesL e1 := by unfold namesD; rw [hs1]; rfl
  rw [en1]
  cases hn1 : namesL e1 with
  | false =>
    walk_at "g"
    refine hb _ _ ?_
    unfold bookErr
    rw [en1, hn1]
    rfl
  | true =>
  walk_at "g"
  rw [h1.wk]
  refine len_seq (s1 _) ?_
  refine s_eq_int ?_
  rw [len0]
  cases he1 : e1.isEmpty with
  | true =>
    walk_at "g"
    refine hb _ _ ?_
    unfold bookErr
    rw [en1, hn1, hs1]
    show (if (true && !e1.isEmpty) = false then _ else _) = _
    rw [he1]
    rfl
  | false =>
  walk_at "g"
  rw [h1.wk]
  have st1 := names_strs hn1
  have sn1 : strsD d1 = e1.map Tr.strOf := by unfold strsD; rw [hs1]; rfl
  have b1 : ¬ (namesD d1 && !((seqO d1).getD []).isEmpty) = false := by
    rw [en1, hn1, hs1]
    show ¬ (true && !e1.isEmpty) = false
    rw [he1]
    decide
  have sq1 : ∀ C : Cells, SeqD C d1 ((e1.map Tr.strOf).map D.str) := fun C => by rw [← st1]; exact s1 C
  refine c_are_kinds T h2 (by omega) (sq1 _) (names_name hn1) ?_
  cases hk2 : kindsD (e1.map Tr.strOf) d2 with
  | false =>
    walk_at "g"
    refine hb _ _ ?_
    unfold bookErr
    rw [if_neg b1, sn1, if_pos hk2]
  | true =>
  cases hs2 : seqO d2 with
  | none =>
    unfold kindsD at hk2
    rw [hs2] at hk2
    cases hk2
  | some e2 =>
  have hL : kindL (e1.map Tr.strOf) e2 = true := by
    unfold kindsD at hk2
    rw [hs2] at hk2
    exact hk2
  unfold kindL at hL
  rw [Bool.and_eq_true, Bool.and_eq_true] at hL
  obtain ⟨hp2, hn2, ht2⟩ := hL
  replace hp2 := List.all_eq_true.mp hp2
  replace ht2 := List.all_eq_true.mp ht2
  obtain ⟨_, l2, x2⟩ := h2.seq (C := C') hs2
  have s2 : ∀ C : Cells, SeqD C d2 e2 := fun C => (h2.seq hs2).1
  have nk2 : nkD d2 = (e2.map fstD).map Tr.strOf := by unfold nkD; rw [hs2]; rfl
  have st2 := names_strs hn2
  walk_at "g"
  refine tupN h1 hs1 fun dc => ?_
  walk_at "g"
  refine s_it_seq (s2 _) fun P hP => ?_
  refine lcB_mapD fstD (hP _ (s2 _)) (fun x hxm k hk => ?_) (by omega) ?_
  · obtain ⟨a, b, rfl⟩ := pair_of (hp2 x hxm)
    walk_at "g"
    exact hk
  walk_at "g"
  refine s_fld (.inr ⟨z, rfl, List.mem_cons_self⟩) T.i_Book.c T.na_Book_kinds (by rfl) ?_
  walk_at "g"
  have ek : ∀ C, SeqD C (.tup (e2.map fstD)) ((nkD d2).map D.str) := fun C => by rw [nk2, ← st2]; exact .t
  have b2 : ¬ kindsD (strsD d1) d2 = false := by rw [sn1, hk2]; decide
  refine c_are_some T h3 (by omega) (ek _) ?_
  cases hk3 : someD (nkD d2) d3 with
  | false =>
    walk_at "g"
    refine hb _ _ ?_
    unfold bookErr
    rw [if_neg b1, if_neg b2, if_pos hk3]
  | true =>
  walk_at "g"
  refine s_fld (.inr ⟨z, rfl, List.mem_cons_self⟩) T.i_Book.c T.na_Book_kinds (by rfl) ?_
  walk_at "g"
  have b3 : ¬ someD (nkD d2) d3 = false := by rw [hk3]; decide
  refine c_are_some T h4 (by omega) (ek _) ?_
  cases hk4 : someD (nkD d2) d4 with
  | false =>
    walk_at "g"
    refine hb _ _ ?_
    unfold bookErr
    rw [if_neg b1, if_neg b2, if_neg b3, if_pos hk4]
  | true =>
  have hne : bookErr d1 d2 d3 d4 = none := by
    unfold bookErr
    rw [if_neg b1, if_neg b2, if_neg b3, if_neg (by rw [hk4]; decide)]
  have sqs : ∀ {d : D}, Dt n d → someD (nkD d2) d = true → ∃ ls : List Str, ∀ C : Cells, SeqD C d (ls.map D.str) := fun {d} h hk => by
    unfold someD at hk
    cases hs : seqO d with
    | none => rw [hs] at hk; cases hk
    | some ds =>
      rw [hs] at hk
      have hk : someL (nkD d2) ds = true := hk
      unfold someL at hk
      rw [Bool.and_eq_true] at hk
      exact ⟨ds.map Tr.strOf, fun C => by rw [← names_strs hk.1]; exact (h.seq hs).1⟩
  obtain ⟨ls, sl⟩ := sqs h3 hk3
  obtain ⟨os, so⟩ := sqs h4 hk4
  walk_at "g"
  refine s_it_seq (s2 _) fun P hP => ?_
  have nd2 := names_nodup hn2
  rw [List.map_map] at nd2
  refine dcB_mapD (Tr.strOf ∘ fstD) (fun x => D.tup ((seqO (sndD x)).getD [])) (hP _ (s2 _)) nd2 (by omega) (fun x hxm k hk => ?_) (fun x hxm k hk => ?_) ?_
  · obtain ⟨a, b, rfl⟩ := pair_of (hp2 x hxm)
    have ha : a ∈ e2.map fstD := List.mem_map.mpr ⟨_, hxm, rfl⟩
    rw [st2] at ha
    obtain ⟨t, _, rfl⟩ := List.mem_map.mp ha
    show un2 _ _ _ _
    walk_at "g"
    exact hk
  · obtain ⟨a, b, rfl⟩ := pair_of (hp2 x hxm)
    have hb2 := (dt_pair (x2 _ hxm)).2
    have ht := ht2 _ hxm
    show un2 _ _ _ _
    walk_at "g"
    unfold targD at ht
    cases hsb : seqO b with
    | none =>
      rw [show sndD (.tup [a, b]) = b from rfl, hsb] at ht
      cases ht
    | some ts =>
      rw [show sndD (.tup [a, b]) = b from rfl, hsb] at hk
      exact s_tuple_seq (hb2.seq hsb).1 hk
  walk_at "g"
  refine s_fld (.inr ⟨z, rfl, List.mem_cons_self⟩) T.i_Book.c T.na_Book_kinds (by rfl) ?_
  walk_at "g"
  have nkl : (nkD d2).length ≤ 1000 := by rw [nk2, List.length_map, List.length_map]; exact l2
  have ek2 : e2.map fstD = (nkD d2).map D.str := by rw [nk2, ← st2]
  try rw [ek2]
  refine lcB1_map (l := nkD d2) D.str D.str (fun x => decide (x ∈ ls)) trivial (fun x hm k hk => ?_) (fun x hm _ k hk => ?_) (by omega) ?_
  · walk_at "g"
    refine s_inS (sl _) ?_
    walk_at "g"
    exact hk
  · walk_at "g"
    exact hk
  walk_at "g"
  refine s_fld (.inr ⟨z, rfl, List.mem_cons_self⟩) T.i_Book.c T.na_Book_kinds (by rfl) ?_
  walk_at "g"
  try rw [ek2]
  refine lcB1_map (l := nkD d2) D.str D.str (fun x => decide (x ∈ os)) trivial (fun x hm k hk => ?_) (fun x hm _ k hk => ?_) (by omega) ?_
  · walk_at "g"
    refine s_inS (so _) ?_
    walk_at "g"
    exact hk
  · walk_at "g"
    exact hk
  walk_at "g"
  exact hg hne _ _
theorem mkX_Book (T : Tp P K mg) (h1 : Dt n d1) (h2 : Dt n d2) (h3 : Dt n d3) (h4 : Dt n d4) (hn : n ≤ 40)
    (hb : ∀ w z c, bookErr d1 d2 d3 d4 = some w → Qx (.ref T.c_InvalidBook) (some (["word"], [.str w])) ((z, c) :: C))
    (hg : bookErr d1 d2 d3 d4 = none → ∀ d, Q d C) : pMkF (fw_Book_init T) Qx T.c_Book [d1, d2, d3, d4] C Q :=
  mkF_of (ns := []) (fs := []) fun z => p_Book_initX T h1 h2 h3 h4 hn (fun w c e => hb w z c e) fun e ns fs => ⟨rfl, 0, z, _, _, _, rfl, rfl, hg e _⟩
end


def goodK (ns : List Str) (x : D) : Bool := pairB x && targD ns (sndD x)
theorem Dt.nr {n : Nat} {d : D} (h : Dt n d) : Tr.notRaw d = true := by cases h <;> rfl
theorem kind_bad {ns : List Str} {ds : List D} {x : D} (hx : x ∈ ds) (h : goodK ns x = false) : kindL ns ds = false := by
  cases hk : kindL ns ds with
  | false => rfl
  | true =>
    unfold kindL at hk
    rw [Bool.and_eq_true, Bool.and_eq_true] at hk
    unfold goodK at h
    rw [List.all_eq_true.mp hk.1 x hx, List.all_eq_true.mp hk.2.2 x hx] at h
    cases h
theorem kind_good {ns : List Str} {ds : List D} (h : ∀ x ∈ ds, goodK ns x = true) : kindL ns ds = namesL (ds.map fstD) := by
  unfold kindL
  have h1 : ds.all pairB = true := List.all_eq_true.mpr fun x hx => by have := h x hx; unfold goodK at this; rw [Bool.and_eq_true] at this; exact this.1
  have h2 : (ds.all fun x => targD ns (sndD x)) = true := List.all_eq_true.mpr fun x hx => by have := h x hx; unfold goodK at this; rw [Bool.and_eq_true] at this; exact this.2
  rw [h1, h2, Bool.true_and, Bool.and_true]
section
variable {d e x : D} {C C' : Cells} {Q : QE} {Qx : QX} {n : Nat} {ns nk : List Str} {ds : List D} {d1 d2 d3 d4 : D}
theorem c_one_of (T : Tp P K mg) (h : Dt n x) (he : SeqD C e (ns.map D.str)) (q : Q (.bl (Tr.isStr x && decide (Tr.strOf x ∈ ns))) C) : callW (fw__law_is_one_of T) Qx [x, e] C Q := by
  refine cl__law_is_one_of T ?_
  unfold w__law_is_one_of
  walk_at "g"
  refine s_isStr h.any ?_
  by_cases hd : Tr.isStr x = true
  · obtain ⟨s, rfl⟩ : ∃ s, x = .str s := by cases x <;> first | exact ⟨_, rfl⟩ | cases hd
    rw [hd, Bool.true_and] at q
    rw [hd]
    walk_at "g"
    exact q
  · have e1 : Tr.isStr x = false := by simpa using hd
    rw [e1] at q ⊢
    walk_at "g"
    exact q
theorem tg_not {n : Nat} (h : Dt n x) : (!Tr.isNon x && !(Tr.isStr x && decide (Tr.strOf x ∈ ns))) = !tg1 ns x := by
  cases h with
  | non => rfl
  | bl b => rfl
  | int i => rfl
  | lst h l => rfl
  | tup h l => rfl
  | str h l =>
    show (true && !(true && _)) = !_
    rw [Bool.true_and, Bool.true_and]
    exact congrArg (!·) (decide_eq_decide.mpr Iff.rfl)
theorem c_l_are_kinds (T : Tp P K mg) (h : Dt n d) (hn : n ≤ 25) (he : SeqD C e (ns.map D.str)) (hN : ∀ x ∈ ns, isNameS x = true) (q : Q (.bl (kindsD ns d)) C) : callW (fw__law_are_kinds T) Qx [d, e] C Q := by
  refine cl__law_are_kinds T ?_
  unfold w__law_are_kinds
  walk_at "g"
  refine s_isSq h.sq ?_
  unfold kindsD at q
  cases hs : seqO d with
  | none =>
    rw [hs] at q
    dsimp only [Option.isSome]
    walk_at "g"
    exact ⟨C, [], by rw [List.append_nil], q⟩
  | some ds =>
    rw [hs] at q
    obtain ⟨h0, hl, hx⟩ := h.seq (C := C) hs
    replace q : Q (.bl (kindL ns ds)) C := q
    dsimp only [Option.isSome]
    walk_at "g"
    intro z
    walk_at "g"
    have h0z : ∀ c : Cell, SeqD ((z, c) :: C) d ds := fun c => seqD_sub (fun y hy => List.mem_cons_of_mem _ hy) h0
    have hez : ∀ c : Cell, SeqD ((z, c) :: C) e (ns.map D.str) := fun c => seqD_sub (fun y hy => List.mem_cons_of_mem _ hy) he
    refine s_it_seq (h0z _) fun P hP => ?_
    refine loop_inv (fun i _ C' => C' = (z, .lst ((ds.take i).map fstD)) :: C ∧ ∀ x ∈ ds.take i, goodK ns x = true) ⟨rfl, by simp⟩ ?_ ?_
    · rintro i x u C1 nx hi ⟨rfl, hg⟩ hnx
      have hxm := List.mem_of_getElem? hi
      have hxd := hx x hxm
      refine ⟨hP _ (h0z _), ?_⟩
      have bad : goodK ns x = false → ∀ c : Cell, mRet (eDrop (eVal (.bl false))) Q ((z, c) :: C) := fun hb c => by
        rw [kind_bad hxm hb] at q
        exact ⟨C, [(z, c)], (List.perm_append_singleton _ _).symm, q⟩
      have good : goodK ns x = true → nx () ((z, .lst ((ds.take i).map fstD ++ [fstD x])) :: C) := fun hgx => hnx _ _ ⟨by
        rw [List.take_add_one, hi, List.map_append]; rfl, fun y hy => by
        rw [List.take_add_one, hi] at hy
        rcases List.mem_append.mp hy with hy | hy
        · exact hg y hy
        · rw [List.mem_singleton.mp hy]; exact hgx⟩
      have lz : ((ds.take i).map fstD).length < 100000 := by rw [List.length_map, List.length_take]; omega
      generalize (ds.take i).map fstD = acc at good lz ⊢
      unfold w__law_are_kinds_l1
      walk_at "g"
      refine s_isB hxd.basic (by decide) ?_
      rw [tup_kind hxd]
      cases x with
      | tup l =>
        dsimp only
        walk_at "g"
        by_cases hl2 : ((l.length : Nat) : Int) = 2
        · obtain ⟨a, b, e2⟩ := pair_of (x := .tup l) (by rw [pair_len]; exact decide_eq_true hl2)
          cases e2
          have hb := (dt_pair hxd).2
          first | refine ifN3 (by decide) ?_ | skip
          walk_at "g"
          refine s_isSq hb.sq ?_
          have gk : goodK ns (.tup [a, b]) = targD ns b := rfl
          rw [gk] at bad good
          unfold targD at bad good
          cases hsb : seqO b with
          | none =>
            rw [hsb] at bad
            dsimp only [Option.isSome]
            walk_at "g"
            exact bad rfl _
          | some ts =>
            rw [hsb] at bad good
            replace bad : targL ns ts = false → _ := bad
            replace good : targL ns ts = true → _ := good
            obtain ⟨_, lt, xt⟩ := hb.seq (C := C) hsb
            have sb : ∀ C : Cells, SeqD C b ts := fun C => (hb.seq hsb).1
            unfold targL at bad good
            dsimp only [Option.isSome]
            walk_at "g"
            refine len_seq (sb _) ?_
            walk_at "g"
            refine len_seq (hez _) ?_
            rw [List.length_map]
            walk_at "g"
            by_cases hlen : ts.length = ns.length
            · rw [decide_eq_true hlen, Bool.true_and] at bad good
              refine ifN3 (by rw [decide_eq_true (by omega)]; decide) ?_
              walk_at "g"
              refine s_it_seq (sb _) fun P2 hP2 => ?_
              refine lcB1_mapD (fun x => !tg1 ns x) (hP2 _ (sb _)) (fun y hy k hk => ?_) (fun y hy _ k hk => ?_) (by omega) ?_
              · have hyd := xt y hy
                rw [← tg_not (ns := ns) hyd] at hk
                walk_at "g"
                refine s_isNotN hyd.nr ?_
                cases hy1 : Tr.isNon y with
                | true =>
                  rw [hy1] at hk
                  walk_at "g"
                  exact hk
                | false =>
                  rw [hy1] at hk
                  walk_at "g"
                  refine c_one_of T hyd (hez _) ?_
                  walk_at "g"
                  exact hk
              · walk_at "g"
                exact hk
              walk_at "g"
              refine s_neD (.inl rfl) (eqd_nil fun y hy => ?_) ?_
              · obtain ⟨p1, p2, p3⟩ := (xt y (List.mem_filter.mp hy).1).lay
                exact ⟨p1, p2, by omega⟩
              rw [Tr.filter_all]
              cases hall : ts.all (tg1 ns) with
              | false =>
                walk_at "g"
                exact bad hall _
              | true =>
                walk_at "g"
                exact part_id (good hall)
            · rw [decide_eq_false hlen, Bool.false_and] at bad
              refine ifP3 (by rw [decide_eq_false (by omega)]; rfl) ?_
              walk_at "g"
              exact bad rfl _
        · refine ifP3 (by rw [decide_eq_false hl2]; rfl) ?_
          walk_at "g"
          refine bad ?_ _
          unfold goodK
          rw [pair_len, decide_eq_false hl2]
          rfl
      | _ =>
        dsimp only
        walk_at "g"
        exact bad rfl _
    · rintro u C1 ⟨rfl, hg⟩
      refine ⟨hP _ (h0z _), ?_⟩
      rw [List.take_length] at hg ⊢
      unfold w__law_are_kinds_a2
      walk_at "g"
      have hp2 : ∀ x ∈ ds, pairB x = true := fun x hx => by have := hg x hx; unfold goodK at this; rw [Bool.and_eq_true] at this; exact this.1
      refine c_l_are_names T (firsts_dt hx hp2 hl) (by omega) ?_
      rw [kind_good hg] at q
      exact ⟨C, [], by rw [List.append_nil]; exact .refl _, q⟩
abbrev optD : Option Str → D
  | none => .non
  | some w => .str w
theorem c_tried (T : Tp P K mg) (h1 : Dt n d1) (h2 : Dt n d2) (h3 : Dt n d3) (h4 : Dt n d4) (hn : n ≤ 20) (q : Q (optD (bookErr d1 d2 d3 d4)) C) : callW (fw__law_tried T) Qx [d1, d2, d3, d4] C Q := by
  refine cl__law_tried T ?_
  unfold w__law_tried
  walk_at "g"
  refine mkX_Book T h1 h2 h3 h4 (by omega) (fun w z c hw => ⟨true, T.exm_InvalidBook_InvalidBook, ifT (partC_one ?_)⟩) (fun hn d => ?_)
  · rw [hw] at q
    walk_at "g"
    refine ⟨_, rfl, T.xc_InvalidBook, true, _, .own _, T.isx_InvalidBook_HastyError, ?_⟩
    walk_at "g"
    refine ⟨_, _, _, _, rfl, rfl, T.xf_InvalidBook, T.na_InvalidBook_word, rfl, ?_⟩
    unfold w__law_tried_j1
    walk_at "g"
    exact q
  · rw [hn] at q
    walk_at "g"
    unfold w__law_tried_j1
    walk_at "g"
    exact q
theorem some_nil {nk : List Str} {ds : List D} {K2 : QE} (h : Dt n d) (hs : seqO d = some ds) (hn : n ≤ 25) (hm : namesL ds = true) (hb : SeqD C e (nk.map D.str)) (hk : K2 (.lst (ds.filter fun x => !decide (Tr.strOf x ∈ nk))) C) :
    eLc1 (iApp (eVal d) pIter) (fun x => tBin (eVal x) (eVal e) oNotIn) (fun x => eVal x) C K2 := by
  obtain ⟨h0, hl, hx⟩ := h.seq (C := C) hs
  have st := names_strs hm
  walk_at "g"
  refine s_it_seq h0 fun P hP => ?_
  refine lcB1_mapD (fun x => !decide (Tr.strOf x ∈ nk)) (hP _ h0) (fun y hy k hk => ?_) (fun y hy _ k hk => ?_) (by omega) hk
  · rw [st] at hy
    obtain ⟨s, _, rfl⟩ := List.mem_map.mp hy
    walk_at "g"
    exact hk
  · walk_at "g"
    exact hk
theorem c_due (T : Tp P K mg) (h1 : Dt n d1) (h2 : Dt n d2) (h3 : Dt n d3) (h4 : Dt n d4) (hn : n ≤ 20) (q : Q (optD (bookErr d1 d2 d3 d4)) C) : callW (fw__law_due T) Qx [d1, d2, d3, d4] C Q := by
  refine cl__law_due T ?_
  unfold w__law_due
  walk_at "g"
  refine c_l_are_names T h1 (by omega) ?_
  cases hs1 : seqO d1 with
  | none =>
    unfold namesD
    rw [hs1]
    have e : bookErr d1 d2 d3 d4 = some "choices" := by unfold bookErr namesD; rw [hs1]; rfl
    rw [e] at q
    dsimp only [Option.any]
    walk_at "g"
    exact q
  | some e1 =>
  have s1 : ∀ C : Cells, SeqD C d1 e1 := fun C => (h1.seq hs1).1
  have en1 : namesD d1 = namesL e1 := by unfold namesD; rw [hs1]; rfl
  rw [en1]
  cases hn1 : namesL e1 with
  | false =>
    have e : bookErr d1 d2 d3 d4 = some "choices" := by unfold bookErr; rw [en1, hn1]; rfl
    rw [e] at q
    walk_at "g"
    exact q
  | true =>
  walk_at "g"
  refine len_seq (s1 _) ?_
  refine s_eq_int ?_
  rw [len0]
  cases he1 : e1.isEmpty with
  | true =>
    have e : bookErr d1 d2 d3 d4 = some "choices" := by
      unfold bookErr
      rw [en1, hn1, hs1]
      show (if (true && !e1.isEmpty) = false then _ else _) = _
      rw [he1]
      rfl
    rw [e] at q
    walk_at "g"
    exact q
  | false =>
  walk_at "g"
  have st1 := names_strs hn1
  have sn1 : strsD d1 = e1.map Tr.strOf := by unfold strsD; rw [hs1]; rfl
  have b1 : ¬ (namesD d1 && !((seqO d1).getD []).isEmpty) = false := by
    rw [en1, hn1, hs1]
    show ¬ (true && !e1.isEmpty) = false
    rw [he1]
    decide
  have sq1 : ∀ C : Cells, SeqD C d1 ((e1.map Tr.strOf).map D.str) := fun C => by rw [← st1]; exact s1 C
  refine c_l_are_kinds T h2 (by omega) (sq1 _) (names_name hn1) ?_
  unfold bookErr at q
  rw [if_neg b1, sn1] at q
  cases hk2 : kindsD (e1.map Tr.strOf) d2 with
  | false =>
    rw [if_pos hk2] at q
    walk_at "g"
    exact q
  | true =>
  rw [if_neg (by rw [hk2]; decide)] at q
  cases hs2 : seqO d2 with
  | none =>
    unfold kindsD at hk2
    rw [hs2] at hk2
    cases hk2
  | some e2 =>
  have hL : kindL (e1.map Tr.strOf) e2 = true := by
    unfold kindsD at hk2
    rw [hs2] at hk2
    exact hk2
  unfold kindL at hL
  rw [Bool.and_eq_true, Bool.and_eq_true] at hL
  obtain ⟨hp2, hn2, ht2⟩ := hL
  replace hp2 := List.all_eq_true.mp hp2
  obtain ⟨s2, l2, x2⟩ := h2.seq (C := C) hs2
  have nk2 : nkD d2 = (e2.map fstD).map Tr.strOf := by unfold nkD; rw [hs2]; rfl
  have st2 := names_strs hn2
  walk_at "g"
  refine s_it_seq s2 fun P hP => ?_
  refine lcB_mapD fstD (hP _ s2) (fun x hxm k hk => ?_) (by omega) ?_
  · obtain ⟨a, b, rfl⟩ := pair_of (hp2 x hxm)
    walk_at "g"
    exact hk
  have ek : SeqD C (.lst (e2.map fstD)) ((nkD d2).map D.str) := by rw [nk2, ← st2]; exact .l
  generalize D.lst (e2.map fstD) = names at ek ⊢
  have nilok : ∀ {d : D} {ds : List D}, Dt n d → seqO d = some ds → ∀ y ∈ ds.filter (fun x => !decide (Tr.strOf x ∈ nkD d2)), plainD y = true ∧ (toPy y).canLay0 = true ∧ (toPy y).depth ≤ 30 := fun {d ds} h hs y hy => by
    obtain ⟨p1, p2, p3⟩ := ((h.seq (C := C) hs).2.2 y (List.mem_filter.mp hy).1).lay
    exact ⟨p1, p2, by omega⟩
  walk_at "g"
  refine c_l_are_names T h3 (by omega) ?_
  unfold namesD
  unfold someD at q
  cases hs3 : seqO d3 with
  | none =>
    rw [hs3] at q
    dsimp only [Option.any] at *
    walk_at "g"
    exact q
  | some e3 =>
  rw [hs3] at q
  rw [show Option.any namesL (some e3) = namesL e3 from rfl]
  replace q : Q (optD (if someL (nkD d2) e3 = false then some "loose" else if Option.any (someL (nkD d2)) (seqO d4) = false then some "others" else none)) C := q
  cases hn3 : namesL e3 with
  | false =>
    rw [if_pos (by unfold someL; rw [hn3]; rfl)] at q
    walk_at "g"
    exact q
  | true =>
  have e3l : someL (nkD d2) e3 = e3.all fun x => decide (Tr.strOf x ∈ nkD d2) := by unfold someL; rw [hn3, Bool.true_and]
  rw [e3l] at q
  walk_at "g"
  refine some_nil h3 hs3 (by omega) hn3 ek ?_
  walk_at "g"
  refine s_neD (.inl rfl) (eqd_nil (nilok h3 hs3)) ?_
  rw [Tr.filter_all]
  cases ha3 : e3.all fun x => decide (Tr.strOf x ∈ nkD d2) with
  | false =>
    rw [ha3, if_pos rfl] at q
    walk_at "g"
    exact q
  | true =>
  rw [ha3, if_neg (by decide)] at q
  walk_at "g"
  refine c_l_are_names T h4 (by omega) ?_
  unfold namesD
  cases hs4 : seqO d4 with
  | none =>
    rw [hs4] at q
    dsimp only [Option.any] at *
    walk_at "g"
    exact q
  | some e4 =>
  rw [hs4] at q
  rw [show Option.any namesL (some e4) = namesL e4 from rfl]
  replace q : Q (optD (if someL (nkD d2) e4 = false then some "others" else none)) C := q
  cases hn4 : namesL e4 with
  | false =>
    rw [if_pos (by unfold someL; rw [hn4]; rfl)] at q
    walk_at "g"
    exact q
  | true =>
  have e4l : someL (nkD d2) e4 = e4.all fun x => decide (Tr.strOf x ∈ nkD d2) := by unfold someL; rw [hn4, Bool.true_and]
  rw [e4l] at q
  walk_at "g"
  refine some_nil h4 hs4 (by omega) hn4 ek ?_
  walk_at "g"
  refine s_eqD (.inl rfl) (eqd_nil (nilok h4 hs4)) ?_
  rw [Tr.filter_all]
  cases ha4 : e4.all fun x => decide (Tr.strOf x ∈ nkD d2) with
  | false =>
    rw [ha4, if_pos rfl] at q
    walk_at "g"
    exact q
  | true =>
    rw [ha4, if_neg (by decide)] at q
    walk_at "g"
    exact q
end


inductive Ds : Nat → Nat → D → Prop
  | non {m n} : Ds m n .non
  | bl {m n} (b : Bool) : Ds m n (.bl b)
  | int {m n} (i : Int) : Ds m n (.int i)
  | str {m n} {s : Str} (h : PyData.strOk s = true) (l : s.length ≤ 1000) : Ds m n (.str s)
  | lst {m n ds} (h : ∀ d ∈ ds, Ds m n d) (l : ds.length ≤ m) : Ds m (n + 1) (.lst ds)
  | tup {m n ds} (h : ∀ d ∈ ds, Ds m n d) (l : ds.length ≤ m) : Ds m (n + 1) (.tup ds)
theorem Ds.mono {m n m' n' : Nat} {d : D} (h : Ds m n d) (hm : m ≤ m') (hn : n ≤ n') : Ds m' n' d := by
  induction h generalizing n' with
  | non => exact .non
  | bl b => exact .bl b
  | int i => exact .int i
  | str h k => exact .str h k
  | lst h k ih =>
    obtain ⟨j, rfl⟩ : ∃ j, n' = j + 1 := ⟨n' - 1, by omega⟩
    exact .lst (fun d hd => ih d hd (by omega)) (Nat.le_trans k hm)
  | tup h k ih =>
    obtain ⟨j, rfl⟩ : ∃ j, n' = j + 1 := ⟨n' - 1, by omega⟩
    exact .tup (fun d hd => ih d hd (by omega)) (Nat.le_trans k hm)
theorem Ds.dt {m n : Nat} {d : D} (h : Ds m n d) (hm : m ≤ 1000) : Dt n d := by
  induction h with
  | non => exact .non
  | bl b => exact .bl b
  | int i => exact .int i
  | str h k => exact .str h k
  | lst h k ih => exact .lst (fun d hd => ih d hd) (Nat.le_trans k hm)
  | tup h k ih => exact .tup (fun d hd => ih d hd) (Nat.le_trans k hm)
theorem AV.ds {n : Nat} {d : D} (h : AV n d) : Ds 3 (n + 2) d := by
  have all : ∀ s ∈ (["", "a", "no", "yes", "abcde", "A", "x y", "on"] : List Str), PyData.strOk s = true ∧ s.length ≤ 1000 := by decide +kernel
  have st : ∀ {s : Str} {n : Nat}, s ∈ (["", "a", "no", "yes", "abcde", "A", "x y", "on"] : List Str) → Ds 3 n (.str s) := fun h => .str (all _ h).1 (all _ h).2
  induction h with
  | @c n d h =>
    have h2 : Ds 3 2 d := by
      unfold anyC at h
      simp only [List.mem_cons, List.not_mem_nil, or_false] at h
      rcases h with rfl | rfl | rfl | rfl | rfl | rfl | rfl | rfl | rfl | rfl | rfl | rfl | rfl | rfl | rfl | rfl
      all_goals first
        | exact .non
        | exact .bl _
        | exact .int _
        | exact st (by simp)
        | (refine .tup (fun d hd => ?_) (by decide)
           rcases List.mem_cons.mp hd with rfl | hd
           · exact st (by simp)
           rw [List.mem_singleton.mp hd]
           refine .tup (fun d hd => ?_) (by decide)
           rw [List.mem_singleton.mp hd]
           exact st (by simp))
    exact h2.mono (Nat.le_refl _) (by omega)
  | l h hl ih => exact .lst ih hl
  | t h hl ih => exact .tup ih hl
theorem cut_mem3 {ds : List D} {lo hi : Option Int} {x : D} (h : x ∈ Tr.cutD ds lo hi) : x ∈ ds := List.mem_of_mem_drop (List.mem_of_mem_take h)
theorem cut_len3 {ds : List D} {lo hi : Option Int} : (Tr.cutD ds lo hi).length ≤ ds.length := ((List.take_sublist _ _).trans (List.drop_sublist _ _)).length_le
section
variable {p q : Addr} {s : St4} {d : D} {Qx : QX} {Q : QE} {m n : Nat} {ds : List D}
theorem Ds.seq (h : Ds m n d) (e : seqO d = some ds) : ds.length ≤ m ∧ ∀ x ∈ ds, Ds m (n - 1) x := by
  cases h with
  | lst h l => cases e; exact ⟨l, h⟩
  | tup h l => cases e; exact ⟨l, h⟩
  | _ => cases e
theorem atI_nat3 {α : Type} {l : List α} {n : Nat} {x : α} (h : l[n]? = some x) : atI l (n : Int) = some x := by
  obtain ⟨hn, _⟩ := List.getElem?_eq_some_iff.mp h
  unfold atI ixN
  rw [if_pos (by omega), if_pos (by omega)]
  exact h
theorem put_ds {x : D} {at_ : Int} (hx : ∀ y ∈ ds, Ds m n y) (hl : ds.length ≤ m) (h : Ds (m + 2) (n + 1) x) : Ds (m + m + 1 + 2) (n + 2) (.lst (Tr.cutD ds none (some at_) ++ [x] ++ Tr.cutD ds (some (at_ + 1)) none)) := by
  refine .lst (fun y hy => ?_) ?_
  · rcases List.mem_append.mp hy with hy | hy
    · rcases List.mem_append.mp hy with hy | hy
      · exact (hx y (cut_mem3 hy)).mono (by omega) (by omega)
      · rw [List.mem_singleton.mp hy]; exact h.mono (by omega) (Nat.le_refl _)
    · exact (hx y (cut_mem3 hy)).mono (by omega) (by omega)
  · have h1 := cut_len3 (ds := ds) (lo := none) (hi := some at_)
    have h2 := cut_len3 (ds := ds) (lo := some (at_ + 1)) (hi := none)
    simp only [List.length_append, List.length_cons, List.length_nil]
    omega
theorem p_bent (T : Tp P K mg) (hd : DkOk s) (h : Ds m n d) (hm : m ≤ 100) (hn : n ≤ 15) (n3 : 5 ≤ n) (m3 : 3 ≤ m) (hs : seqO d = some ds)
    (k : ∀ d' s', Ds (m + m + 3) (n + 2) d' → DkOk s' → Q d' (dk p q s')) : w__law_bent T (.raw (.ref p)) d Qx Q (dk p q s) := by
  obtain ⟨hl, hx⟩ := h.seq hs
  have h0 : ∀ C : Cells, SeqD C d ds := fun C => ((h.dt (by omega)).seq hs).1
  have any : ∀ {s : St4} {Q : QE}, DkOk s → (∀ d s', Ds 3 4 d → DkOk s' → Q d (dk p q s')) → callW (fw__law_any T 3) Qx [.raw (.ref p), .int 2] (dk p q s) Q := fun hd k => c_any0 T (n := 2) (by decide) hd fun d s' hv hd' => k d s' hv.ds hd'
  unfold w__law_bent
  walk_at "g"
  refine s_list_seq (h0 _) ?_
  walk_at "g"
  refine c_draw0 T hd (by decide) (by decide) fun f s1 f0 f1 hd1 => ?_
  walk_at "g"
  have anyend : ∀ s1, DkOk s1 → mRet (eDrop (eArgs (aCons (eVal (.raw (.ref p))) (aCons (eVal (.int 2)) aNil)) fun ds => callW (fw__law_any T 3) Qx (ds ++ []))) Q (dk p q s1) := fun s1 hd1 => by
    walk_at "g"
    refine any hd1 fun d s2 hv hd2 => ?_
    exact drop_id (k d s2 (hv.mono (by omega) (by omega)) hd2)
  have eqn : EqD (dk p q s1) (.lst ds) (.lst []) ds.isEmpty := eqd_nil fun y hy => by
    obtain ⟨p1, p2, p3⟩ := ((hx y hy).dt (by omega)).lay
    exact ⟨p1, p2, by omega⟩
  by_cases e0 : f = 0
  · refine ifP3 (decide_eq_true e0) ?_
    exact anyend s1 hd1
  refine ifN3 (by rw [decide_eq_false e0]; decide) ?_
  walk_at "g"
  refine s_eqD (.inl rfl) eqn ?_
  cases hne : ds.isEmpty with
  | true => 
    walk_at "g"
    refine any hd1 fun d s2 hv hd2 => ?_
    exact drop_id (k d s2 (hv.mono (by omega) (by omega)) hd2)
  | false =>
  have hpos : 0 < ds.length := by cases ds with | nil => cases hne | cons a l => exact Nat.succ_pos _
  walk_at "g"
  refine c_draw0 T hd1 (by omega) (by omega) fun at_ s2 a0 a1 hd2 => ?_
  obtain ⟨at_, rfl⟩ := Int.eq_ofNat_of_zero_le a0
  have hat : at_ < ds.length := by omega
  have hx2 : ds[at_]? = some ds[at_] := List.getElem?_eq_getElem hat
  have hxd := hx _ (List.getElem_mem hat)
  have ixat : ∀ {C : Cells} {Q2 : QE}, Q2 ds[at_] C → pIx (.lst ds) (.int (at_ : Nat)) C Q2 := fun h => s_ix_lst (atI_nat3 hx2) h
  walk_at "g"
  by_cases e1 : (f = 1)
  · refine ifP3 (decide_eq_true e1) ?_
    walk_at "g"
    refine ⟨?_, ?_⟩
    · have := cut_len3 (ds := ds) (lo := some (at_ : Int)) (hi := some ((at_ : Int) + 1))
      omega
    · refine drop_id (k _ s2 (.lst (fun y hy => ?_) ?_) hd2)
      · rcases List.mem_append.mp hy with hy | hy
        · exact (hx y hy).mono (by omega) (by omega)
        · exact (hx y (cut_mem3 hy)).mono (by omega) (by omega)
      · have := cut_len3 (ds := ds) (lo := some (at_ : Int)) (hi := some ((at_ : Int) + 1))
        rw [List.length_append]; omega
  refine ifN3 (by rw [decide_eq_false e1]; decide) ?_
  walk_at "g"
  by_cases e2 : (f = 2)
  · refine ifP3 (decide_eq_true e2) ?_
    walk_at "g"
    have l1 := cut_len3 (ds := ds) (lo := none) (hi := some (at_ : Int))
    have l2 := cut_len3 (ds := ds) (lo := some ((at_ : Int) + 1)) (hi := none)
    refine ⟨by omega, ?_⟩
    refine drop_id (k _ s2 (.lst (fun y hy => ?_) ?_) hd2)
    · rcases List.mem_append.mp hy with hy | hy
      · exact (hx y (cut_mem3 hy)).mono (by omega) (by omega)
      · exact (hx y (cut_mem3 hy)).mono (by omega) (by omega)
    · rw [List.length_append]; omega
  refine ifN3 (by rw [decide_eq_false e2]; decide) ?_
  have l1 := cut_len3 (ds := ds) (lo := none) (hi := some (at_ : Int))
  have l2 := cut_len3 (ds := ds) (lo := some ((at_ : Int) + 1)) (hi := none)
  have last : ∀ {C : Cells} {s3 : St4} {x : D}, Ds (m + 2) (n + 1) x → DkOk s3 → (∃ r, C.Perm (dk p q s3 ++ r)) → ∃ C' r, C.Perm (C' ++ r) ∧ Q (.lst (Tr.cutD ds none (some (at_ : Int)) ++ [x] ++ Tr.cutD ds (some ((at_ : Int) + 1)) none)) C' := fun {C s3 x} hxx hd3 ⟨r, pm⟩ =>
    ⟨dk p q s3, r, pm, k _ s3 ((put_ds (n := n) (fun y hy => (hx y hy).mono (Nat.le_refl _) (by omega)) hl hxx).mono (by omega) (Nat.le_refl _)) hd3⟩
  have bEnd : mRet (eDrop (eBin (eBin (eSl (eVal (.lst ds)) oNone (oSome (eVal (.int (at_ : Nat))))) (eArgs (aCons (eArgs (aCons (eVal (.raw (.ref p))) (aCons (eVal (.int 2)) aNil)) fun ds => callW (fw__law_any T 3) Qx (ds ++ [])) aNil) pLst) oAdd) (eSl (eVal (.lst ds)) (oSome (eBin (eVal (.int (at_ : Nat))) (eVal (.int 1)) oAdd)) oNone) oAdd)) Q (dk p q s2) := by
    walk_at "g"
    refine any hd2 fun d s3 hv hd3 => ?_
    walk_at "g"
    exact last (hv.mono (by omega) (by omega)) hd3 ⟨[], by rw [List.append_nil]⟩
  walk_at "g"
  by_cases h5 : f < 5
  rotate_left
  · refine ifN3 (by rw [decide_eq_false h5]; decide) ?_
    exact bEnd
  refine ifP3 (decide_eq_true h5) ?_
  walk_at "g"
  refine ixat ?_
  clear hx2
  generalize ds[at_] = x at hxd ixat ⊢
  walk_at "g"
  refine s_isB (hxd.dt (by omega)).basic (by decide) ?_
  rw [tup_kind (hxd.dt (by omega))]
  cases x with
  | tup l =>
    dsimp only
    walk_at "g"
    refine ixat ?_
    walk_at "g"
    by_cases hl2 : ((l.length : Nat) : Int) = 2
    rotate_left
    · refine ifN3 (by rw [decide_eq_false hl2]; decide) ?_
      exact bEnd
    refine ifP3 (decide_eq_true hl2) ?_
    obtain ⟨a, b, e9⟩ := pair_of (x := .tup l) (by rw [pair_len]; exact decide_eq_true hl2)
    cases e9
    obtain ⟨j, rfl⟩ : ∃ j, n = j + 2 := ⟨n - 2, by omega⟩
    have hab : Ds m j a ∧ Ds m j b := by
      cases hxd with
      | tup h l => exact ⟨h a (by simp), h b (by simp)⟩
    obtain ⟨ha, hb⟩ := hab
    walk_at "g"
    refine ixat ?_
    walk_at "g"
    refine s_isB (hb.dt (by omega)).basic (by decide) ?_
    have lk : isKind "list" b = (match b with | .lst _ => true | _ => false) := by
      cases hb with
      | tup h l => exact (show (kitB "tuple" "list").getD false = false by decide +kernel)
      | lst h l => exact (show (kitB "list" "list").getD false = true by decide +kernel)
      | non => exact (show (kitB "NoneType" "list").getD false = false by decide +kernel)
      | bl b => exact (show (kitB "bool" "list").getD false = false by decide +kernel)
      | int i => exact (show (kitB "int" "list").getD false = false by decide +kernel)
      | str h l => exact (show (kitB "str" "list").getD false = false by decide +kernel)
    rw [lk]
    cases b with
    | lst ts =>
      dsimp only
      walk_at "g"
      refine ixat ?_
      have tl : ts.length ≤ m ∧ ∀ y ∈ ts, Ds m (j - 1) y := by
        cases hb with
        | lst h l => exact ⟨l, fun y hy => (h y hy).mono (Nat.le_refl _) (by omega)⟩
      obtain ⟨tl, ty⟩ := tl
      have tc := cut_len3 (ds := ts) (lo := some 1) (hi := none)
      walk_at "g"
      intro z1
      walk_at "g"
      intro z2
      walk_at "g"
      refine ⟨z2, _, _, rfl, rfl, List.mem_cons_self, by omega, by omega, by decide, ?_⟩
      walk_at "g"
      refine ⟨_, _, LstD.c (i := 1) rfl, .l, by simp only [List.length_append, List.length_cons, List.length_nil]; omega, fun z3 => ?_⟩
      have zz : PyData.strOk ("zz" : Str) = true ∧ ("zz" : Str).length ≤ 1000 ∧ PyData.strOk ("no" : Str) = true ∧ ("no" : Str).length ≤ 1000 := by decide +kernel
      have flat : (List.replicate ((ts.length : Int)).toNat [D.str "zz"]).flatten = List.replicate ts.length (D.str "zz") := by
        rw [Int.toNat_natCast]
        induction ts.length with
        | zero => rfl
        | succ i ih => rw [List.replicate_succ, List.flatten_cons, ih, List.replicate_succ]; rfl
      rw [flat]
      have all9 : ∀ x ∈ ([.tup [a, .lst (ts ++ [.non])], .tup [a, .lst (Tr.cutD ts (some 1) none)], .tup [.lst ts, a], .lst [a, .lst ts]] ++ [.tup [a, .lst (List.replicate ts.length (D.str "zz"))]] ++ [.tup [a, .tup ts], .tup [a, .lst ts, .int 1], .tup [.str "no", .lst ts], .tup [a, .non]] : List D), Ds (m + 2) (j + 2 + 1) x := by
        have a2 : Ds (m + 2) (j + 2) a := ha.mono (by omega) (by omega)
        have ln : ∀ {us : List D}, (∀ y ∈ us, Ds (m + 2) (j + 1) y) → us.length ≤ m + 2 → Ds (m + 2) (j + 2) (.lst us) := fun h l => .lst h l
        have ty2 : ∀ y ∈ ts, Ds (m + 2) (j + 1) y := fun y hy => (ty y hy).mono (by omega) (by omega)
        have two : ∀ {x y : D}, Ds (m + 2) (j + 2) x → Ds (m + 2) (j + 2) y → Ds (m + 2) (j + 2 + 1) (.tup [x, y]) := fun hx hy => .tup (fun d hd => by
          rcases List.mem_cons.mp hd with rfl | hd
          · exact hx
          · rw [List.mem_singleton.mp hd]; exact hy) (by show 2 ≤ m + 2; omega)
        have t0 : Ds (m + 2) (j + 2) (.lst ts) := ln ty2 (by omega)
        intro x hx
        simp only [List.mem_append, List.mem_cons, List.not_mem_nil, or_false] at hx
        rcases hx with ((rfl | rfl | rfl | rfl) | rfl) | rfl | rfl | rfl | rfl
        · refine two a2 (ln (fun y hy => ?_) (by rw [List.length_append, List.length_singleton]; omega))
          rcases List.mem_append.mp hy with hy | hy
          · exact ty2 y hy
          · rw [List.mem_singleton.mp hy]; exact .non
        · exact two a2 (ln (fun y hy => ty2 y (cut_mem3 hy)) (by omega))
        · exact two t0 a2
        · exact .lst (fun d hd => by
            rcases List.mem_cons.mp hd with rfl | hd
            · exact a2
            · rw [List.mem_singleton.mp hd]; exact t0) (by show 2 ≤ m + 2; omega)
        · refine two a2 (ln (fun y hy => ?_) (by rw [List.length_replicate]; omega))
          rw [(List.mem_replicate.mp hy).2]; exact .str zz.1 zz.2.1
        · exact two a2 (.tup ty2 (by omega))
        · exact .tup (fun d hd => by
            rcases List.mem_cons.mp hd with rfl | hd
            · exact a2
            rcases List.mem_cons.mp hd with rfl | hd
            · exact t0
            · rw [List.mem_singleton.mp hd]; exact .int 1) (by show 3 ≤ m + 2; omega)
        · exact two (.str zz.2.2.1 zz.2.2.2) t0
        · exact two a2 .non
      generalize hnine : ([.tup [a, .lst (ts ++ [.non])], .tup [a, .lst (Tr.cutD ts (some 1) none)], .tup [.lst ts, a], .lst [a, .lst ts]] ++ [.tup [a, .lst (List.replicate ts.length (D.str "zz"))]] ++ [.tup [a, .tup ts], .tup [a, .lst ts, .int 1], .tup [.str "no", .lst ts], .tup [a, .non]] : List D) = nine at all9 ⊢
      have l9 : nine.length = 9 := by rw [← hnine]; rfl
      clear hnine flat
      walk_at "g"
      refine c_drawP T (List.perm_append_comm (l₁ := [_, _, _]) (l₂ := dk p q s2)) hd2 (by decide) (by decide) fun b s3 b0 b1 hd3 => ?_
      obtain ⟨b, rfl⟩ := Int.eq_ofNat_of_zero_le b0
      have hb9 : nine[b]? = some (nine[b]'(by omega)) := List.getElem?_eq_getElem (by omega)
      refine s_ix_cell (.inr ⟨z3, rfl, List.mem_append_right _ List.mem_cons_self⟩) (atI_nat3 hb9) ?_
      have h9 := all9 _ (List.getElem_mem (show b < nine.length by omega))
      generalize nine[b]'(by omega) = x at h9 ⊢
      walk_at "g"
      exact last h9 hd3 ⟨_, .refl _⟩
    | _ =>
      dsimp only
      exact bEnd
  | _ =>
    dsimp only
    exact bEnd
end


def errW : List Str := ["choices", "kinds", "loose", "others"]
theorem errW_ok : ∀ x ∈ errW, (reprText x).length ≤ 100000 := by decide +kernel
def reprO : Option Str → Str
  | none => "None"
  | some w => reprText w
theorem repr_opt {C : Cells} {Q : QE} {o : Option Str} (h : ∀ w, o = some w → w ∈ errW) (q : ∀ r, r = reprO o → Q (.str r) C) : on1 pRepr1 [optD o] C Q := by
  cases o with
  | none => exact s_repr_non (q _ rfl)
  | some w => exact s_repr_str (errW_ok w (h w rfl)) fun r e => q r e
theorem bookErr_ok {d1 d2 d3 d4 : D} : ∀ w, bookErr d1 d2 d3 d4 = some w → w ∈ errW := by
  intro w h
  unfold bookErr at h
  split at h
  · cases h; decide
  · split at h
    · cases h; decide
    · split at h
      · cases h; decide
      · split at h
        · cases h; decide
        · cases h
section
variable {p q z : Addr} {s : St4} {C R : Cells} {Q : QE} {Qx : QX} {ds : List D} {m n : Nat}
theorem p_law_a4 (T : Tp P K mg) {u : Unit} {nx : Unit → MB} {d1 d2 d3 d4 : D} (h1 : Dt 12 d1) (h2 : Dt 12 d2) (h3 : Dt 12 d3) (h4 : Dt 12 d4) (pm : C.Perm (dk p q s ++ (z, .lst [d1, d2, d3, d4]) :: R)) (hn : nx () C) : w_law_a4 T (.raw (.ref z)) nx Qx Q u C := by
  have hz : LstD C (.raw (.ref z)) [d1, d2, d3, d4] := .inr ⟨z, rfl, pm.mem_iff.mpr (List.mem_append_right _ List.mem_cons_self)⟩
  unfold w_law_a4
  walk_at "g"
  refine ⟨d1, d2, d3, d4, hz, ?_⟩
  walk_at "g"
  refine c_tried T h1 h2 h3 h4 (by decide) ?_
  walk_at "g"
  refine repr_opt bookErr_ok fun r1 e1 => ?_
  walk_at "g"
  refine c_due T h1 h2 h3 h4 (by decide) ?_
  walk_at "g"
  refine repr_opt bookErr_ok fun r2 e2 => ?_
  walk_at "g"
  refine iteN (by rw [e1, e2]; simp) ?_
  exact part_id hn
theorem p_law_l3 (T : Tp P K mg) {u : Unit} {nx bk : Unit → MB} {d : D} (pm : C.Perm (dk p q s ++ (z, .lst ds) :: R)) (hd : DkOk s) (l4 : ds.length = 4) (hx : ∀ x ∈ ds, Ds m n x) (hm : m ≤ 100) (hn : n ≤ 15) (n3 : 5 ≤ n) (m3 : 3 ≤ m)
    (h : ∀ ds' s' C', ds'.length = 4 → (∀ x ∈ ds', Ds (m + m + 3) (n + 2) x) → DkOk s' → C'.Perm (dk p q s' ++ (z, .lst ds') :: R) → nx () C') : w_law_l3 T (.raw (.ref p)) (.raw (.ref z)) Qx Q d u nx bk C := by
  unfold w_law_l3
  walk_at "g"
  refine c_drawP T pm hd (by decide) (by decide) fun k s1 k0 k1 hd1 => ?_
  obtain ⟨k, rfl⟩ := Int.eq_ofNat_of_zero_le k0
  have hk : k < ds.length := by omega
  have hk2 : ds[k]? = some ds[k] := List.getElem?_eq_getElem hk
  have hxk := hx _ (List.getElem_mem hk)
  have lz : ∀ s : St4, LstD (dk p q s ++ (z, .lst ds) :: R) (.raw (.ref z)) ds := fun s => .inr ⟨z, rfl, List.mem_append_right _ List.mem_cons_self⟩
  generalize ds[k] = x at hk2 hxk
  walk_at "g"
  refine s_ix_cell (lz _) (atI_nat3 hk2) ?_
  walk_at "g"
  refine s_isSq (hxk.dt (by omega)).sq ?_
  cases hs : seqO x with
  | none =>
    dsimp only [Option.isSome]
    walk_at "g"
    exact part_id (h ds s1 _ l4 (fun y hy => (hx y hy).mono (by omega) (by omega)) hd1 (.refl _))
  | some xs =>
    dsimp only [Option.isSome]
    walk_at "g"
    refine s_ix_cell (lz _) (atI_nat3 hk2) ?_
    walk_at "g"
    refine ⟨dk p q s1, (z, .lst ds) :: R, .refl _, p_bent T hd1 hxk hm hn n3 m3 hs fun d' s2 hd' hd2 => ?_⟩
    walk_at "g"
    refine ⟨(dk p q s2).length, z, ds, k, k, rfl, rfl, ?_, ?_, ?_⟩
    · rw [List.getElem?_append_right (Nat.le_refl _), Nat.sub_self]; rfl
    · unfold ixN
      rw [if_pos (by omega), if_pos (by omega), Int.toNat_natCast]
    · refine part_id (h (ds.set k d') s2 _ (by rw [List.length_set]; exact l4) (fun y hy => ?_) hd2 ?_)
      · rcases List.mem_or_eq_of_mem_set hy with hy | rfl
        · exact (hx y hy).mono (by omega) (by omega)
        · exact hd'
      · rw [List.set_append_right _ _ (Nat.le_refl _), Nat.sub_self]
        exact .refl _
theorem nodup_len3 {l : List Str} : ∀ {m : List Str}, l.Nodup → (∀ x ∈ l, x ∈ m) → l.length ≤ m.length := by
  induction l with
  | nil => intro m _ _; simp
  | cons x l ih =>
    intro m nd h
    have hx := h x List.mem_cons_self
    have n2 := List.nodup_cons.mp nd
    have := ih (m := m.erase x) n2.2 fun y hy => (List.mem_erase_of_ne (show y ≠ x from fun e => n2.1 (e ▸ hy))).mpr (h y (List.mem_cons_of_mem _ hy))
    rw [List.length_erase_of_mem hx] at this
    have := List.length_pos_of_mem hx
    rw [List.length_cons]
    omega
theorem strs_ds {xs : List Str} {k : Int} (h : Names xs k) (hl : xs.length ≤ 5) {n : Nat} : Ds 5 (n + 1) (.lst (xs.map D.str)) := .lst (fun d hd => by
  obtain ⟨x, hx, rfl⟩ := List.mem_map.mp hd
  exact .str (h.ok x hx).2.1 (by have := (h.ok x hx).2.2.1; omega)) (by rw [List.length_map]; exact hl)
theorem book_ds {ns : List Str} {kds : List Kd} {ls os : List Str} (h : BookOk ns kds ls os 3) : ∀ x ∈ [D.lst (ns.map D.str), .lst (kds.map kdD), .lst (ls.map D.str), .lst (os.map D.str)], Ds 5 5 x := by
  obtain ⟨k, _, k1, hn⟩ := h.n
  obtain ⟨j, _, j1, hk⟩ := h.k
  obtain ⟨a, ha, h1⟩ := h.l
  obtain ⟨b, hb, h2⟩ := h.o
  have nl := hn.len
  have kl := hk.len
  rw [List.length_map] at kl
  have l1 := nodup_len3 ha.nd h1
  have l2 := nodup_len3 hb.nd h2
  rw [List.length_map] at l1 l2
  intro x hx
  simp only [List.mem_cons, List.not_mem_nil, or_false] at hx
  rcases hx with rfl | rfl | rfl | rfl
  · exact strs_ds hn (by omega)
  · refine .lst (fun d hd => ?_) (by rw [List.length_map]; omega)
    obtain ⟨kd, hkd, rfl⟩ := List.mem_map.mp hd
    obtain ⟨t1, t2⟩ := h.t kd hkd
    refine .tup (fun d hd => ?_) (by show 2 ≤ 5; omega)
    rcases List.mem_cons.mp hd with rfl | hd
    · have := hk.ok kd.1 (List.mem_map_of_mem hkd)
      exact .str this.2.1 (by have := this.2.2.1; omega)
    · rw [List.mem_singleton.mp hd]
      refine .lst (fun d hd => ?_) (by rw [List.length_map, t1]; omega)
      obtain ⟨o, ho, rfl⟩ := List.mem_map.mp hd
      cases o with
      | none => exact .non
      | some w =>
        have := hn.ok w (t2 _ ho w rfl)
        exact .str this.2.1 (by have := this.2.2.1; omega)
  · exact strs_ds ha (by omega)
  · exact strs_ds hb (by omega)
theorem p_law_l1 (T : Tp P K mg) {u : Unit} {nx bk : Unit → MB} {d : D} (pm : C.Perm (dk p q s ++ R)) (hd : DkOk s) (h : ∀ s C', DkOk s → (∃ R', C'.Perm (dk p q s ++ R')) → nx () C') : w_law_l1 T (.raw (.ref p)) Qx Q d u nx bk C := by
  unfold w_law_l1
  walk_at "g"
  refine c_lbook T pm hd (by decide) (by decide) fun ns kds ls os s1 hb hd1 => ?_
  have bd := book_ds hb
  unfold formD
  walk_at "g"
  intro z
  walk_at "g"
  have pm1 : ((z, Cell.lst [D.lst (ns.map D.str), .lst (kds.map kdD), .lst (ls.map D.str), .lst (os.map D.str)]) :: (dk p q s1 ++ R)).Perm (dk p q s1 ++ (z, Cell.lst [D.lst (ns.map D.str), .lst (kds.map kdD), .lst (ls.map D.str), .lst (os.map D.str)]) :: R) := List.perm_middle.symm
  generalize hfour : [D.lst (ns.map D.str), .lst (kds.map kdD), .lst (ls.map D.str), .lst (os.map D.str)] = four at bd pm1 ⊢
  have l4 : four.length = 4 := by rw [← hfour]; rfl
  refine c_drawP T pm1 hd1 (by decide) (by decide) fun k s2 k0 k1 hd2 => ?_
  obtain ⟨k, rfl⟩ := Int.eq_ofNat_of_zero_le k0
  walk_at "g"
  refine loop_inv (fun i _ C => ∃ (m n : Nat) (ds : List D) (s : St4), m + 3 = 8 * 2 ^ i ∧ n = 5 + 2 * i ∧ ds.length = 4 ∧ (∀ x ∈ ds, Ds m n x) ∧ DkOk s ∧ C.Perm (dk p q s ++ (z, .lst ds) :: R)) ⟨5, 5, four, s2, rfl, rfl, l4, bd, hd2, .refl _⟩ ?_ ?_
  · rintro i d u C nx2 hi ⟨m, n, ds, s, e1, e2, l4, hx, hd, pm⟩ hnx
    have hi2 := (List.getElem?_eq_some_iff.mp hi).1
    rw [rangeD_len] at hi2
    have hi3 : i = 0 ∨ i = 1 := by omega
    have e3 : m ≤ 13 ∧ 3 ≤ m := by rcases hi3 with rfl | rfl <;> omega
    exact ⟨trivial, p_law_l3 T pm hd l4 hx (by omega) (by omega) (by omega) (by omega) fun ds' s' C' l4' hx' hd' pm' => hnx _ _ ⟨m + m + 3, n + 2, ds', s', by rw [Nat.pow_succ]; omega, by omega, l4', hx', hd', pm'⟩⟩
  · rintro u C ⟨m, n, ds, s, e1, e2, l4, hx, hd, pm⟩
    rw [rangeD_len] at e1 e2
    have hi3 : (1 + (k : Int)).toNat = 1 ∨ (1 + (k : Int)).toNat = 2 := by omega
    have e3 : m ≤ 29 ∧ n ≤ 9 := by rcases hi3 with h | h <;> rw [h] at e1 e2 <;> omega
    refine ⟨trivial, ?_⟩
    match ds, l4, hx, pm with
    | [d1, d2, d3, d4], _, hx, pm =>
      have dt : ∀ x ∈ [d1, d2, d3, d4], Dt 12 x := fun x hm => ((hx x hm).dt (by omega)).mono (by omega)
      exact p_law_a4 T (dt d1 (by simp)) (dt d2 (by simp)) (dt d3 (by simp)) (dt d4 (by simp)) pm (h s C hd ⟨_, pm⟩)
end
theorem p_law (T : Tp P K mg) {ns : List Int} {Qx : QX} {Q : QE} (hl : ns.length ≤ 63) (hq : ∀ C', Q (.bl true) C') : w_law T (.lst (ns.map .int)) Qx Q [] := by
  unfold w_law
  walk_at "g"
  refine c_dealS T hl (by decide) (by decide) fun p q s hd => ?_
  rw [List.append_nil]
  walk_at "g"
  refine loop_inv (fun _ _ C => ∃ s R, DkOk s ∧ C.Perm (dk p q s ++ R)) ⟨s, [], hd, by rw [List.append_nil]⟩ ?_ ?_
  · rintro i d u C nx hi ⟨s, R, hd, pm⟩ hn
    exact ⟨trivial, p_law_l1 T pm hd fun s C' hs ⟨R', pm'⟩ => hn _ _ ⟨s, R', hs, pm'⟩⟩
  · rintro u C ⟨s, R, hd, pm⟩
    refine ⟨trivial, ?_⟩
    unfold w_law_a2
    walk_at "g"
    exact drop_id (hq _)
theorem law_ok (T : Tp P K mg) : FnG P w K mg base 14 T.f_law T.d_law ["_law_script"] lawFS :=
  ((ok_law T).imp (F' := lawFS) fun ds C Q Qx ⟨ns, e, hl, hC, hq⟩ => by subst e; subst hC; exact p_law T hl hq).mono (by decide)


end
set_option hygiene true
end Kk

theorem PySem.Challenge.cw_hastypage_k03_books_refused_holds : PySem.Challenge.rw_hastypage_k03_books_refused.Holds := by
  exact Kk.law_of Kk.law_ok

