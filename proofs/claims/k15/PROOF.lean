import PyProof.Rows.All
import Wide.All
import OpenK.AllK
import Wide.FinOn
import HandS.ForMost
import HandS.Exc
import HandS.TryOnly
import HandS.ExcOwn
import HandS.WordsExc
import HandS.ExcCtx
import HandS.SuiteRaise
import HandS.RaiseFrom
import KE.KAsSuite
import HandS.Defaults
import HandS.CallSlots
import HandS.Style
import HandS.TupAny
import HandS.IsInst
import HandS.FStr
import HandS.RaiseMore
import HandS.Ends
import HandS.Codes
import HandS.Iter
import HandS.Walk
import KE.GoesMore
import PyProof.EnumMake
import HandS.Conv
import KE.KSuper
import KE.KExcSuper
import HandS.ExcInit
import HandS.ExcField
import HandS.HotCalls
import HandS.ExcIs
import KE.KExcIs
import HandS.ClsMeth
import HandS.Text
import HandS.Dict
import HandS.DictComp
import KE.KStar
import HandS.Flow
import HandS.Strs
import PyProof.FactsAll.tuple_0
import PyProof.FactsAll.tuple_2
import HandS.OwnEq
import KE.KOpsOwn
import PyProof.RulesMatch
import PyProof.DictUpdate
import PyProof.NeKinds
import HandS.Property
import HandS.SortInts
import HandS.Head2
import HandS.HeadHook2
import PySem.Challenge.RW_hastypage_k15_pages_read
set_option Elab.async false
set_option linter.all false
set_option maxRecDepth 100000
set_option maxHeartbeats 2000000
namespace Tr
open PySem L2

inductive D where
  | non
  | bl (b : Bool)
  | int (i : Int)
  | str (s : Str)
  | lst (ds : List D)
  | tup (ds : List D)
  | dic (ks : List Key) (ds : List D)
  | ins (C : Addr) (ns : List Str) (ds : List D)
  | raw (v : V)
  | tpn (ds : List D)

def NdT (H : Hp) (a : Addr) (vs : List V) : Prop := ∃ o, H a = some (.frz o (.tup vs)) ∧ o.dict = none

mutual
/-- the value v is the datum d -/
def Rep (K : W.Frag) (H : Hp) : D → V → Prop
  | .non, v => v = .non
  | .bl b, v => v = .bl b
  | .int i, v => v = .int i
  | .str s, v => v = .str s
  | .lst ds, v => ∃ a vs, v = .ref a ∧ SqL K H a vs ∧ Reps K H ds vs
  | .tup ds, v => ∃ a vs, v = .ref a ∧ SqT K H a vs ∧ Reps K H ds vs
  | .dic ks ds, v => ∃ a vs, v = .ref a ∧ Rd H a (.dK (ks.zip vs)) ∧ ks.length = vs.length ∧ Reps K H ds vs
  | .ins C ns ds, v => ∃ a dx vs, v = .ref a ∧ H a = some (.ins C dx (ns.zip vs)) ∧ ns.length = vs.length ∧ Reps K H ds vs
  | .raw w, v => v = w
  | .tpn ds, v => ∃ a vs, v = .ref a ∧ NdT H a vs ∧ Reps K H ds vs
def Reps (K : W.Frag) (H : Hp) : List D → List V → Prop
  | [], vs => vs = []
  | d :: ds, vs => ∃ v r, vs = v :: r ∧ Rep K H d v ∧ Reps K H ds r
end

theorem Same.rd {H H' : Hp} {a : Addr} {u : HO} (e : Same H H') (h : Rd H a u) : Rd H' a u := by
  rcases h with h | ⟨o, h⟩
  · exact .inl (e _ _ h)
  · exact .inr ⟨o, e _ _ h⟩
theorem Same.sqL {K : W.Frag} {H H' : Hp} {a : Addr} {xs : List V} (e : Same H H') (h : SqL K H a xs) : SqL K H' a xs := e.seq h
theorem Same.sqT {K : W.Frag} {H H' : Hp} {a : Addr} {xs : List V} (e : Same H H') (h : SqT K H a xs) : SqT K H' a xs := by
  rcases h with h | h
  · exact .inl (Same.rd e h)
  · exact .inr h

mutual
theorem Rep.mono {K : W.Frag} {H H' : Hp} (e : Same H H') : ∀ {d : D} {v : V}, Rep K H d v → Rep K H' d v
  | .non, _, h => h
  | .bl _, _, h => h
  | .int _, _, h => h
  | .str _, _, h => h
  | .lst _, _, ⟨a, vs, h1, h2, h3⟩ => ⟨a, vs, h1, Same.sqL e h2, Reps.mono e h3⟩
  | .tup _, _, ⟨a, vs, h1, h2, h3⟩ => ⟨a, vs, h1, Same.sqT e h2, Reps.mono e h3⟩
  | .dic _ _, _, ⟨a, vs, h1, h2, h4, h3⟩ => ⟨a, vs, h1, Same.rd e h2, h4, Reps.mono e h3⟩
  | .ins _ _ _, _, ⟨a, dx, vs, h1, h2, h4, h3⟩ => ⟨a, dx, vs, h1, e _ _ h2, h4, Reps.mono e h3⟩
  | .raw _, _, h => h
  | .tpn _, _, ⟨a, vs, h1, ⟨o, h2, h4⟩, h3⟩ => ⟨a, vs, h1, ⟨o, e _ _ h2, h4⟩, Reps.mono e h3⟩
theorem Reps.mono {K : W.Frag} {H H' : Hp} (e : Same H H') : ∀ {ds : List D} {vs : List V}, Reps K H ds vs → Reps K H' ds vs
  | [], _, h => h
  | _ :: _, _, ⟨v, r, h1, h2, h3⟩ => ⟨v, r, h1, Rep.mono e h2, Reps.mono e h3⟩
end

section
variable {K : W.Frag} {H H' : Hp}
theorem Reps.nil : Reps K H [] [] := rfl
theorem Reps.cons {d : D} {v : V} {ds : List D} {vs : List V} (h : Rep K H d v) (t : Reps K H ds vs) : Reps K H (d :: ds) (v :: vs) := ⟨v, vs, rfl, h, t⟩
theorem Reps.length : ∀ {ds : List D} {vs : List V}, Reps K H ds vs → ds.length = vs.length
  | [], _, h => by cases h; rfl
  | _ :: _, _, ⟨_, _, h1, _, h3⟩ => by subst h1; simp [Reps.length h3]
theorem Reps.append : ∀ {ds es : List D} {vs ws : List V}, Reps K H ds vs → Reps K H es ws → Reps K H (ds ++ es) (vs ++ ws)
  | [], _, _, _, h, t => by cases h; exact t
  | _ :: _, _, _, _, ⟨v, r, h1, h2, h3⟩, t => by subst h1; exact ⟨v, _, rfl, h2, Reps.append h3 t⟩
theorem Reps.get : ∀ {ds : List D} {vs : List V} {i : Nat} {d : D}, Reps K H ds vs → ds[i]? = some d → ∃ v, vs[i]? = some v ∧ Rep K H d v
  | [], _, _, _, _, e => by simp at e
  | _ :: _, _, 0, _, ⟨v, r, h1, h2, h3⟩, e => by subst h1; simp at e; subst e; exact ⟨v, rfl, h2⟩
  | _ :: _, _, i + 1, _, ⟨v, r, h1, h2, h3⟩, e => by
    subst h1
    obtain ⟨u, q1, q2⟩ := Reps.get (i := i) h3 (by simpa using e)
    exact ⟨u, by simpa using q1, q2⟩
theorem Reps.take : ∀ {ds : List D} {vs : List V} (n : Nat), Reps K H ds vs → Reps K H (ds.take n) (vs.take n)
  | _, _, 0, _ => by simp; exact Reps.nil
  | [], _, n + 1, h => by cases h; exact Reps.nil
  | _ :: _, _, n + 1, ⟨v, r, h1, h2, h3⟩ => by subst h1; exact ⟨v, _, rfl, h2, Reps.take n h3⟩
theorem Reps.drop : ∀ {ds : List D} {vs : List V} (n : Nat), Reps K H ds vs → Reps K H (ds.drop n) (vs.drop n)
  | _, _, 0, h => by simpa using h
  | [], _, n + 1, h => by cases h; exact Reps.nil
  | _ :: _, _, n + 1, ⟨v, r, h1, h2, h3⟩ => by subst h1; exact Reps.drop n h3
theorem Reps.set {d : D} {v : V} (h : Rep K H d v) : ∀ {ds : List D} {vs : List V} (i : Nat), Reps K H ds vs → Reps K H (ds.set i d) (vs.set i v)
  | [], _, _, q => by cases q; exact Reps.nil
  | _ :: _, _, 0, ⟨_, _, h1, _, h3⟩ => by subst h1; exact ⟨_, _, rfl, h, h3⟩
  | _ :: _, _, i + 1, ⟨_, _, h1, h2, h3⟩ => by subst h1; exact ⟨_, _, rfl, h2, Reps.set h i h3⟩
theorem Reps.one {d : D} {vs : List V} (h : Reps K H [d] vs) : ∃ v, vs = [v] ∧ Rep K H d v := by
  obtain ⟨v, r, h1, h2, h3⟩ := h
  cases h3; exact ⟨v, h1, h2⟩
theorem Reps.two {d e : D} {vs : List V} (h : Reps K H [d, e] vs) : ∃ v w, vs = [v, w] ∧ Rep K H d v ∧ Rep K H e w := by
  obtain ⟨v, r, h1, h2, w, r2, h3, h4, h5⟩ := h
  cases h5; subst h3; exact ⟨v, w, h1, h2, h4⟩
theorem Reps.split : ∀ {ds es : List D} {ws : List V}, Reps K H (ds ++ es) ws → ∃ a b, ws = a ++ b ∧ Reps K H ds a ∧ Reps K H es b
  | [], _, ws, h => ⟨[], ws, rfl, Reps.nil, h⟩
  | _ :: _, _, _, ⟨v, r, h1, h2, h3⟩ => by
    obtain ⟨a, b, e1, e2, e3⟩ := Reps.split h3
    exact ⟨v :: a, b, by rw [h1, e1]; rfl, Reps.cons h2 e2, e3⟩
theorem Reps.ints : ∀ (xs : List Int), Reps K H (xs.map D.int) (xs.map V.int)
  | [] => rfl
  | x :: r => ⟨_, _, rfl, rfl, Reps.ints r⟩
theorem Reps.strs : ∀ (xs : List Str), Reps K H (xs.map D.str) (xs.map V.str)
  | [] => rfl
  | x :: r => ⟨_, _, rfl, rfl, Reps.strs r⟩
theorem Reps.of_strs : ∀ {xs : List Str} {vs : List V}, Reps K H (xs.map D.str) vs → vs = xs.map V.str
  | [], _, h => h
  | x :: r, _, ⟨_, _, h1, h2, h3⟩ => by subst h1; rw [Reps.of_strs h3, h2]; rfl
end

inductive Cell where
  | lst (ds : List D)
  | dK (ks : List Key) (ds : List D)
  | ins (C : Addr) (ns : List Str) (ds : List D)
abbrev Cells := List (Addr × Cell)
def CellOk (K : W.Frag) (H0 H : Hp) (a : Addr) : Cell → Prop
  | .lst ds => ∃ vs, H a = some (.lst vs) ∧ Reps K H0 ds vs
  | .dK ks ds => ∃ vs, H a = some (.dK (ks.zip vs)) ∧ ks.length = vs.length ∧ Reps K H0 ds vs
  | .ins C ns ds => ∃ dx vs, H a = some (.ins C dx (ns.zip vs)) ∧ ns.length = vs.length ∧ Reps K H0 ds vs
def Dom (C : Cells) (a : Addr) : Prop := ∃ c, (a, c) ∈ C
structure CellsR (K : W.Frag) (H0 : Hp) (C : Cells) (H : Hp) : Prop where
  same : Same H0 H
  free : ∀ a, Dom C a → H0 a = none
  ok : ∀ a c, (a, c) ∈ C → CellOk K H0 H a c
  nd : (C.map (·.1)).Nodup
theorem CellOk.some {K : W.Frag} {H0 H : Hp} {a : Addr} {c : Cell} (h : CellOk K H0 H a c) : H a ≠ none := by
  cases c with
  | lst ds => obtain ⟨_, e, _⟩ := h; rw [e]; simp
  | dK ks ds => obtain ⟨_, e, _⟩ := h; rw [e]; simp
  | ins C ns ds => obtain ⟨_, _, e, _⟩ := h; rw [e]; simp
theorem CellOk.mono {K : W.Frag} {H0 H0' H H' : Hp} {a : Addr} {c : Cell} (h : CellOk K H0 H a c) (e : Same H0 H0') (ha : H' a = H a) : CellOk K H0' H' a c := by
  cases c with
  | lst ds => obtain ⟨vs, q, r⟩ := h; exact ⟨vs, ha.trans q, r.mono e⟩
  | dK ks ds => obtain ⟨vs, q, l, r⟩ := h; exact ⟨vs, ha.trans q, l, r.mono e⟩
  | ins C ns ds => obtain ⟨dx, vs, q, l, r⟩ := h; exact ⟨dx, vs, ha.trans q, l, r.mono e⟩
structure Stp (H0 : Hp) (C : Cells) (H : Hp) (H0' : Hp) (C' : Cells) (H' : Hp) : Prop where
  base : Same H0 H0'
  fr : ∀ a o, H a = some o → ¬ Dom C a → H' a = some o
  own : ∀ a, H a ≠ none → H0 a = none → ¬ Dom C a → H0' a = none ∧ ¬ Dom C' a
theorem Stp.refl (H0 : Hp) (C : Cells) (H : Hp) : Stp H0 C H H0 C H := ⟨Same.refl _, fun _ _ h _ => h, fun _ _ h n => ⟨h, n⟩⟩
theorem Stp.trans {K : W.Frag} {H0 H1 H2 HA HB HC : Hp} {C0 C1 C2 : Cells} (a : Stp H0 C0 HA H1 C1 HB) (r : CellsR K H1 C1 HB) (b : Stp H1 C1 HB H2 C2 HC) : Stp H0 C0 HA H2 C2 HC where
  base := a.base.trans b.base
  fr := fun x o h n => by
    have h1 := a.fr x o h n
    refine b.fr x o h1 fun d => ?_
    by_cases e : H0 x = none
    · exact (a.own x (by rw [h]; simp) e n).2 d
    · obtain ⟨u, hu⟩ := Option.ne_none_iff_exists'.mp e
      have := r.free x d
      rw [a.base x u hu] at this; cases this
  own := fun x h e n => by
    obtain ⟨q1, q2⟩ := a.own x h e n
    obtain ⟨o, ho⟩ := Option.ne_none_iff_exists'.mp h
    exact b.own x (by rw [a.fr x o ho n]; simp) q1 q2

section
variable {K : W.Frag} {H0 H : Hp} {C : Cells} {p : Addr} {o : HO}
theorem CellsR.nn (r : CellsR K H0 C H) (hp : H p = Option.none) : H0 p = Option.none := r.same.free hp
theorem CellsR.notDom (r : CellsR K H0 C H) (hp : H p = none) : ¬ Dom C p := fun ⟨c, hc⟩ => (r.ok p c hc).some hp
theorem stp_new (r : CellsR K H0 C H) (hp : H p = none) : Stp H0 C H (upd H0 p o) C (upd H p o) ∧ CellsR K (upd H0 p o) C (upd H p o) := by
  have n0 := r.nn hp
  have s0 : Same H0 (upd H0 p o) := fun a u h => by rw [upd_ne (ne_of_none h n0)]; exact h
  refine ⟨⟨s0, fun a u h _ => by rw [upd_ne (ne_of_none h hp)]; exact h, fun a h e n => ⟨?_, n⟩⟩, ⟨fun a u h => ?_, fun a d => ?_, fun a c hc => ?_, r.nd⟩⟩
  · rw [upd_ne (show a ≠ p from fun z => h (by rw [z]; exact hp))]; exact e
  · by_cases q : a = p
    · subst q; rw [upd_same] at h ⊢; exact h
    · rw [upd_ne q] at h ⊢; exact r.same a u h
  · rw [upd_ne (show a ≠ p from fun z => r.notDom hp (by rw [← z]; exact d))]; exact r.free a d
  · exact (r.ok a c hc).mono s0 (upd_ne fun z => (r.ok a c hc).some (z ▸ hp))
theorem stp_cell {c : Cell} (r : CellsR K H0 C H) (hp : H p = none) (ok : CellOk K H0 (upd H p o) p c) : Stp H0 C H H0 ((p, c) :: C) (upd H p o) ∧ CellsR K H0 ((p, c) :: C) (upd H p o) := by
  have n0 := r.nn hp
  refine ⟨⟨Same.refl _, fun a u h _ => by rw [upd_ne (ne_of_none h hp)]; exact h, fun a h e n => ⟨e, fun ⟨c', hc⟩ => ?_⟩⟩, ⟨fun a u h => ?_, fun a d => ?_, fun a c' hc => ?_, ?_⟩⟩
  · rcases List.mem_cons.mp hc with z | z
    · injection z with z1 _; exact h (z1 ▸ hp)
    · exact n ⟨c', z⟩
  · rw [upd_ne (ne_of_none h n0)]; exact r.same a u h
  · obtain ⟨c', hc⟩ := d
    rcases List.mem_cons.mp hc with z | z
    · injection z with z1 _; subst z1; exact n0
    · exact r.free a ⟨c', z⟩
  · rcases List.mem_cons.mp hc with z | z
    · injection z with z1 z2; subst z1; subst z2; exact ok
    · exact (r.ok a c' z).mono (Same.refl _) (upd_ne fun q => (r.ok a c' z).some (q ▸ hp))
  · rw [List.map_cons, List.nodup_cons]
    refine ⟨fun hm => ?_, r.nd⟩
    obtain ⟨⟨a, c'⟩, h1, h2⟩ := List.mem_map.mp hm
    simp only at h2; subst h2
    exact r.notDom hp ⟨c', h1⟩
theorem dom_set {i : Nat} {c c' : Cell} {a : Addr} (hi : C[i]? = some (p, c)) : Dom (C.set i (p, c')) a ↔ Dom C a := by
  constructor
  · rintro ⟨x, hx⟩
    obtain ⟨j, hj⟩ := List.mem_iff_getElem?.mp hx
    rw [List.getElem?_set] at hj
    split at hj
    · split at hj
      · cases hj; exact ⟨c, List.mem_iff_getElem?.mpr ⟨i, hi⟩⟩
      · cases hj
    · exact ⟨x, List.mem_iff_getElem?.mpr ⟨j, hj⟩⟩
  · rintro ⟨x, hx⟩
    obtain ⟨j, hj⟩ := List.mem_iff_getElem?.mp hx
    by_cases e : i = j
    · subst e; rw [hi] at hj; cases hj
      exact ⟨c', List.mem_iff_getElem?.mpr ⟨i, by rw [List.getElem?_set_self (List.getElem?_eq_some_iff.mp hi).1]⟩⟩
    · exact ⟨x, List.mem_iff_getElem?.mpr ⟨j, by rw [List.getElem?_set_ne e]; exact hj⟩⟩
theorem stp_write {i : Nat} {c c' : Cell} (r : CellsR K H0 C H) (hi : C[i]? = some (p, c)) (ok : CellOk K H0 (upd H p o) p c') :
    Stp H0 C H H0 (C.set i (p, c')) (upd H p o) ∧ CellsR K H0 (C.set i (p, c')) (upd H p o) := by
  have hm : (p, c) ∈ C := List.mem_iff_getElem?.mpr ⟨i, hi⟩
  have n0 := r.free p ⟨c, hm⟩
  refine ⟨⟨Same.refl _, fun a u h n => by rw [upd_ne (show a ≠ p from fun z => n ⟨c, by rw [z]; exact hm⟩)]; exact h, fun a h e n => ⟨e, fun d => n ((dom_set hi).mp d)⟩⟩, ⟨fun a u h => ?_, fun a d => r.free a ((dom_set hi).mp d), fun a c2 hc => ?_, ?_⟩⟩
  · rw [upd_ne (ne_of_none h n0)]; exact r.same a u h
  · obtain ⟨j, hj⟩ := List.mem_iff_getElem?.mp hc
    rw [List.getElem?_set] at hj
    split at hj
    · split at hj
      · cases hj; exact ok
      · cases hj
    · rename_i hne
      have hc2 : (a, c2) ∈ C := List.mem_iff_getElem?.mpr ⟨j, hj⟩
      refine (r.ok a c2 hc2).mono (Same.refl _) (upd_ne fun z => hne ?_)
      subst z
      have h1 : (C.map (·.1))[i]? = some a := by rw [List.getElem?_map, hi]; rfl
      have h2 : (C.map (·.1))[j]? = some a := by rw [List.getElem?_map, hj]; rfl
      obtain ⟨l1, e1⟩ := List.getElem?_eq_some_iff.mp h1
      obtain ⟨l2, e2⟩ := List.getElem?_eq_some_iff.mp h2
      exact (List.getElem_inj r.nd).mp (e1.trans e2.symm)
  · have : (C.set i (p, c')).map (·.1) = C.map (·.1) := by
      rw [List.map_set]
      apply List.ext_getElem?
      intro j
      rw [List.getElem?_set]
      split
      · rename_i e; subst e
        rw [List.getElem?_map, hi]
        have := (List.getElem?_eq_some_iff.mp hi).1
        simp [this]
      · rfl
    rw [this]; exact r.nd
end
end Tr

set_option maxHeartbeats 4000000
namespace Tr
open PySem L2 PySem.Spec PyProof.Rows
inductive Links (B : Heap) (H : Hp) : Nat → Value → Prop
  | done : Links B H 0 .none
  | more {x : Addr} {o : Obj} {vs : Array Value} {u : Value} {n : Nat} : B.get? x = some o → o.data = .fields vs → H x = none → vs[2]? = some u → Links B H n u → Links B H (n + 1) (.ref x)
theorem Links.mono {B B' : Heap} {H H' : Hp} {n : Nat} {v : Value} (l : Links B H n v) (b : ∀ x o, B.get? x = some o → H x = none → (∃ vs, o.data = .fields vs) → B'.get? x = some o ∧ H' x = none) : Links B' H' n v := by
  induction l with
  | done => exact .done
  | more g d h i _ ih =>
    obtain ⟨g', h'⟩ := b _ _ g h ⟨_, d⟩
    exact .more g' d h' i ih
def Zw (B : Heap) (H : Hp) (cls : Value) (d : Option Addr) (o : Obj) : Prop := Zc cls d o ∧ ∀ vs : Array Value, o.data = .fields vs → ∃ u n, vs[2]? = some u ∧ Links B H n u
theorem Zw.steady {B : Heap} {H : Hp} {cls : Value} {d : Option Addr} : PXN.Steady1 (Zw B H cls d) := fun o v h => by
  refine ⟨⟨PXN.steady_cls o v h.1.1, PXN.steady_dict o v h.1.2⟩, fun vs e => ?_⟩
  obtain ⟨c, dd, dt, sl⟩ := o
  cases dt with
  | fields ws =>
    have e2 : ws.setIfInBounds 1 v = vs := Data.fields.inj e
    obtain ⟨u, n, h1, h2⟩ := h.2 ws rfl
    refine ⟨u, n, ?_, h2⟩
    rw [← e2, ← h1]
    first
    | exact Array.getElem?_setIfInBounds_ne (by decide)
    | simp [Array.getElem?_setIfInBounds]
  | _ => first | exact Data.noConfusion e | cases e
def AirX (X : Cx) (W : WX) (u : Value) (t : Shared) : Prop :=
  ∃ (e : Addr) (B : Heap) (s₀ : Shared) (pl : List (Addr × Obj)) (σ : L2.St) (H : Hp) (cls : Value) (d : Option Addr), u = .ref e ∧ Inv X pl σ H s₀ ∧ (∀ b o, s₀.heap.get? b = some o → b ∉ frs X.stack → B.get? b = some o) ∧
    s₀.heap.UpToSlots t.heap ∧ L2.Sky B X.stack e (Zw B H cls d) X.env.locals t.heap ∧ H e = none ∧ t.os = s₀.os ∧ AllBare t.gens ∧ W cls d σ H
def TkX (X : Cx) (W : WX) : Prop := ∀ u t, AirX X W u t → X.xe u t
theorem TkX.imp {X : Cx} {W W' : WX} (k : TkX X W) (h : ∀ c d σ H, W' c d σ H → W c d σ H) : TkX X W' :=
  fun u t ⟨e, B, s₀, pl, σ, H, cls, d, q1, q2, q3, q4, q5, q6, q7, q8, q9⟩ => k u t ⟨e, B, s₀, pl, σ, H, cls, d, q1, q2, q3, q4, q5, q6, q7, q8, h _ _ _ _ q9⟩
def CallX (P : Program) (w : World) (l : List Env) (H : Hp) (s : Shared) (E : XK) (u : Value) (t : Shared) : Prop :=
  ∃ (e : Addr) (B : Heap) (H' : Hp) (cls : Value) (d : Option Addr), u = .ref e ∧ HandSPX.FlyingZ B l e (Zw B H' cls d) t.heap ∧ HOk P w H' B ∧ UB (frs l) H H' s.heap B t.heap ∧ H' e = none ∧ t.os = s.os ∧ AllBare t.gens ∧ E cls d H'
section
variable {X : Cx} {pl : List (Addr × Obj)} {σ : L2.St} {H : Hp} {s₀ s t : Shared} {B : Heap} {W : WX} {E : XK}
theorem AirX.of_call (I : Inv X pl σ H s) (hW : ∀ cls d H', E cls d H' → W cls d σ H') {u : Value} (c : CallX X.prog X.w X.stack H s E u t) : AirX X W u t := by
  obtain ⟨e, B, H', cls, d, rfl, fl, hok, ub, na, os, ag, hE⟩ := c
  -- the state without the exception: the ground and the frames
  obtain ⟨G, in_, out⟩ := L2.restrict t.heap fun b => (B.get? b).isSome || decide (b ∈ frs X.stack)
  have ground : ∀ b o, B.get? b = some o → G.get? b = some o := fun b o q => (in_ b (by rw [q]; rfl)).trans (fl.1 b o q)
  have frame : ∀ b, b ∈ frs X.stack → G.get? b = t.heap.get? b := fun b hb => in_ b (by rw [decide_eq_true hb, Bool.or_true])
  have back : ∀ b o, G.get? b = some o → t.heap.get? b = some o ∧ ((B.get? b).isSome = true ∨ b ∈ frs X.stack) := fun b o q => by
    by_cases hb : ((B.get? b).isSome || decide (b ∈ frs X.stack)) = true
    · refine ⟨(in_ b hb).symm.trans q, ?_⟩
      rcases Bool.or_eq_true_iff.mp hb with z | z
      · exact .inl z
      · exact .inr (of_decide_eq_true z)
    · rw [out b (by simpa using hb)] at q; cases q
  have J : Inv X pl σ H' { s with heap := G, gens := t.gens, drawn := t.drawn, toks := t.toks } := by
    refine I.call (ch := []) ⟨?_, ?_, ?_, ?_, ub.tups, ub.frzs, ub.tbls⟩ (hok.kept ground) ag fun _ z => nomatch z
    · exact fun b o q n hb _ => ground b o (ub.keep b o q n hb)
    · exact fun b o q n hb _ => (ub.slot b o q hb).elim fun sl z => ⟨sl, (frame b hb).trans z⟩
    · exact fun b o q n _ => ub.free b o q n
    · intro b o q _
      by_cases hb : b ∈ frs X.stack
      · exact (ub.slot b o q hb).elim fun sl z => ⟨_, (frame b hb).trans z⟩
      · exact (ub.there b o q hb).elim fun o' z => ⟨o', ground b o' z⟩
  refine ⟨e, B, _, pl, σ, H', cls, d, rfl, J, fun b o q hb => ?_, Heap.UpToSlots.of_keeps fun b o q => (back b o q).1, .inr (.inl fl), na, os, ag, hW _ _ _ hE⟩
  obtain ⟨q1, q2⟩ := back b o q
  obtain ⟨o', q3⟩ := Option.isSome_iff_exists.mp (q2.resolve_right hb)
  have q4 := (fl.1 b o' q3).symm.trans q1
  cases q4
  exact q3
theorem AirX.new {e : Addr} {oe : Obj} {vs : Array Value} {cls u : Value} {d : Option Addr} {n : Nat} (I : Inv X pl σ H s₀) (k : ∀ b o, s₀.heap.get? b = some o → t.heap.get? b = some o) (hn : s₀.heap.get? e = none) (he : t.heap.get? e = some oe)
    (hz : Zc cls d oe) (hd : oe.data = .fields vs) (h1 : vs[1]? = some .none) (h2 : vs[2]? = some u) (hl : Links (PySem.W.hideAll s₀.heap (frs X.stack)) H n u) (na : H e = none) (os : t.os = s₀.os) (ag : AllBare t.gens) (w : W cls d σ H) : AirX X W (.ref e) t := by
  have e0 : (PySem.W.hideAll s₀.heap (frs X.stack)).get? e = none := by
    rcases q : (PySem.W.hideAll s₀.heap (frs X.stack)).get? e with _ | o
    · rfl
    · exact absurd ((PySem.W.of_hideAll _ q).symm.trans hn) (by simp)
  refine ⟨e, _, s₀, pl, σ, H, cls, d, rfl, I, fun b o q hb => PySem.W.hideAll_get _ q hb, .of_keeps k, .inl ⟨fun b o q => k b o (PySem.W.of_hideAll _ q), e0, ?_, oe, vs, he, ⟨hz, fun ws q => ?_⟩, hd, h1⟩, na, os, ag, w⟩
  · exact .of_keeps (fun b o q _ => ⟨o, k b o q, rfl⟩) (L2.funFrames_none I.stack fun b hb => PySem.W.hideAll_none _ hb)
  · rw [hd] at q; cases q
    exact ⟨u, n, h2, hl⟩
theorem AirX.leave (hs : X.stack = X.env :: X.outer) (hf : X.env.frame = some X.env.locals) (hex : X.ex = []) {E₁ : Value → Shared → Prop} (hW : ∀ cls d σ H, W cls d σ H → E cls d H) {u : Value} (x : AirX X W u t) :
    wpAny (model X.prog X.w) X.A (leaving X.env u) (fun _ t' => CallX X.prog X.w X.outer X.H_0 X.s_0 E u t') E₁ t := by
  obtain ⟨e, B, s₀, pl, σ, H, cls, d, rfl, I, nb, up, sky, na, os, ag, w⟩ := x
  have hfr : X.A.frames = some (X.env :: X.outer) := hs ▸ I.ok.frames
  have here : ∀ b o, X.s_0.heap.get? b = some o → b ∉ X.fs → b ∉ frs X.stack := fun b o q hb hm => by
    rcases List.mem_cons.mp (I.stkSub b hm) with z | z
    · exact absurd (Nat.lt_of_lt_of_le (z ▸ Heap.lt_size q) I.ok.above) (Nat.lt_irrefl _)
    · exact hb z
  have no : ∀ b, b ∉ X.ex := fun b hb => by rw [hex] at hb; exact nomatch hb
  have out : ∀ h', HandSPX.FlyingZ B X.outer e (Zw B H cls d) h' → t.heap.UpToSlots h' → CallX X.prog X.w X.outer X.H_0 X.s_0 E (.ref e) { t with heap := h' } := fun h' fl up' => by
    refine ⟨e, B, H, cls, d, rfl, fl, I.inGround nb, ⟨?_, ?_, ?_, ?_, I.base.tups, I.base.frzs, I.base.tbls⟩, na, os.trans I.os, ag, hW _ _ _ _ w⟩
    · exact fun b o q n hb => nb b o (I.base.keep b o q n hb (no b)) (here b o q hb)
    · intro b o q hb
      obtain ⟨_, o₁, q₁, hnf⟩ := I.ok.funs.mem hb
      cases q.symm.trans q₁
      obtain ⟨sl, r1⟩ := I.base.slot b o q (I.ok.frf b hb) hb (no b)
      obtain ⟨sl2, r2⟩ := up b _ r1 hnf
      exact (up' b _ r2 hnf).elim fun sl3 r3 => ⟨sl3, r3⟩
    · exact fun b o q n => I.base.free b o q n (no b)
    · exact fun b o q hb => (I.base.there b o q (no b)).elim fun o' r => ⟨o', nb b o' r (here b o q hb)⟩
  rw [hs] at sky
  rcases sky with ⟨hB, hn, hl, oe, vs, he, hz, hd, h1⟩ | fl | hd
  · exact PXN.leaving_firstZ Zw.steady hfr hl hf he hB hn hd h1 hz out
  · exact PXN.leaves_onZ Zw.steady hfr hf fl out
  · exact HandSPX.leaves_heldZ hf hd out
theorem tkX_of (hs : X.stack = X.env :: X.outer) (hf : X.env.frame = some X.env.locals) (hex : X.ex = []) {E₁ : Value → Shared → Prop}
    (hx : X.xe = fun e s' => wpAny (model X.prog X.w) X.A (leaving X.env e) (fun _ s'' => CallX X.prog X.w X.outer X.H_0 X.s_0 E e s'') E₁ s') : TkX X (fun cls d _ H => E cls d H) := fun u t x => by
  rw [hx]; exact AirX.leave (W := fun cls d _ H => E cls d H) (E := E) hs hf hex (fun _ _ _ _ h => h) x
theorem passX (tk : TkX X W) (σ : L2.St) : PassesAt (CallX X.prog X.w) X σ (L2.WE W σ) := fun _ _ _ e t I c => tk e t (.of_call I (fun _ _ _ h => h) c)
end
theorem ps_raiseX {X : Cx} {W : WX} {e : Expr} {t : L2.St → Hp → XK → Prop} {pos : Pos} (hc : X.calm = true) (tk : TkX X W) (he : L2N.PMk X e t) : PS X (.Raise (some e) none pos) (fun _ σ H => t σ H fun cls d H' => W cls d σ H') := by
  refine ⟨fun pins s σ H D I h => ?_⟩
  show wpAny _ _ (standAt pos >>= fun _ => raiseStmt X.env (some (eval e X.env >>= fun v => standAt pos >>= fun _ => pure v)) none) _ _ _
  refine wpAny_bind (wpAny_standAt (L2.raise_made (I.ok.hd hc) (wpAny_bind (wpAny_mono (he pins s σ H _ I h) (fun u s1 mk => wpAny_bind (wpAny_standAt (wpAny_pure ?_))) fun _ _ x => x))))
  obtain ⟨a, oe, vs, sI, H', cls, d, rfl, J, k, hne, ha, hz, hd, h1, na, os, ag, r, q⟩ := mk
  obtain ⟨r1, r2⟩ := r (model X.prog X.w) s1.heap (J.kIn.keeps k)
  exact ⟨a, oe, vs, cls, rfl, ha, hz.1, hd, h1, r1, r2, tk _ _ (.new J k hne ha ⟨hz.1, hz.2.1⟩ hd h1 (hz.2.2 vs hd) .done na os ag q)⟩
end Tr
namespace Tr
open PySem L2 PySem.Spec PyProof.Rows
section
variable {prog : Program} {w : World} {A : Around} {B : Heap} {H : Hp} {a : Addr}
theorem unchain_links (ha : B.get? a = none) : ∀ (n m : Nat) (o slow : Value) (tg : Bool) (s : Shared) (R : Result → Shared → Prop), Links B H (n + 1) o → Links B H m slow → n + 1 ≤ m → (∀ x ob, B.get? x = some ob → s.heap.get? x = some ob) → R (.ok (.ret .none)) s →
    codeAny (model prog w) A (.builtin "proto.unchain" ⟨[.ref a, o, slow, .bool tg], []⟩) R s := by
  intro n
  induction n with
  | zero =>
    intro m o slow tg s R lo _ _ st q
    cases lo with
    | @more x ob vs u _ g d _ i r =>
      cases r
      refine codeAny_builtin HotX.entry_unchain ?_
      show wpAny _ _ (field (.ref x) 2 >>= _) _ _ s
      refine wpAny_bind (wpAny_field (st _ _ g) d i ?_)
      rw [if_pos (show (Value.none == Value.none) = true from rfl)]
      first
      | exact wpAny_bind (wpAny_pure (wpAny_pure q))
      | exact wpAny_pure q
  | succ n ih =>
    intro m o slow tg s R lo ls hm st q
    cases lo with
    | @more x ob vs u _ g d _ i r =>
      cases m with
      | zero => omega
      | succ m =>
      have lo' := r
      cases r with
      | @more y oy ws u2 _ gy dy _ iy ry =>
        cases ls with
        | @more z oz zs uz _ gz dz _ iz rz =>
          refine codeAny_builtin HotX.entry_unchain ?_
          show wpAny _ _ (field (.ref x) 2 >>= _) _ _ s
          refine wpAny_bind (wpAny_field (st _ _ g) d i ?_)
          rw [if_neg (show ¬ (Value.ref y == Value.none) = true by simp)]
          have nya : y ≠ a := fun e => by rw [e, ha] at gy; cases gy
          have b1 : (Value.ref y == Value.ref a) = false := by
            rw [Bool.eq_false_iff]; intro z; exact nya (Value.ref.inj (eq_of_beq z))
          have on : ∀ (sl : Value) (k : Nat), Links B H k sl → n + 1 ≤ k → (Code.builtin "proto.unchain" ⟨[.ref a, .ref y, sl, .bool !tg], []⟩).quiet = true ∧ codeAny (model prog w) A (.builtin "proto.unchain" ⟨[.ref a, .ref y, sl, .bool !tg], []⟩) R s :=
            fun sl k l hk => ⟨Code.quiet_builtin _ (by decide +kernel), ih k _ sl _ s R lo' l hk st q⟩
          rw [if_neg (show ¬ (Value.ref y == Value.ref a) = true by rw [b1]; decide)]
          by_cases hyz : (Value.ref y == Value.ref z) = true
          · rw [if_pos hyz]
            refine wpAny_bind (wpAny_rule ?_)
            first
            | exact wpAny_bind (wpAny_pure (wpAny_pure q))
            | exact wpAny_pure q
          · rw [if_neg hyz]
            cases tg with
            | true =>
              refine wpAny_bind (wpAny_field (st _ _ gz) dz iz ?_)
              exact wpAny_pure (on uz m rz (by omega))
            | false =>
              refine wpAny_bind (wpAny_pure ?_)
              exact wpAny_pure (on (.ref z) (m + 1) (.more gz dz ‹_› iz rz) (by omega))
end
end Tr
namespace Tr
open PySem L2 PySem.Spec PyProof.Rows
def fromH (h : Heap) (a x1 : Addr) : Heap := (h.update a (Obj.mapFields (·.setIfInBounds 3 (.ref x1)))).update a (Obj.mapFields (·.setIfInBounds 4 (.bool true)))
theorem fromH_at {h : Heap} {a x1 : Addr} {oe : Obj} {vs : Array Value} (ha : h.get? a = some oe) (hd : oe.data = .fields vs) :
    (fromH h a x1).get? a = some ((oe.mapFields (·.setIfInBounds 3 (.ref x1))).mapFields (·.setIfInBounds 4 (.bool true))) ∧ ((oe.mapFields (·.setIfInBounds 3 (.ref x1))).mapFields (·.setIfInBounds 4 (.bool true))).data = .fields ((vs.setIfInBounds 3 (.ref x1)).setIfInBounds 4 (.bool true)) := by
  have k3 := Obj.data_mapFields hd (·.setIfInBounds 3 (Value.ref x1))
  have k4 := Obj.data_mapFields k3 (·.setIfInBounds 4 (Value.bool true))
  exact ⟨Heap.get?_update_self _ (Heap.get?_update_self _ ha (Obj.isFreed_of_fields k3)) (Obj.isFreed_of_fields k4), k4⟩
theorem fromH_other {h : Heap} {a b x1 : Addr} (hne : a ≠ b) : (fromH h a x1).get? b = h.get? b := by
  unfold fromH
  exact (Heap.get?_update_other _ _ hne).trans (Heap.get?_update_other _ _ hne)
section
variable {prog : Program} {w : World} {A : Around} {E : Value → Shared → Prop} {env : Env} {s : Shared} {B : Heap} {H : Hp} {x1 : Addr} {n : Nat}
theorem not_type {a : Addr} {oe : Obj} {vs : Array Value} {s : Shared} {Q : Bool → Shared → Prop} (ha : s.heap.get? a = some oe) (hd : oe.data = .fields vs) (q : Q false s) : wpAny (model prog w) A (isType (.ref a)) Q E s := by
  simp only [isType, loadHead]
  refine wpAny_bind (wpAny_loadPart ha ?_)
  rw [hd]; exact wpAny_pure q
theorem exc_value {a : Addr} {oe : Obj} {vs : Array Value} {s : Shared} {m : String} {Q : Value → Shared → Prop} (ha : s.heap.get? a = some oe) (hd : oe.data = .fields vs) (L : PySem.W.Looks (model prog w) s.heap (isSubtype oe.cls (.type "BaseException")) true) (q : Q (.ref a) s) :
    wpAny (model prog w) A (excFromValue (.ref a) m) Q E s := by
  have LT : PySem.W.Looks (model prog w) s.heap (typeOf (.ref a)) oe.cls := fun A Q E s k q => wpAny_typeOf_ref (k _ _ ha) q
  have LI : PySem.W.Looks (model prog w) s.heap (isInstance (.ref a) (.type "BaseException")) true := LT.andThen L
  unfold excFromValue isExcClass
  refine wpAny_bind (wpAny_bind (not_type ha hd ?_))
  simp only [Bool.false_eq_true, if_false]
  refine wpAny_pure ?_
  simp only [Bool.false_eq_true, if_false]
  refine wpAny_bind (LI.here ?_)
  simp only [if_true]
  exact wpAny_pure q
theorem raiseNew_links {α : Type} {a : Addr} {oe : Obj} {vs : Array Value} {s : Shared} {Q : α → Shared → Prop} (hh : A.handled = some (.ref x1)) (hl : Links B H (n + 1) (.ref x1)) (hB : ∀ b o, B.get? b = some o → s.heap.get? b = some o) (nB : B.get? a = none)
    (ha : s.heap.get? a = some oe) (hd : oe.data = .fields vs) (hi : 2 < vs.size) (hE : E (.ref a) { s with heap := s.heap.update a (Obj.mapFields (·.setIfInBounds 2 (.ref x1))) }) : wpAny (model prog w) A (raiseNew (.ref a) : Sem α) Q E s := by
  have hne : x1 ≠ a := fun e => by
    cases hl with
    | more g _ _ _ _ => rw [e, nB] at g; cases g
  unfold raiseNew
  refine wpAny_bind (wpAny_handled ?_)
  rw [hh]
  have hb : (Value.ref x1 != Value.ref a) = true := HotX.ref_bne hne
  have walk : ∀ {Q' : Value → Shared → Prop}, Q' .none s → wpAny (model prog w) A (holding [Value.ref a] (runValue (.builtin "proto.unchain" ⟨[.ref a, .ref x1, .ref x1, .bool false], []⟩))) Q' E s := fun {Q'} q =>
    wpAny_holding (wpAny_runValue (unchain_links nB n (n + 1) _ _ false s _ hl hl (Nat.le_refl _) hB q))
  first
  | (show wpAny _ _ (if (Value.ref x1 != Value.ref a) = true then _ else _) _ _ _
     rw [if_pos hb]
     first
     | exact wpAny_bind (walk (wpAny_bind (HotX.chained ha hd hi (wpAny_throw hE))))
     | exact wpAny_bind (wpAny_bind (walk (HotX.chained ha hd hi (wpAny_throw hE)))))
  | (refine wpAny_bind ?_
     show wpAny _ _ (if (Value.ref x1 != Value.ref a) = true then _ else _) _ _ _
     rw [if_pos hb]
     exact wpAny_bind (walk (HotX.chained ha hd hi (wpAny_throw hE))))
theorem raise_from {x c : Sem Value} {Q : Flow → Shared → Prop} (hh : A.handled = some (.ref x1))
    (h : wpAny (model prog w) A x (fun v s₁ => ∃ (a : Addr) (oe o1 : Obj) (vs v1 : Array Value) (B : Heap) (H : Hp) (n : Nat), Links B H (n + 1) (.ref x1) ∧ v = .ref a ∧ s₁.heap.get? a = some oe ∧ oe.data = .fields vs ∧ vs[1]? = some .none ∧ 4 < vs.size ∧ (∀ b o, B.get? b = some o → s₁.heap.get? b = some o) ∧ B.get? a = none ∧ B.get? x1 = some o1 ∧ o1.data = .fields v1 ∧
      (∀ Q' : Value → Shared → Prop, Q' (.ref x1) s₁ → wpAny (model prog w) A c Q' E s₁) ∧
      PySem.W.Looks (model prog w) s₁.heap (isSubtype oe.cls (.type "BaseException")) true ∧ PySem.W.Looks (model prog w) s₁.heap (isSubtype o1.cls (.type "BaseException")) true ∧ PySem.W.Looks (model prog w) (fromH s₁.heap a x1) (typeOf oe.cls) (.type "type") ∧
      E (.ref a) { s₁ with heap := (fromH s₁.heap a x1).update a (Obj.mapFields (·.setIfInBounds 2 (.ref x1))) }) E s) :
    wpAny (model prog w) A (raiseStmt env (some x) (some c)) Q E s := by
  unfold raiseStmt
  dsimp only
  refine wpAny_bind (wpAny_mono h (fun v s₁ h₁ => ?_) fun _ _ x => x)
  obtain ⟨a, oe, o1, vs, v1, B, H, n, hl, rfl, ha, hd, h1, hi, hB, nB, g1, d1, hc, L1, L2, L3, hE⟩ := h₁
  have gx := hB _ _ g1
  have k3 := Obj.data_mapFields hd (·.setIfInBounds 3 (Value.ref x1))
  have ha3 := Heap.get?_update_self (Obj.mapFields (·.setIfInBounds 3 (Value.ref x1))) ha (Obj.isFreed_of_fields k3)
  obtain ⟨ha4, hd4⟩ := fromH_at (x1 := x1) ha hd
  have s4 : 4 < (vs.setIfInBounds 3 (Value.ref x1)).size := by rw [HotX.set_size]; exact hi
  have s2 : 2 < ((vs.setIfInBounds 3 (Value.ref x1)).setIfInBounds 4 (Value.bool true)).size := by rw [HotX.set_size, HotX.set_size]; omega
  have h14 : ((vs.setIfInBounds 3 (Value.ref x1)).setIfInBounds 4 (Value.bool true))[1]? = some Value.none := HotX.set_other (by decide) (HotX.set_other (by decide) h1)
  have hcls4 : ((oe.mapFields (·.setIfInBounds 3 (.ref x1))).mapFields (·.setIfInBounds 4 (.bool true))).cls = oe.cls := by rw [Obj.cls_mapFields, Obj.cls_mapFields]
  have LT4 : PySem.W.Looks (model prog w) (fromH s₁.heap a x1) (typeOf (.ref a)) oe.cls := fun A Q E s k q => wpAny_typeOf_ref (k _ _ ha4) (by rw [hcls4]; exact q)
  have hB4 : ∀ b o, B.get? b = some o → (fromH s₁.heap a x1).get? b = some o := fun b o q => by
    rw [fromH_other (fun e => by rw [← e, nB] at q; cases q)]; exact hB b o q
  have rest : wpAny (model prog w) A (do
      let b ← isType (.ref a)
      if b = true then do
        let e ← holding [.ref a] (raisedFor (.ref a) (.ref a))
        setFlight e none
        raiseNew e
      else do
        let e ← raisedInstance (.ref a)
        setFlight e none
        raiseNew e : Sem Flow) Q E { s₁ with heap := fromH s₁.heap a x1 } := by
    refine wpAny_bind (not_type ha4 hd4 ?_)
    simp only [Bool.false_eq_true, if_false]
    unfold raisedInstance
    refine wpAny_bind (wpAny_bind (LT4.here (wpAny_bind (L3.here ?_))))
    rw [if_pos (beq_self_eq_true _)]
    refine wpAny_pure ?_
    unfold setFlight
    refine wpAny_bind (wpAny_bind (wpAny_field ha4 hd4 h14 ?_))
    rw [if_neg (by decide)]
    refine wpAny_pure ?_
    exact raiseNew_links hh hl hB4 nB ha4 hd4 s2 hE
  refine wpAny_bind (wpAny_holding (hc _ (wpAny_bind (wpAny_pure ?_))))
  dsimp only
  refine wpAny_bind (wpAny_holding (exc_value ha hd L1 ?_))
  rw [if_neg (show ¬ (Value.ref x1 == Value.none) = true by simp)]
  refine wpAny_bind (wpAny_holding (exc_value gx d1 L2 ?_))
  refine wpAny_bind (wpAny_setField ha hd (by omega) (wpAny_bind (wpAny_setField ha3 k3 s4 ?_)))
  exact rest
end
end Tr
namespace Tr
open PySem L2 PySem.Spec PyProof.Rows
inductive Tied (pl : List (Addr × Obj)) : Nat → Value → Prop
  | done : Tied pl 0 .none
  | more {x : Addr} {o : Obj} {vs : Array Value} {u : Value} {n : Nat} : (x, o) ∈ pl → o.data = .fields vs → vs[2]? = some u → Tied pl n u → Tied pl (n + 1) (.ref x)
theorem Tied.mono {pl pl' : List (Addr × Obj)} {n : Nat} {v : Value} (t : Tied pl n v) (sub : ∀ p ∈ pl, p ∈ pl') : Tied pl' n v := by
  induction t with
  | done => exact .done
  | more m d i _ ih => exact .more (sub _ m) d i ih
theorem Links.tied {B : Heap} {H : Hp} {n : Nat} {v : Value} (l : Links B H n v) : ∃ cp : List (Addr × Obj), Tied cp n v ∧ ∀ p ∈ cp, B.get? p.1 = some p.2 ∧ H p.1 = none ∧ ∃ vs, p.2.data = .fields vs := by
  induction l with
  | done => exact ⟨[], .done, fun _ h => nomatch h⟩
  | @more x o vs u n g d h i _ ih =>
    obtain ⟨cp, t, a⟩ := ih
    refine ⟨(x, o) :: cp, .more List.mem_cons_self d i (t.mono fun p hp => List.mem_cons_of_mem _ hp), fun p hp => ?_⟩
    rcases List.mem_cons.mp hp with rfl | hp
    · exact ⟨g, h, _, d⟩
    · exact a p hp
abbrev sX (X : Cx) (a : Addr) (pl : List (Addr × Obj)) (xe : Value → Shared → Prop) : Cx := { X with A := X.A.mark (some (.ref a)), calm := false, pn := pl, xe := xe }
section
variable {X : Cx} {pins : List (Addr × Obj)} {σ : L2.St} {H : Hp} {s : Shared} {a : Addr} {pl : List (Addr × Obj)} {xe : Value → Shared → Prop}
theorem ok_sX (ok : X.Ok) : (sX X a pl xe).Ok := (ok.suite a pl).toTry pl xe
theorem Inv.sX (I : Inv X pins σ H s) {cp : List (Addr × Obj)} (hcp : ∀ p ∈ cp, s.heap.get? p.1 = some p.2 ∧ H p.1 = none ∧ p.1 ≠ X.env.locals ∧ p.1 ∉ X.fs ∧ ∀ v, p.2.data ≠ .cell v) : Inv (Tr.sX X a (cp ++ (X.pn ++ pins)) xe) [] σ H s := by
  refine ⟨ok_sX I.ok, I.os, I.bare, I.base, I.loc, I.cell, I.free, I.freeC, fun p hp => ?_, I.hok, I.len⟩
  rw [List.append_nil] at hp
  exact (List.mem_append.mp hp).elim (hcp p) (I.pin p)
theorem Inv.unsX {pn' : List (Addr × Obj)} (I : Inv (Tr.sX X a pl xe) pn' σ H s) (ok : X.Ok) (sub : ∀ p ∈ X.pn ++ pins, p ∈ pl) : Inv X pins σ H s :=
  ⟨ok, I.os, I.bare, I.base, I.loc, I.cell, I.free, I.freeC, fun p hp => I.pin p (List.mem_append_left _ (sub p hp)), I.hok, I.len⟩
theorem off_frames (I : Inv X pins σ H s) {b : Addr} (n1 : b ≠ X.env.locals) (n2 : b ∉ X.fs) : b ∉ frs X.stack := fun hm => by
  rcases List.mem_cons.mp (I.stkSub b hm) with z | z
  · exact n1 z
  · exact n2 z
theorem Tied.links (I : Inv X pins σ H s) {n : Nat} {v : Value} (t : Tied X.pn n v) : Links (PySem.W.hideAll s.heap (frs X.stack)) H n v := by
  induction t with
  | done => exact .done
  | more m d i _ ih =>
    obtain ⟨g, h, n1, n2, _⟩ := I.pin _ (List.mem_append_left _ m)
    exact .more (PySem.W.hideAll_get _ g (off_frames I n1 n2)) d h i ih
theorem Inv.grown {t : Shared} (I : Inv X pins σ H s) (k : ∀ b o, s.heap.get? b = some o → t.heap.get? b = some o) (os : t.os = s.os) (ag : AllBare t.gens) : Inv X pins σ H t :=
  I.landed (B := s.heap) (fun _ _ q _ => q) k (.of_keeps k) os ag
end
theorem ps_raiseFrom {X : Cx} {W : WX} {e : Expr} {t : L2.St → Hp → XK → Prop} {x : Str} {p pos : Pos} {i : Nat} {a : Addr} {oe : Obj} {ve : Array Value} {n : Nat} {cls : Value} (hh : X.A.handled = some (.ref a)) (hp : (a, oe) ∈ X.pn) (hdt : oe.data = .fields ve) (ht : Tied X.pn (n + 1) (.ref a))
    (hcl : oe.cls = cls) (hb : PySem.W.subIn X.K cls (.type "BaseException") = some true) (tk : TkX X W) (he : L2H.PMk5 X e t) (hi : X.N[i]? = some x) (hv : Vis X.env.scope x) (hdb : (x == ("__debug__" : Str)) = false := by decide) (hcd : (x == ("__classdict__" : Str)) = false := by decide) :
    PS X (.Raise (some e) (some (.Name x p)) pos) (fun _ σ H => σ[i]? = some (some (.ref a)) ∧ t σ H fun cls d H' => W cls d σ H') := by
  refine ⟨fun pins s σ H D I ⟨hs, h⟩ => ?_⟩
  obtain ⟨g0, h0, n1, n2, _⟩ := I.pin _ (List.mem_append_left _ hp)
  show wpAny _ _ (standAt pos >>= fun _ => raiseStmt X.env (some (eval e X.env >>= fun v => standAt pos >>= fun _ => pure v)) (some (eval (.Name x p) X.env >>= fun v => standAt pos >>= fun _ => pure v))) _ _ _
  refine wpAny_bind (wpAny_standAt (raise_from hh (wpAny_bind (wpAny_mono (he pins s σ H _ I h) (fun u s1 mk => wpAny_bind (wpAny_standAt (wpAny_pure ?_))) fun _ _ x => x))))
  obtain ⟨⟨a2, oe2, vs, sI, H', cls2, d2, rfl, J, k, hne, ha, hz, hd, h1, na, os, ag, r, q⟩, h5⟩ := mk
  have hi5 : 4 < vs.size := h5 a2 oe2 vs rfl ha hd
  obtain ⟨gI, hI, m1, m2, _⟩ := J.pin _ (List.mem_append_left _ hp)
  have LI := ht.links J
  have up : ∀ b o, (PySem.W.hideAll sI.heap (frs X.stack)).get? b = some o → s1.heap.get? b = some o := fun b o z => k b o (PySem.W.of_hideAll _ z)
  have nB : (PySem.W.hideAll sI.heap (frs X.stack)).get? a2 = none := by
    rcases z : (PySem.W.hideAll sI.heap (frs X.stack)).get? a2 with _ | o
    · rfl
    · exact absurd ((PySem.W.of_hideAll _ z).symm.trans hne) (by simp)
  have k4 : ∀ b o, sI.heap.get? b = some o → (fromH s1.heap a2 a).get? b = some o := fun b o z => by
    rw [fromH_other (fun y => by rw [← y, hne] at z; cases z)]; exact k b o z
  obtain ⟨r1, _⟩ := r (model X.prog X.w) s1.heap (J.kIn.keeps k)
  obtain ⟨_, r2⟩ := r (model X.prog X.w) (fromH s1.heap a2 a) (J.kIn.keeps k4)
  have r3 : PySem.W.Looks (model X.prog X.w) s1.heap (isSubtype oe.cls (.type "BaseException")) true := by rw [hcl]; exact PySem.W.looks_subIn (J.kIn.keeps k) hb
  obtain ⟨ha4, hd4⟩ := fromH_at (x1 := a) ha hd
  have J1 : L2.Inv X pins σ H' s1 := Inv.grown J k os ag
  refine ⟨a2, oe2, oe, vs, ve, _, H', n, LI, rfl, ha, hd, h1, hi5, up, nB, PySem.W.hideAll_get _ gI (off_frames J m1 m2), hdt, fun Q' q' => ?_, by rw [hz.1]; exact r1, r3, by rw [hz.1]; exact r2, tk _ _ ?_⟩
  · -- the name of the handled one
    obtain ⟨m, hn, hl⟩ := J1.loc
    obtain ⟨u, ru, l⟩ := hl i x (.ref a) hi hs hv
    cases ru
    have fin : wpAny (model X.prog X.w) X.A (standAt pos >>= fun _ => pure (Value.ref a)) Q' X.xe s1 := wpAny_bind (wpAny_standAt (wpAny_pure q'))
    refine wpAny_bind ?_
    rcases l with ⟨hk, hm⟩ | ⟨hk, c, hc, hcell⟩
    · exact wpAny_Name (wpAny_loadName_local J1.ok.kind hk hn hm fin) hdb
    · rcases hk with hk | hk
      · exact wpAny_Name (wpAny_loadName_cell J1.ok.kind hk hc hcell fin) hdb
      · exact wpAny_Name (wpAny_loadName_free J1.ok.kind hk hc hcell fin hcd) hdb
  · have s2 : 2 < ((vs.setIfInBounds 3 (Value.ref a)).setIfInBounds 4 (Value.bool true)).size := by rw [HotX.set_size, HotX.set_size]; omega
    refine AirX.new J (u := .ref a) (fun b o z => ?_) hne (Heap.get?_update_self _ ha4 (Obj.isFreed_of_fields (Obj.data_mapFields hd4 _))) ⟨?_, ?_⟩ (Obj.data_mapFields hd4 _) (HotX.set_other (by decide) (HotX.set_other (by decide) (HotX.set_other (by decide) h1))) ?_ LI na os ag q
    · show ((fromH s1.heap a2 a).update a2 _).get? b = some o
      rw [Heap.get?_update_other _ _ (fun y => by rw [← y, hne] at z; cases z)]
      exact k4 b o z
    · rw [Obj.cls_mapFields, Obj.cls_mapFields, Obj.cls_mapFields]; exact hz.1
    · rw [HandSPX.dict_mapFields, HandSPX.dict_mapFields, HandSPX.dict_mapFields]; exact hz.2.1
    · rw [Array.getElem?_setIfInBounds, if_pos rfl, if_pos s2]
end Tr
namespace Tr
open PySem L2 PySem.Spec PyProof.Rows
section
variable {X : Cx} {pins pl : List (Addr × Obj)} {σ : L2.St} {H : Hp} {s s₀ t : Shared} {B : Heap} {e L : Addr} {Z : Obj → Prop}
theorem sky_held {M : Model} {A : Around} {E₁ : Value → Shared → Prop} {env : Env} {outer : List Env} {Q : Unit → Shared → Prop} (hZ : PXN.Steady1 Z) (hfr : A.frames = some (env :: outer)) (hf : env.frame = some L) (x : L2.Sky B (env :: outer) e Z L s.heap)
    (hQ : ∀ h', HandSPX.HeldZ B (env :: outer) e Z L h' → s.heap.UpToSlots h' → Q () { s with heap := h' }) : wpAny M A (noteFrame (.ref e) env) Q E₁ s := by
  rcases x with ⟨hB, hn, hl, oe, vs, he, hz, hd, h1⟩ | fl | hh
  · exact PXN.look_newZ hZ hfr hl hf he hB hn hd h1 hz hQ
  · exact PXN.looks_onZ hZ hfr hf fl hQ
  · exact HandSPX.againZ hf hh.2.2.2 (hQ s.heap hh (Heap.UpToSlots.refl _))
theorem Inv.gone_at {i : Nat} {n : Str} (I : Inv X pins σ H s) (hN : X.N.Nodup) (hi : X.N[i]? = some n) : ∃ m, s.heap.Ns X.env.locals m ∧ ∀ (h' : Heap) (v : Option Value), h'.Ns X.env.locals (fun x => if x = n then v else m x) → (∀ b, b ≠ X.env.locals → h'.get? b = s.heap.get? b) →
    Inv X pins (σ.set i none) H { s with heap := h' } := by
  obtain ⟨m, hn, look⟩ := id I.loc
  refine ⟨m, hn, fun h' v hn' same => ?_⟩
  have below : ∀ b o, X.s_0.heap.get? b = some o → b ≠ X.env.locals := fun b o q z => absurd (Nat.lt_of_lt_of_le (z ▸ Heap.lt_size q) I.ok.above) (Nat.lt_irrefl _)
  have cellOk : ∀ {y : Str} {c : Addr} {w : Option Value}, X.env.cells.lookup y = some c → s.heap.IsCell c w → h'.IsCell c w := fun {y c w} q z => by
    obtain ⟨o, z1, z2⟩ := z
    exact ⟨o, (same c (I.cne y c q)).trans z1, z2⟩
  refine ⟨I.ok, I.os, I.bare, ⟨?_, ?_, I.base.free, ?_, I.base.tups, I.base.frzs, I.base.tbls⟩, ⟨_, hn', ?_⟩, ?_, I.free, I.freeC, ?_, ?_, by rw [List.length_set]; exact I.len⟩
  · intro b o q n1 n2 n3
    rw [same b (below b o q)]; exact I.base.keep b o q n1 n2 n3
  · intro b o q n1 n2 n3
    rw [same b (below b o q)]; exact I.base.slot b o q n1 n2 n3
  · intro b o q n3
    rw [same b (below b o q)]; exact I.base.there b o q n3
  · intro j y v' q1 q2 q3
    have hji : j ≠ i := fun z => by
      subst z
      rw [List.getElem?_set] at q2
      split at q2
      · split at q2 <;> cases q2
      · exact absurd rfl ‹_›
    rw [List.getElem?_set_ne (Ne.symm hji)] at q2
    obtain ⟨u, r, z⟩ := look j y v' q1 q2 q3
    refine ⟨u, r, ?_⟩
    rcases z with ⟨k, z⟩ | ⟨k, c, z1, z2⟩
    · refine .inl ⟨k, ?_⟩
      show (if y = n then v else m y) = _
      rw [if_neg (fun z0 : y = n => hji (nodup_ix hN q1 (by rw [z0]; exact hi)))]; exact z
    · exact .inr ⟨k, c, z1, cellOk z1 z2⟩
  · intro y c q
    obtain ⟨w, z⟩ := I.cell y c q
    exact ⟨w, cellOk q z⟩
  · intro p hp
    obtain ⟨q1, q2, q3, q4, q5⟩ := I.pin p hp
    exact ⟨(same _ q3).trans q1, q2, q3, q4, q5⟩
  · intro b ob q
    refine (I.hok b ob q).stay (fun c w' hc z => (same c fun z0 => ?_).trans z) (fun _ z => z) fun _ _ z => z
    subst z0
    rcases hc with hc | hc
    · rw [← hc, I.free] at q; cases q
    · rw [I.free] at hc; cases hc
end
end Tr
namespace Tr
open PySem L2 PySem.Spec PyProof.Rows
section
variable {X : Cx} {pins pl : List (Addr × Obj)} {σ : L2.St} {H : Hp} {s₀ t : Shared} {B : Heap} {e : Addr} {Z : Obj → Prop}
theorem gone_held {A : Around} {E₁ : Value → Shared → Prop} {i : Nat} {n : Str} {pos : Pos} {Q : Unit → Shared → Prop} (hs : X.stack = X.env :: X.outer) (hf : X.env.frame = some X.env.locals) (hN : X.N.Nodup) (hi : X.N[i]? = some n) (hln : X.env.kindOf n = some .local)
    (I : Inv X pl σ H s₀) (nb : ∀ b o, s₀.heap.get? b = some o → b ∉ frs X.stack → B.get? b = some o) (up : s₀.heap.UpToSlots t.heap) (hh : HandSPX.HeldZ B (X.env :: X.outer) e Z X.env.locals t.heap) (os : t.os = s₀.os) (ag : AllBare t.gens)
    (hQ : ∀ t' s₁, Inv X pl (σ.set i none) H s₁ → (∀ b o, s₁.heap.get? b = some o → b ∉ frs X.stack → B.get? b = some o) → s₁.heap.UpToSlots t'.heap → HandSPX.HeldZ B (X.env :: X.outer) e Z X.env.locals t'.heap → t'.os = s₁.os → AllBare t'.gens → Q () t') :
    wpAny (model X.prog X.w) A (do bindName X.env n .none; unbindBehindTheSuite X.env n pos) Q E₁ t := by
  obtain ⟨m, hn, go⟩ := Inv.gone_at I hN hi
  obtain ⟨oL, es, ep, gL, dL, rL⟩ := id hn
  have inFr : X.env.locals ∈ frs X.stack := by rw [hs]; exact List.mem_filterMap.mpr ⟨X.env, List.mem_cons_self, hf⟩
  obtain ⟨slL, tL⟩ := up _ _ gL (fun vs z => by rw [dL] at z; cases z)
  have hcls : (X.env.scope.kind == .class || (X.env.scope.kind == .module && X.env.locals != X.env.globals)) = false := by rw [I.ok.kind]; rfl
  refine wpAny_nameGoes_keeps hln (⟨_, es, ep, tL, dL, rL⟩ : t.heap.Ns X.env.locals m) hcls fun h' v hn' sb => ?_
  obtain ⟨o2, es2, ep2, g2, d2, r2⟩ := id hn'
  have same : ∀ b, b ≠ X.env.locals → h'.get? b = t.heap.get? b := fun b hb => sb.2 b hb
  -- the state without the exception, the name gone there too
  have u1 : (s₀.heap.update X.env.locals (fun _ => o2)).get? X.env.locals = some o2 := Heap.get?_update_self _ gL (by obtain ⟨a1, a2, a3, a4⟩ := o2; cases (show a3 = _ from d2); rfl)
  have u2 : ∀ b, b ≠ X.env.locals → (s₀.heap.update X.env.locals (fun _ => o2)).get? b = s₀.heap.get? b := fun b hb => Heap.get?_update_other _ _ (Ne.symm hb)
  have J := go (s₀.heap.update X.env.locals (fun _ => o2)) v ⟨o2, es2, ep2, u1, d2, r2⟩ u2
  obtain ⟨f1, f2, f3, oe, vs, T, oT, ts, he, hz, hd, h1, hnT, hTe, hT, hdT, h3⟩ := id hh
  have nB : B.get? X.env.locals = none := (f3.mem (hs ▸ inFr)).1
  have ne : ∀ {b : Addr} {o : Obj} {ws : Array Value}, t.heap.get? b = some o → o.data = .fields ws → b ≠ X.env.locals := fun {b o ws} q1 q2 z => by
    rw [z, tL] at q1; cases q1
    have : oL.data = .fields ws := q2
    rw [dL] at this; cases this
  refine hQ _ { s₀ with heap := s₀.heap.update X.env.locals (fun _ => o2) } J (fun b o q hb => nb b o ((u2 b fun z => hb (z ▸ inFr)).symm.trans q) hb) (fun b o q hnf => ?_) ⟨fun b o q => ?_, f2, ?_, oe, vs, T, oT, ts, (same e (ne he hd)).trans he, hz, hd, h1, hnT, hTe, (same T (ne hT hdT)).trans hT, hdT, h3⟩ os ag
  · by_cases hb : b = X.env.locals
    · subst hb
      rw [u1] at q; cases q
      exact ⟨o2.slots, g2⟩
    · rw [u2 b hb] at q
      obtain ⟨sl, z⟩ := up b o q hnf
      exact ⟨sl, (same b hb).trans z⟩
  · have hb : b ≠ X.env.locals := fun z => by rw [z, nB] at q; cases q
    exact (same b hb).trans (f1 b o q)
  · exact Heap.FunFrames.sameBut sb hn' f3
end
end Tr
namespace Tr
open PySem L2 PySem.Spec PyProof.Rows
section
variable {X : Cx} {x n : Str} {c : Value} {i : Nat} {body suite : List Stmt} {b₀ : Stmt} {np pos pos' : Pos} {tb : WX → TS} {ts : Addr → Value → Option Addr → TS} {Wout : WX}
theorem landed_sX {pins : List (Addr × Obj)} {σ : L2.St} {H : Hp} {s : Shared} {B : Heap} {a : Addr} {cls : Value} {d : Option Addr} (hs : X.stack = X.env :: X.outer) (hf : X.env.frame = some X.env.locals) (J : Inv X pins σ H s) (fl : HandSPX.FlyingZ B (X.env :: X.outer) a (Zw B H cls d) s.heap) (na : H a = none) :
    ∃ (oe : Obj) (ve : Array Value) (m : Nat) (cp : List (Addr × Obj)), s.heap.get? a = some oe ∧ Zc cls d oe ∧ oe.data = .fields ve ∧ (a, oe) ∈ cp ++ (X.pn ++ pins) ∧ Tied (cp ++ (X.pn ++ pins)) (m + 1) (.ref a) ∧ ∀ xe, Inv (sX X a (cp ++ (X.pn ++ pins)) xe) [] σ H s := by
  obtain ⟨oe, ve, he, hz, hd⟩ := fl.there
  obtain ⟨u, m, h2, lk⟩ := hz.2 ve hd
  obtain ⟨cp, tied, each⟩ := lk.tied
  have off : ∀ b, B.get? b ≠ none → b ≠ X.env.locals ∧ b ∉ X.fs := fun b hb => ⟨fun z => by
      subst z
      exact hb ((fl.2.2.1.mem (List.mem_filterMap.mpr ⟨X.env, List.mem_cons_self, hf⟩)).1), fun hm => by
      obtain ⟨v, hv, q⟩ := List.mem_filterMap.mp hm
      exact hb ((fl.2.2.1.mem (List.mem_filterMap.mpr ⟨v, List.mem_cons_of_mem _ hv, q⟩)).1)⟩
  have offA : a ∉ frs (X.env :: X.outer) := fun hm => by
    obtain ⟨_, o', q, hnf⟩ := fl.2.2.1.mem hm
    rw [he] at q; cases q
    exact hnf _ hd
  have aL : a ≠ X.env.locals := fun z => offA (List.mem_filterMap.mpr ⟨X.env, List.mem_cons_self, by rw [hf, z]⟩)
  have aF : a ∉ X.fs := fun hm => by
    obtain ⟨v, hv, q⟩ := List.mem_filterMap.mp hm
    exact offA (List.mem_filterMap.mpr ⟨v, List.mem_cons_of_mem _ hv, q⟩)
  refine ⟨oe, ve, m, (a, oe) :: cp, he, hz.1, hd, List.mem_cons_self, .more List.mem_cons_self hd h2 (tied.mono fun p hp => List.mem_cons_of_mem _ (List.mem_append_left _ hp)), fun xe => Inv.sX J fun p hp => ?_⟩
  rcases List.mem_cons.mp hp with rfl | hp
  · exact ⟨he, na, aL, aF, fun v z => by rw [show oe.data = _ from z] at hd; cases hd⟩
  · obtain ⟨g, nH, ws, hw⟩ := each p hp
    obtain ⟨o1, o2⟩ := off p.1 (by rw [g]; exact Option.some_ne_none _)
    exact ⟨fl.1 _ _ g, nH, o1, o2, fun v z => by rw [z] at hw; cases hw⟩
theorem fly_on {pins : List (Addr × Obj)} {σ : L2.St} {H : Hp} {sI s : Shared} {B : Heap} {a : Addr} {cls : Value} {d : Option Addr} {h3 : Heap} {D : Ends} (hs : X.stack = X.env :: X.outer) (hf : X.env.frame = some X.env.locals) (tk : TkX X Wout) (J : Inv X pins σ H sI)
    (nb : ∀ b o, sI.heap.get? b = some o → b ∉ frs X.stack → B.get? b = some o) (up : sI.heap.UpToSlots h3) (fl : HandSPX.FlyingZ B (X.env :: X.outer) a (Zw B H cls d) h3) (na : H a = none) (os : s.os = sI.os) (ag : AllBare s.gens) (w : Wout cls d σ H) :
    wpAny (model X.prog X.w) X.A (PySem.passOn "try.no-clause-matches" (.ref a) X.env : Sem Flow) (SP X pins D) X.xe { s with heap := h3 } := by
  obtain ⟨k1, k2, k3, k4⟩ := id fl
  obtain ⟨oe, vs, T, oT, ts', he, hz, hd, h1, hr⟩ := id k4
  unfold PySem.passOn
  refine wpAny_bind (wpAny_field he hd h1 ?_)
  rw [if_neg (show ¬ ((Value.ref T == Value.none) = true) from by simp)]
  have fin : wpAny (model X.prog X.w) X.A (setFlight (.ref a) X.env.frame) (fun _ s4 => wpAny (model X.prog X.w) X.A (throw (.ref a) : Sem Flow) (SP X pins D) X.xe s4) X.xe { s with heap := h3 } := by
    rw [hf]
    refine HandSPX.setFlight_upZ fl fun h4 hh4 up4 => wpAny_throw (tk _ _ ?_)
    exact ⟨a, B, sI, pins, σ, H, cls, d, rfl, J, nb, up.trans up4, .inr (.inr (hs ▸ hh4)), na, os, ag, w⟩
  first
  | exact wpAny_bind (wpAny_pure (wpAny_bind fin))
  | exact wpAny_bind fin
theorem ps_tryX_as (hs : X.stack = X.env :: X.outer) (hf : X.env.frame = some X.env.locals) (hN : X.N.Nodup) (hi : X.N[i]? = some n) (hln : X.env.kindOf n = some .local) (hc : Names X x c) (hpa : ∀ hd : Option Value, PassesOwnAt (model X.prog X.w) (X.A.mark hd) X.A X.env X.xe) (tk : TkX X Wout)
    (hb : ∀ (W : WX) (pn : List (Addr × Obj)) (xe : Value → Shared → Prop), TkX (X.tr pn xe) W → PassesOwn (model X.prog X.w) X.A X.env xe → (∀ A' A'' : Around, SameStack A' X.A → PassesOwnAt (model X.prog X.w) A' A'' X.env xe) → PSs (X.tr pn xe) body (tb W))
    (hsu : ∀ (a : Addr) (oe : Obj) (cls : Value) (d : Option Addr) (pl : List (Addr × Obj)) (xe : Value → Shared → Prop) (m : Nat) (ve : Array Value), Zc cls d oe → oe.data = .fields ve → (a, oe) ∈ pl → Tied pl (m + 1) (.ref a) → TkX (sX X a pl xe) (fun cls d σ H => Wout cls d (σ.set i none) H) → (∀ A' A'' : Around, SameStack A' (X.A.mark (some (.ref a))) → PassesOwnAt (model X.prog X.w) A' A'' X.env xe) → PSs (sX X a pl xe) (b₀ :: suite) (ts a cls d)) :
    PS X (.Try body [.ExceptHandler (some (.Name x np)) (some n) (b₀ :: suite) pos'] [] [] pos) (fun D σ H => tb (wAs X.K c i ts Wout D) D σ H) := by
  refine ⟨fun pins s σ H D I h => ?_⟩
  have ok := I.ok
  have hfr : X.A.frames = some (X.env :: X.outer) := hs ▸ ok.frames
  refine wpAny_Try_except ?_
  refine wpAny_mono ((hb (wAs X.K c i ts Wout D) (X.pn ++ pins) (fun e s₁ => wpAny (model X.prog X.w) X.A (noteFrame e X.env) (fun _ s₂ => wpAny (model X.prog X.w) X.A (setFlight e none) (fun _ s₃ =>
    wpAny (model X.prog X.w) X.A (handleBy e X.env [.ExceptHandler (some (.Name x np)) (some n) (b₀ :: suite) pos']) (SP X pins D) X.xe s₃) X.xe s₂) X.xe s₁) (fun u s' air => ?_) PassesOwn.looking (fun _ _ h => PassesOwnAt.lookingOf h)).run [] s σ H D (I.toTry _) h) (fun f s1 hsp => ?_) (fun e s1 he => he)
  · -- caught
    obtain ⟨a, B, sI, pl', σ', H', cls, d, rfl, J', nb, up, sky, na, os, ag, b, hb1, hyes, hno⟩ := air
    have J : Inv X pins σ' H' sI := J'.ofTry ok
    show wpAny (model X.prog X.w) X.A (noteFrame (.ref a) X.env) _ _ _
    refine L2N.Sky.land Zw.steady hfr hf (show L2.Sky B (X.env :: X.outer) a (Zw B H' cls d) X.env.locals s'.heap from hs ▸ sky) fun h3 fl3 up3 => ?_
    have J3 : Inv X pins σ' H' { s' with heap := h3 } := J.landed nb fl3.1 (up.trans up3) os ag
    obtain ⟨oe3, ve3, m3, cp3, he3, hz3, hd3, _, _, S3⟩ := landed_sX hs hf J3 fl3 na
    refine wpAny_handleBy_cons (codeAny_handlers_test ?_) (by intro q; cases q)
    have LT : PySem.W.Looks (model X.prog X.w) h3 (typeOf (.ref a)) cls := fun A Q E s k q => wpAny_typeOf_ref (k _ _ he3) (by rw [hz3.1]; exact q)
    have LM := PySem.W.exm_one (M := model X.prog X.w) (J3.kIn) LT hb1
    have name : ∀ {Q : Value → Shared → Prop} {E : Value → Shared → Prop}, Q c { s' with heap := h3 } → wpAny (model X.prog X.w) (X.A.mark (some (.ref a))) (eval (.Name x np) X.env) Q E { s' with heap := h3 } := fun {Q E} q => by
      obtain ⟨hg, hdbg, hm | ⟨hm, hv, hnn⟩⟩ := hc
      · exact ld_glob (X := sX X a _ fun _ _ => False) (S3 _) hg hm q hdbg
      · exact ld_blt (X := sX X a _ fun _ _ => False) (S3 _) hg hm hv q hnn hdbg
    refine name (LM.here ?_)
    cases b with
    | true =>
      refine codeAny_handlers_suite_as ?_
      refine HandSPX.lands_againZ fl3 fun h4 fl4 up4 => ?_
      have J4 : Inv X pins σ' H' { s' with heap := h4 } := J.landed nb fl4.1 ((up.trans up3).trans up4) os ag
      obtain ⟨oe4, ve4, m4, cp4, he4, hz4, hd4, mem4, tied4, S4⟩ := landed_sX hs hf J4 fl4 na
      refine store_ok (X := sX X a _ fun _ _ => False) (v := .ref a) (S4 _) hN hi (.inl hln) rfl (fun s5 S5 => ?_) (.inr hln)
      have end_ : ∀ {σ6 : L2.St} {H6 : Hp} {s6 : Shared} {xe : Value → Shared → Prop} {Q : Shared → Prop}, Inv (sX X a (cp4 ++ (X.pn ++ pins)) xe) [] σ6 H6 s6 → (∀ s7, Inv X pins (σ6.set i none) H6 s7 → Q s7) → wpAny (model X.prog X.w) X.A (do bindName X.env n .none; unbindBehindTheSuite X.env n pos') (fun _ s7 => Q s7) X.xe s6 :=
        fun S6 hq => gone_ok (Inv.unsX S6 ok fun p hp => List.mem_append_right _ hp) hN hi hln hq
      have S5' : ∀ xe, Inv (sX X a (cp4 ++ (X.pn ++ pins)) xe) [] (σ'.set i (some (.ref a))) H' s5 := fun xe => ⟨ok_sX ok, S5.os, S5.bare, S5.base, S5.loc, S5.cell, S5.free, S5.freeC, S5.pin, S5.hok, S5.len⟩
      refine wpAny_mono ((hsu a oe4 cls d _ _ m4 ve4 hz4 hd4 mem4 tied4 ?_ (fun _ _ h => PassesOwnAt.lookingOf h)).run [] s5 _ H' _ (S5' _) (hyes rfl a na)) (fun f s6 hsp => ?_) (fun _ _ z => z)
      · rintro u2 t2 ⟨e2, B2, s2, pl2, σ2, H2, cls2, d2, rfl, I2, nb2, up2, sky2, na2, os2, ag2, w2⟩
        have K2 : Inv X pins σ2 H2 s2 := Inv.unsX I2 ok fun p hp => List.mem_append_right _ hp
        refine sky_held (A := X.A.mark (some (.ref a))) Zw.steady (hs ▸ (S4 fun _ _ => False).ok.frames) hf (show L2.Sky B2 (X.env :: X.outer) e2 (Zw B2 H2 cls2 d2) X.env.locals t2.heap from hs ▸ sky2) fun h5 hh5 up5 => ?_
        refine gone_held (A := X.A.mark (some (.ref a))) hs hf hN hi hln K2 nb2 (up2.trans up5) hh5 os2 ag2 fun t6 s6 J6 nb6 up6 hh6 os6 ag6 => ?_
        obtain ⟨k1, k2, k3, k4⟩ := id hh6
        obtain ⟨oe, vs, T, oT, ts', he, hz, hd, h1, hr⟩ := id k4
        show wpAny _ _ (PySem.passOn _ _ _) _ _ _
        unfold PySem.passOn
        refine wpAny_bind (wpAny_field he hd h1 ?_)
        rw [if_neg (show ¬ ((Value.ref T == Value.none) = true) from by simp)]
        have fin : ∀ (K : Value → Shared → Prop), (∀ h7, X.xe (.ref e2) { t6 with heap := h7 } → K (.ref e2) { t6 with heap := h7 }) → wpAny (model X.prog X.w) (X.A.mark (some (.ref a))) (setFlight (.ref e2) X.env.frame) (fun _ s4 => wpAny (model X.prog X.w) (X.A.mark (some (.ref a))) (throw (.ref e2) : Sem Flow) (fun _ _ => False) K s4) K t6 := fun K hK => by
          rw [hf]
          refine HandSPX.setFlight_anyZ k1 k3 k4 fun h7 q1 q2 q3 q4 => wpAny_throw (hK h7 (tk _ _ ?_))
          exact ⟨e2, B2, s6, pins, σ2.set i none, H2, cls2, d2, rfl, J6, nb6, up6.trans q4, .inr (.inr (by rw [hs]; exact ⟨q1, k2, q2, q3⟩)), na2, os6, ag6, w2⟩
        first
        | exact wpAny_bind (wpAny_pure (wpAny_bind (fin _ fun h7 z => hpa (some (.ref a)) _ _ z)))
        | exact wpAny_bind (fin _ fun h7 z => hpa (some (.ref a)) _ _ z)
      · cases f with
        | next =>
          obtain ⟨σ6, H6, S6, q6⟩ := hsp
          exact end_ S6 fun s7 J7 => ⟨_, _, J7, q6⟩
        | brk =>
          obtain ⟨σ6, H6, S6, q6⟩ := hsp
          exact end_ S6 fun s7 J7 => ⟨_, _, J7, q6⟩
        | cont =>
          obtain ⟨σ6, H6, S6, q6⟩ := hsp
          exact end_ S6 fun s7 J7 => ⟨_, _, J7, q6⟩
        | ret u =>
          obtain ⟨v6, σ6, H6, S6, r6, q6⟩ := hsp
          exact end_ S6 fun s7 J7 => ⟨_, _, _, J7, r6, q6⟩
    | false =>
      show wpAny _ X.A (handleBy (.ref a) X.env []) _ _ _
      refine wpAny_handleBy_nil ?_
      exact fly_on hs hf tk J nb (up.trans up3) fl3 na os ag (hno rfl)
  · cases f with
    | next => exact (let ⟨_, _, J', q⟩ := hsp; wpAny_execs_nil ⟨_, _, J'.ofTry ok, q⟩)
    | brk => exact (let ⟨_, _, J', q⟩ := hsp; ⟨_, _, J'.ofTry ok, q⟩)
    | cont => exact (let ⟨_, _, J', q⟩ := hsp; ⟨_, _, J'.ofTry ok, q⟩)
    | ret u => exact (let ⟨_, _, _, J', r, q⟩ := hsp; ⟨_, _, _, J'.ofTry ok, r, q⟩)
end
end Tr
namespace Tr
open PySem L2 PySem.Spec PyProof.Rows
theorem pss_lift {X : Cx} {a : Addr} {oe : Obj} {pl : List (Addr × Obj)} {xe : Value → Shared → Prop} {st : List Stmt} {t : TS} (hm : (a, oe) ∈ pl) (h : PSs (X.suite a ((a, oe) :: pl)) st t) : PSs (sX X a pl xe) st t := by
  refine ⟨fun pins s σ H D I q => ?_⟩
  have to : ∀ {σ : L2.St} {H : Hp} {s : Shared}, Inv (sX X a pl xe) pins σ H s → Inv (X.suite a ((a, oe) :: pl)) pins σ H s := fun I => by
    refine ⟨?_, I.os, I.bare, I.base, I.loc, I.cell, I.free, I.freeC, fun p hp => ?_, I.hok, I.len⟩
    · exact (Cx.Ok.ofTry (X := X.suite a ((a, oe) :: pl)) (pn := pl) (xe := xe) I.ok)
    · refine I.pin p ?_
      rcases List.mem_append.mp hp with hp | hp
      · rcases List.mem_cons.mp hp with rfl | hp
        · exact List.mem_append_left _ hm
        · exact List.mem_append_left _ hp
      · exact List.mem_append_right _ hp
  have back : ∀ {σ : L2.St} {H : Hp} {s : Shared}, Inv (X.suite a ((a, oe) :: pl)) pins σ H s → Inv (sX X a pl xe) pins σ H s := fun J =>
    ⟨Cx.Ok.toTry (X := X.suite a ((a, oe) :: pl)) J.ok pl xe, J.os, J.bare, J.base, J.loc, J.cell, J.free, J.freeC, fun p hp => J.pin p (by
      rcases List.mem_append.mp hp with hp | hp
      · exact List.mem_append_left _ (List.mem_cons_of_mem _ hp)
      · exact List.mem_append_right _ hp), J.hok, J.len⟩
  refine wpAny_mono (h.run pins s σ H D (to I) q) (fun f s1 hsp => ?_) (fun _ _ z => z.elim)
  cases f with
  | next => exact (let ⟨_, _, J, q⟩ := hsp; ⟨_, _, back J, q⟩)
  | brk => exact (let ⟨_, _, J, q⟩ := hsp; ⟨_, _, back J, q⟩)
  | cont => exact (let ⟨_, _, J, q⟩ := hsp; ⟨_, _, back J, q⟩)
  | ret u => exact (let ⟨_, _, _, J, r, q⟩ := hsp; ⟨_, _, _, back J, r, q⟩)
end Tr

set_option maxHeartbeats 2000000
namespace Tr
open PySem L2 PySem.Spec PyProof.Rows

abbrev Rho := List (Option D)
abbrev SlotsR (K : W.Frag) (H0 : Hp) (ρ : Rho) (σ : L2.St) : Prop := ∀ (i : Nat) (d : D), ρ[i]? = some (some d) → ∃ v, σ[i]? = some (some v) ∧ Rep K H0 d v
theorem SlotsR.mono {K : W.Frag} {H0 H0' : Hp} {ρ : Rho} {σ : L2.St} (h : SlotsR K H0 ρ σ) (e : Same H0 H0') : SlotsR K H0' ρ σ := fun i d q => let ⟨v, a, b⟩ := h i d q; ⟨v, a, b.mono e⟩
theorem SlotsR.set {K : W.Frag} {H0 : Hp} {ρ : Rho} {σ : L2.St} {d : D} {v : V} (i : Nat) (h : SlotsR K H0 ρ σ) (r : Rep K H0 d v) (hl : ρ.length = σ.length) : SlotsR K H0 (ρ.set i (some d)) (σ.set i (some v)) := fun j e q => by
  rw [List.getElem?_set] at q
  split at q
  · rename_i hij; subst hij
    split at q
    · cases q
      rename_i hlt
      refine ⟨v, ?_, r⟩
      rw [List.getElem?_set_self (by omega)]
    · cases q
  · rename_i hij
    rw [List.getElem?_set_ne hij]
    exact h j e q
theorem SlotsR.unset {K : W.Frag} {H0 : Hp} {ρ : Rho} {σ : L2.St} (i : Nat) (h : SlotsR K H0 ρ σ) : SlotsR K H0 (ρ.set i none) (σ.set i none) := fun j e q => by
  rw [List.getElem?_set] at q
  split at q
  · split at q <;> cases q
  · rename_i hij
    rw [List.getElem?_set_ne hij]
    exact h j e q

abbrev XF := Option (List Str × List D)
def ExcR (K : W.Frag) (H0 H : Hp) : Option Addr → XF → Prop
  | none, none => True
  | some dd, some (ns, ds) => ∃ vs, H dd = some (.xd (ns.zip vs)) ∧ ns.length = vs.length ∧ Reps K H0 ds vs
  | _, _ => False

structure TX (X : Cx) where
  A : Hp → Cells → Hp → Prop
  up : ∀ {H0 C H H0' C' H'}, A H0 C H → CellsR X.K H0 C H → Stp H0 C H H0' C' H' → CellsR X.K H0' C' H' → A H0' C' H'
  XQ : Value → XF → Rho → Cells → Prop
  tk : TkX X (fun cls d σ H => ∃ fs ρ C H0, A H0 C H ∧ CellsR X.K H0 C H ∧ SlotsR X.K H0 ρ σ ∧ ρ.length = σ.length ∧ ExcR X.K H0 H d fs ∧ XQ cls fs ρ C)
  pass : PassesOwn (model X.prog X.w) X.A X.env X.xe
  pas : ∀ A' A'' : Around, SameStack A' X.A → PassesOwnAt (model X.prog X.w) A' A'' X.env X.xe

section
variable {X : Cx}
structure At (T : TX X) (H0 : Hp) (ρ : Rho) (C : Cells) (σ : L2.St) (H : Hp) : Prop where
  a : T.A H0 C H
  c : CellsR X.K H0 C H
  s : SlotsR X.K H0 ρ σ
  l : ρ.length = σ.length
theorem At.step {T : TX X} {H0 H0' H H' : Hp} {ρ : Rho} {C C' : Cells} {σ : L2.St} (h : At T H0 ρ C σ H) (p : Stp H0 C H H0' C' H') (c : CellsR X.K H0' C' H') : At T H0' ρ C' σ H' :=
  ⟨T.up h.a h.c p c, c, h.s.mono p.base, h.l⟩
abbrev QE := D → Cells → Prop
abbrev QA := List D → Cells → Prop
abbrev QT := Bool → Cells → Prop
abbrev Cont (X : Cx) (H0 : Hp) (C : Cells) (H : Hp) (Q : QE) (R : VK) : Prop := ∀ v d C' H' H0', Stp H0 C H H0' C' H' → CellsR X.K H0' C' H' → Rep X.K H0' d v → Q d C' → R v H'
abbrev ContA (X : Cx) (H0 : Hp) (C : Cells) (H : Hp) (Q : QA) (R : List V → Hp → Prop) : Prop := ∀ vs ds C' H' H0', Stp H0 C H H0' C' H' → CellsR X.K H0' C' H' → Reps X.K H0' ds vs → Q ds C' → R vs H'
abbrev ContT (X : Cx) (H0 : Hp) (C : Cells) (H : Hp) (Q : QT) (R : Bool → Hp → Prop) : Prop := ∀ b C' H' H0', Stp H0 C H H0' C' H' → CellsR X.K H0' C' H' → Q b C' → R b H'
theorem Cont.here {H0 H : Hp} {C : Cells} {Q : QE} {R : VK} (k : Cont X H0 C H Q R) (c : CellsR X.K H0 C H) {d : D} {v : V} (r : Rep X.K H0 d v) (q : Q d C) : R v H := k v d C H H0 (Stp.refl _ _ _) c r q
theorem Cont.after {H0 H0' H H' : Hp} {C C' : Cells} {Q Q' : QE} {R : VK} (k : Cont X H0 C H Q R) (p : Stp H0 C H H0' C' H') (c : CellsR X.K H0' C' H') (e : ∀ d C2, Q' d C2 → Q d C2) : Cont X H0' C' H' Q' R :=
  fun v d C2 H2 H02 p2 c2 r q => k v d C2 H2 H02 (p.trans c p2) c2 r (e d C2 q)

def TEx (T : TX X) (ρ : Rho) (C : Cells) (Q : QE) : TE := fun σ H R => ∃ H0, At T H0 ρ C σ H ∧ Cont X H0 C H Q R
def TAx (T : TX X) (ρ : Rho) (C : Cells) (Q : QA) : TA := fun σ H R => ∃ H0, At T H0 ρ C σ H ∧ ContA X H0 C H Q R
def TTx (T : TX X) (ρ : Rho) (C : Cells) (Q : QT) : TT := fun σ H R => ∃ H0, At T H0 ρ C σ H ∧ ContT X H0 C H Q R
def WE (T : TX X) (e : Expr) (ρ : Rho) (C : Cells) (Q : QE) : Prop := PE X e (TEx T ρ C Q)
def WA (T : TX X) (es : List Expr) (ρ : Rho) (C : Cells) (Q : QA) : Prop := PA X es (TAx T ρ C Q)
def WT (T : TX X) (e : Expr) (ρ : Rho) (C : Cells) (Q : QT) : Prop := PT X e (TTx T ρ C Q)
def WP (T : TX X) (e : Expr) (ρ : Rho) (C : Cells) (Q : QT) : Prop := PW X e (TTx T ρ C Q)

theorem PE.imp {e : Expr} {t t' : TE} (h : PE X e t) (i : ∀ σ H R, t' σ H R → t σ H R) : PE X e t' := ⟨fun pins s σ H Q I q => h.run pins s σ H Q I (i σ H Q q)⟩
theorem PA.imp {e : List Expr} {t t' : TA} (h : PA X e t) (i : ∀ σ H R, t' σ H R → t σ H R) : PA X e t' := ⟨fun pos pins s σ H Q I q => h.run pos pins s σ H Q I (i σ H Q q)⟩
theorem PT.imp {e : Expr} {t t' : TT} (h : PT X e t) (i : ∀ σ H R, t' σ H R → t σ H R) : PT X e t' := ⟨fun pins s σ H Q I q => h.run pins s σ H Q I (i σ H Q q)⟩
theorem PW.imp {e : Expr} {t t' : TT} (h : PW X e t) (i : ∀ σ H R, t' σ H R → t σ H R) : PW X e t' := ⟨fun wh pins s σ H Q I q => h.run wh pins s σ H Q I (i σ H Q q)⟩
theorem PS.imp {e : Stmt} {t t' : TS} (h : PS X e t) (i : ∀ D σ H, t' D σ H → t D σ H) : PS X e t' := ⟨fun pins s σ H Q I q => h.run pins s σ H Q I (i Q σ H q)⟩
theorem PSs.imp {e : List Stmt} {t t' : TS} (h : PSs X e t) (i : ∀ D σ H, t' D σ H → t D σ H) : PSs X e t' := ⟨fun pins s σ H Q I q => h.run pins s σ H Q I (i Q σ H q)⟩
theorem OpR.imp {f : Value → Value → Sem Value} {r r' : R2} (h : OpR X f r) (i : ∀ x y H R, r' x y H R → r x y H R) : OpR X f r' := fun pins s σ H x y v u Q I rx ry q => h pins s σ H x y v u Q I rx ry (i _ _ _ _ q)

def someE (T : TX X) (ρ : Rho) (e : Expr) : TE := fun σ H R => ∃ C Q, WE T e ρ C Q ∧ TEx T ρ C Q σ H R
theorem pe_some (T : TX X) (ρ : Rho) (e : Expr) : PE X e (someE T ρ e) := ⟨fun pins s σ H Q I ⟨C, q, h, t⟩ => h.run pins s σ H Q I t⟩
def someA (T : TX X) (ρ : Rho) (e : List Expr) : TA := fun σ H R => ∃ C Q, WA T e ρ C Q ∧ TAx T ρ C Q σ H R
theorem pa_some (T : TX X) (ρ : Rho) (e : List Expr) : PA X e (someA T ρ e) := ⟨fun pos pins s σ H Q I ⟨C, q, h, t⟩ => h.run pos pins s σ H Q I t⟩
def someP (T : TX X) (ρ : Rho) (e : Expr) : TT := fun σ H R => ∃ C Q, WP T e ρ C Q ∧ TTx T ρ C Q σ H R
theorem pw_some (T : TX X) (ρ : Rho) (e : Expr) : PW X e (someP T ρ e) := ⟨fun wh pins s σ H Q I ⟨C, q, h, t⟩ => h.run wh pins s σ H Q I t⟩

variable {T : TX X} {ρ : Rho} {C : Cells} {Q : QE} {e a b c : Expr} {pos : Pos} {es : List Expr}
theorem WE.mono {Q' : QE} (h : WE T e ρ C Q) (i : ∀ d C', Q d C' → Q' d C') : WE T e ρ C Q' :=
  PE.imp h fun σ H R ⟨H0, a, k⟩ => ⟨H0, a, fun v d C' H' H0' p c r q => k v d C' H' H0' p c r (i d C' q)⟩
theorem WT.mono {Q Q' : QT} (h : WT T e ρ C Q) (i : ∀ d C', Q d C' → Q' d C') : WT T e ρ C Q' :=
  PT.imp h fun σ H R ⟨H0, a, k⟩ => ⟨H0, a, fun v C' H' H0' p c q => k v C' H' H0' p c (i v C' q)⟩

theorem we_look {t : TE} {d : D} (h : PE X e t) (i : ∀ σ H H0, At T H0 ρ C σ H → ∃ v, Rep X.K H0 d v ∧ ∀ R : VK, R v H → t σ H R) (q : Q d C) : WE T e ρ C Q :=
  PE.imp h fun σ H R ⟨H0, a, k⟩ => let ⟨v, r, j⟩ := i σ H H0 a; j R (k.here a.c r q)
theorem we_int {i j} (q : Q (.int i) C) : WE T (.Constant (.int i) j pos) ρ C Q := we_look (d := .int i) pe_int (fun _ _ _ _ => ⟨.int i, rfl, fun _ r => r⟩) q
theorem we_bl {i j} (q : Q (.bl i) C) : WE T (.Constant (.bool i) j pos) ρ C Q := we_look (d := .bl i) pe_bl (fun _ _ _ _ => ⟨.bl i, rfl, fun _ r => r⟩) q
theorem we_str {i j} (q : Q (.str i) C) : WE T (.Constant (.str i) j pos) ρ C Q := we_look (d := .str i) pe_str (fun _ _ _ _ => ⟨.str i, rfl, fun _ r => r⟩) q
theorem we_var (i : Nat) {x : Str} {d : D} (hd : ρ[i]? = some (some d)) (q : Q d C) (h : PE X (.Name x pos) (tVar i)) : WE T (.Name x pos) ρ C Q :=
  we_look h (fun σ H H0 a => let ⟨v, e, r⟩ := a.s i d hd; ⟨v, r, fun R k => ⟨v, e, k⟩⟩) q
theorem we_glob {x : Str} {v : V} {d : D} (h : PE X (.Name x pos) (tC v)) (r : ∀ H0 : Hp, Rep X.K H0 d v) (q : Q d C) : WE T (.Name x pos) ρ C Q :=
  we_look h (fun σ H H0 a => ⟨v, r H0, fun R k => k⟩) q

def OW (T : TX X) (f : Value → Value → Sem Value) (d1 d2 : D) (C : Cells) (Q : QE) : Prop :=
  OpR X f fun x y H R => ∃ H0, CellsR X.K H0 C H ∧ Rep X.K H0 d1 x ∧ Rep X.K H0 d2 y ∧ Cont X H0 C H Q R
def someO (T : TX X) (f : Value → Value → Sem Value) : R2 := fun x y H R => ∃ d1 d2 C Q, OW T f d1 d2 C Q ∧ ∃ H0, CellsR X.K H0 C H ∧ Rep X.K H0 d1 x ∧ Rep X.K H0 d2 y ∧ Cont X H0 C H Q R
theorem op_some (T : TX X) (f : Value → Value → Sem Value) : OpR X f (someO T f) := fun pins s σ H x y v u Q I rx ry ⟨d1, d2, C, q, h, k⟩ => h pins s σ H x y v u Q I rx ry k
theorem ow_look {f : Value → Value → Sem Value} {r : R2} {d1 d2 d : D} (h : OpR X f r) (i : ∀ x y H H0, CellsR X.K H0 C H → Rep X.K H0 d1 x → Rep X.K H0 d2 y → ∃ v, Rep X.K H0 d v ∧ ∀ R : VK, R v H → r x y H R) (q : Q d C) : OW T f d1 d2 C Q :=
  OpR.imp h fun x y H R ⟨H0, c, r1, r2, k⟩ => let ⟨v, rr, j⟩ := i x y H H0 c r1 r2; j R (k.here c rr q)
theorem both {r : R2} {f : Value → Value → Sem Value} (h : WE T a ρ C fun d1 C1 => WE T b ρ C1 fun d2 C2 => OW T f d1 d2 C2 Q) (hr : ∀ x y H R, someO T f x y H R → r x y H R) :
    ∀ σ H R, TEx T ρ C Q σ H R → tOp r (TEx T ρ C fun d1 C1 => WE T b ρ C1 fun d2 C2 => OW T f d1 d2 C2 Q) (someE T ρ b) σ H R := fun σ H R ⟨H0, at_, k⟩ => by
  refine ⟨H0, at_, fun v1 d1 C1 H1 H01 p1 c1 r1 q1 => ?_⟩
  have at1 := at_.step p1 c1
  refine ⟨C1, _, q1, H01, at1, fun v2 d2 C2 H2 H02 p2 c2 r2 q2 => ?_⟩
  exact hr _ _ _ _ ⟨d1, d2, C2, Q, q2, H02, c2, r1.mono p2.base, r2, k.after (p1.trans c1 p2) c2 fun _ _ z => z⟩
theorem we_bin {op : Operator} (h : WE T a ρ C fun d1 C1 => WE T b ρ C1 fun d2 C2 => OW T (binaryOp op) d1 d2 C2 Q) : WE T (.BinOp a op b pos) ρ C Q :=
  PE.imp (pe_op (op_some T (binaryOp op)) h (pe_some T ρ b)) (both h fun _ _ _ _ z => z)
theorem we_cmp {op : CmpOp} (h : WE T a ρ C fun d1 C1 => WE T b ρ C1 fun d2 C2 => OW T (compareOp op) d1 d2 C2 Q) (hm : behindInMarks op b = false) : WE T (.Compare a [op] [b] pos) ρ C Q :=
  PE.imp (pe_cmpR (op_some T (compareOp op)) h (pe_some T ρ b) hm) (both h fun _ _ _ _ z => z)
theorem wt_cmp {op : CmpOp} {Q : QT} (h : WE T a ρ C fun d1 C1 => WE T b ρ C1 fun d2 C2 => OW T (compareOp op) d1 d2 C2 fun d C3 => ∃ k, d = .bl k ∧ Q k C3) (hm : behindInMarks op b = false) : WT T (.Compare a [op] [b] pos) ρ C Q :=
  PT.imp (pt_cmpR (op_some T (compareOp op)) h (pe_some T ρ b) hm) fun σ H R ⟨H0, at_, k⟩ => both (Q := fun d C3 => ∃ k, d = .bl k ∧ Q k C3) h (fun _ _ _ _ z => z) σ H _ ⟨H0, at_, fun v d C' H' H0' p c r ⟨j, e, q⟩ => by
    subst e; cases r; exact ⟨j, rfl, k j C' H' H0' p c q⟩⟩

theorem wt_tB {Q : QT} {t : TE → TT} (ht : ∀ ta, PE X e ta → PT X e (t ta)) (hm : ∀ ta σ H R, tTest ta σ H R → t ta σ H R) (h : WE T e ρ C fun d C1 => ∃ k, d = .bl k ∧ Q k C1) : WT T e ρ C Q :=
  PT.imp (ht _ h) fun σ H R ⟨H0, at_, k⟩ => hm _ σ H R ⟨H0, at_, fun v d C' H' H0' p c r ⟨j, e, q⟩ => by subst e; cases r; exact ⟨j, rfl, k j C' H' H0' p c q⟩⟩
theorem wt_val {Q : QT} (h : WE T e ρ C fun d C1 => ∃ k, d = .bl k ∧ Q k C1) (he : ∀ whole, isTrue e X.env whole = (do let v ← whole; standAt e.pos; holding [v] (truthy v)) := by intro _; rfl) : WT T e ρ C Q :=
  wt_tB (t := tB) (fun _ z => pt_val z he) (fun _ _ _ _ z => z) h
theorem wt_not {Q : QT} (h : WT T a ρ C fun k C1 => Q (!k) C1) : WT T (.UnaryOp .Not a pos) ρ C Q :=
  PT.imp (pt_not h) fun σ H R ⟨H0, at_, k⟩ => ⟨H0, at_, fun j C' H' H0' p c q => k _ C' H' H0' p c q⟩
theorem wt_p {Q : QT} (h : WP T a ρ C Q) : WT T a ρ C Q := PW.pt h
theorem wp_and1 {Q : QT} (h : WT T a ρ C Q) : WP T (.BoolOp .And [a] pos) ρ C Q := pw_and1 h
theorem wp_or1 {Q : QT} (h : WT T a ρ C Q) : WP T (.BoolOp .Or [a] pos) ρ C Q := pw_or1 h
theorem wp_and {Q : QT} (h : WT T a ρ C fun k C1 => if k = true then WP T (.BoolOp .And (b :: es) pos) ρ C1 Q else Q false C1) : WP T (.BoolOp .And (a :: b :: es) pos) ρ C Q :=
  PW.imp (pw_and h (pw_some T ρ _)) fun σ H R ⟨H0, at_, k⟩ => ⟨H0, at_, fun j C' H' H0' p c q => by
    cases j with
    | true => exact ⟨C', Q, q, H0', at_.step p c, fun j C2 H2 H02 p2 c2 q2 => k j C2 H2 H02 (p.trans c p2) c2 q2⟩
    | false => exact k false C' H' H0' p c q⟩
theorem wp_or {Q : QT} (h : WT T a ρ C fun k C1 => if k = true then Q true C1 else WP T (.BoolOp .Or (b :: es) pos) ρ C1 Q) : WP T (.BoolOp .Or (a :: b :: es) pos) ρ C Q :=
  PW.imp (pw_or h (pw_some T ρ _)) fun σ H R ⟨H0, at_, k⟩ => ⟨H0, at_, fun j C' H' H0' p c q => by
    cases j with
    | false => exact ⟨C', Q, q, H0', at_.step p c, fun j C2 H2 H02 p2 c2 q2 => k j C2 H2 H02 (p.trans c p2) c2 q2⟩
    | true => exact k true C' H' H0' p c q⟩
theorem we_one {op} (h : WE T a ρ C Q) : WE T (.BoolOp op [a] pos) ρ C Q := pe_one h
theorem we_and (h : WE T a ρ C fun d C1 => ∃ k, d = .bl k ∧ if k = true then WE T (.BoolOp .And (b :: es) pos) ρ C1 Q else Q (.bl false) C1) : WE T (.BoolOp .And (a :: b :: es) pos) ρ C Q :=
  PE.imp (pe_and h (pe_some T ρ _)) fun σ H R ⟨H0, at_, k⟩ => ⟨H0, at_, fun v d C' H' H0' p c r ⟨j, e, q⟩ => by
    subst e; cases r
    refine ⟨j, rfl, ?_⟩
    cases j with
    | true => exact ⟨C', Q, q, H0', at_.step p c, k.after p c fun _ _ z => z⟩
    | false => exact k _ (.bl false) C' H' H0' p c rfl q⟩
theorem we_or (h : WE T a ρ C fun d C1 => ∃ k, d = .bl k ∧ if k = true then Q (.bl true) C1 else WE T (.BoolOp .Or (b :: es) pos) ρ C1 Q) : WE T (.BoolOp .Or (a :: b :: es) pos) ρ C Q :=
  PE.imp (pe_or h (pe_some T ρ _)) fun σ H R ⟨H0, at_, k⟩ => ⟨H0, at_, fun v d C' H' H0' p c r ⟨j, e, q⟩ => by
    subst e; cases r
    refine ⟨j, rfl, ?_⟩
    cases j with
    | false => exact ⟨C', Q, q, H0', at_.step p c, k.after p c fun _ _ z => z⟩
    | true => exact k _ (.bl true) C' H' H0' p c rfl q⟩
theorem we_ifExp (h : WT T c ρ C fun k C1 => if k = true then WE T a ρ C1 Q else WE T b ρ C1 Q) : WE T (.IfExp c a b pos) ρ C Q :=
  PE.imp (pe_ifExp h (pe_some T ρ a) (pe_some T ρ b)) fun σ H R ⟨H0, at_, k⟩ => ⟨H0, at_, fun j C' H' H0' p c q => by
    cases j with
    | true => exact ⟨C', Q, q, H0', at_.step p c, k.after p c fun _ _ z => z⟩
    | false => exact ⟨C', Q, q, H0', at_.step p c, k.after p c fun _ _ z => z⟩⟩

theorem wa_nil {Q : QA} (q : Q [] C) : WA T [] ρ C Q := PA.imp pa_nil fun σ H R ⟨H0, at_, k⟩ => k [] [] C H H0 (Stp.refl _ _ _) at_.c Reps.nil q
theorem wa_cons {Q : QA} (h : WE T a ρ C fun d C1 => WA T es ρ C1 fun ds C2 => Q (d :: ds) C2) (hs : starEach (a :: es) X.env = (false, eval a X.env) :: starEach es X.env := by rfl) : WA T (a :: es) ρ C Q :=
  PA.imp (pa_cons h (pa_some T ρ es) hs) fun σ H R ⟨H0, at_, k⟩ => ⟨H0, at_, fun v d C1 H1 H01 p1 c1 r1 q1 => ⟨C1, _, q1, H01, at_.step p1 c1, fun vs ds C2 H2 H02 p2 c2 r2 q2 =>
    k _ _ C2 H2 H02 (p1.trans c1 p2) c2 (Reps.cons (r1.mono p2.base) r2) q2⟩⟩
theorem we_tup {x1} (h : WA T es ρ C fun ds C1 => ds.length ≤ 100000 ∧ Q (.tup ds) C1) : WE T (.Tuple es x1 pos) ρ C Q :=
  PE.imp (pe_tup h) fun σ H R ⟨H0, at_, k⟩ => ⟨H0, at_, fun vs ds C1 H1 H01 p1 c1 r1 ⟨z, q⟩ => ⟨Nat.le_trans (by rw [← r1.length]; exact z) (by decide), fun p hp => by
    obtain ⟨p2, c2⟩ := stp_new (o := .tup vs) c1 hp
    exact k _ (.tup ds) C1 _ _ (p1.trans c1 p2) c2 ⟨p, vs, rfl, .inl (.inl upd_same), r1.mono p2.base⟩ q⟩⟩
theorem we_lst (h : WA T es ρ C fun ds C1 => ds.length ≤ 100000 ∧ Q (.lst ds) C1) : WE T (.List es pos) ρ C Q :=
  PE.imp (pe_lst h) fun σ H R ⟨H0, at_, k⟩ => ⟨H0, at_, fun vs ds C1 H1 H01 p1 c1 r1 ⟨z, q⟩ => ⟨Nat.le_trans (by rw [← r1.length]; exact z) (by decide), fun p hp => by
    obtain ⟨p2, c2⟩ := stp_new (o := .lst vs) c1 hp
    exact k _ (.lst ds) C1 _ _ (p1.trans c1 p2) c2 ⟨p, vs, rfl, .inl (.inl upd_same), r1.mono p2.base⟩ q⟩⟩
theorem we_lstC (h : WA T es ρ C fun ds C1 => ds.length ≤ 100000 ∧ ∀ p, Q (.raw (.ref p)) ((p, .lst ds) :: C1)) : WE T (.List es pos) ρ C Q :=
  PE.imp (pe_lst h) fun σ H R ⟨H0, at_, k⟩ => ⟨H0, at_, fun vs ds C1 H1 H01 p1 c1 r1 ⟨z, q⟩ => ⟨Nat.le_trans (by rw [← r1.length]; exact z) (by decide), fun p hp => by
    obtain ⟨p2, c2⟩ := stp_cell (o := .lst vs) (c := .lst ds) c1 hp ⟨vs, upd_same, r1⟩
    exact k _ (.raw (.ref p)) _ _ _ (p1.trans c1 p2) c2 rfl (q p)⟩⟩

def CW (T : TX X) (f : Value) (ds : List D) (C : Cells) (Q : QE) : Prop := CallR X f fun xs H R => ∃ H0, CellsR X.K H0 C H ∧ Reps X.K H0 ds xs ∧ Cont X H0 C H Q R
def someC (T : TX X) (f : Value) : List V → Hp → VK → Prop := fun xs H R => ∃ ds C Q, CW T f ds C Q ∧ ∃ H0, CellsR X.K H0 C H ∧ Reps X.K H0 ds xs ∧ Cont X H0 C H Q R
theorem call_some (T : TX X) (f : Value) : CallR X f (someC T f) := fun pins s σ H vs us Q I r ⟨ds, C, q, h, k⟩ => h pins s σ H vs us Q I r k
theorem CallR.imp {f : Value} {r r' : List V → Hp → VK → Prop} (h : CallR X f r) (i : ∀ xs H R, r' xs H R → r xs H R) : CallR X f r' := fun pins s σ H vs us Q I rv q => h pins s σ H vs us Q I rv (i _ _ _ q)
theorem cw_look {f : Value} {r : List V → Hp → VK → Prop} {ds : List D} {d : D} (h : CallR X f r) (i : ∀ xs H H0, CellsR X.K H0 C H → Reps X.K H0 ds xs → ∃ v, Rep X.K H0 d v ∧ ∀ R : VK, R v H → r xs H R) (q : Q d C) : CW T f ds C Q :=
  CallR.imp h fun xs H R ⟨H0, c, r1, k⟩ => let ⟨v, rr, j⟩ := i xs H H0 c r1; j R (k.here c rr q)
theorem args_some {t : List V → Hp → VK → Prop} {es : List Expr} {f : Value} (i : ∀ xs H R, someC T f xs H R → t xs H R) : ∀ σ H R, TEx T ρ C Q σ H R → tCB t (TAx T ρ C fun ds C1 => CW T f ds C1 Q) σ H R :=
  fun σ H R ⟨H0, at_, k⟩ => ⟨H0, at_, fun vs ds C1 H1 H01 p1 c1 r1 q1 => i _ _ _ ⟨ds, C1, Q, q1, H01, c1, r1, k.after p1 c1 fun _ _ z => z⟩⟩
theorem we_callB {x : Str} {p : Pos} {id : String} (hg : Gl X x) (hm : X.mg x = none) (hv : bootBuiltins x = some (.builtin id)) (h : WA T (a :: es) ρ C fun ds C1 => CW T (.builtin id) ds C1 Q)
    (hn : x ≠ "__name__" := by decide) (hdb : (x == ("__debug__" : Str)) = false := by decide) (he : starEach (a :: es) X.env = (false, eval a X.env) :: starEach es X.env := by rfl) (hpl : (backTo pos (starEach es X.env)).any (·.1) = false := by rfl) :
    WE T (.Call (.Name x p) (a :: es) [] pos) ρ C Q := PE.imp (pe_callB (call_some T _) hg hm hv h hn hdb he hpl) (args_some (es := es) fun _ _ _ z => z)
theorem we_callTy {x : Str} {p : Pos} {id : String} (hg : Gl X x) (hm : X.mg x = none) (hv : bootBuiltins x = some (.type id)) (h : WA T (a :: es) ρ C fun ds C1 => CW T (.type id) ds C1 Q)
    (hn : x ≠ "__name__" := by decide) (hdb : (x == ("__debug__" : Str)) = false := by decide) (he : starEach (a :: es) X.env = (false, eval a X.env) :: starEach es X.env := by rfl) (hpl : (backTo pos (starEach es X.env)).any (·.1) = false := by rfl) :
    WE T (.Call (.Name x p) (a :: es) [] pos) ρ C Q := PE.imp (pe_callTy (call_some T _) hg hm hv h hn hdb he hpl) (args_some (es := es) fun _ _ _ z => z)
end
end Tr

set_option maxHeartbeats 2000000
namespace Tr
open PySem L2 PySem.Spec PyProof.Rows
section
variable {X : Cx}
abbrev QS := Rho → Cells → Prop
structure TEnds where
  nx : QS
  rt : QE
  bk : QS := fun _ _ => False
  ct : QS := fun _ _ => False
abbrev ContS (X : Cx) (H0 : Hp) (C : Cells) (H : Hp) (Q : QS) (R : L2.St → Hp → Prop) : Prop :=
  ∀ (ρ' : Rho) (σ' : L2.St) C' H' H0', Stp H0 C H H0' C' H' → CellsR X.K H0' C' H' → SlotsR X.K H0' ρ' σ' → ρ'.length = σ'.length → Q ρ' C' → R σ' H'
structure Tail (X : Cx) (H0 : Hp) (C : Cells) (H : Hp) (N : TEnds) (Dn : Ends) : Prop where
  nx : ContS X H0 C H N.nx Dn.nx
  rt : Cont X H0 C H N.rt Dn.rt
  bk : ContS X H0 C H N.bk Dn.bk
  ct : ContS X H0 C H N.ct Dn.ct
theorem ContS.after {H0 H0' H H' : Hp} {C C' : Cells} {Q : QS} {R : L2.St → Hp → Prop} (k : ContS X H0 C H Q R) (p : Stp H0 C H H0' C' H') (c : CellsR X.K H0' C' H') : ContS X H0' C' H' Q R :=
  fun ρ σ C2 H2 H02 p2 c2 s l q => k ρ σ C2 H2 H02 (p.trans c p2) c2 s l q
theorem Tail.after {H0 H0' H H' : Hp} {C C' : Cells} {N : TEnds} {Dn : Ends} (k : Tail X H0 C H N Dn) (p : Stp H0 C H H0' C' H') (c : CellsR X.K H0' C' H') : Tail X H0' C' H' N Dn :=
  ⟨ContS.after k.nx p c, k.rt.after p c fun _ _ z => z, ContS.after k.bk p c, ContS.after k.ct p c⟩
def TSx (T : TX X) (ρ : Rho) (C : Cells) (N : TEnds) : TS := fun Dn σ H => ∃ H0, At T H0 ρ C σ H ∧ Tail X H0 C H N Dn
def WS (T : TX X) (st : Stmt) (ρ : Rho) (C : Cells) (N : TEnds) : Prop := PS X st (TSx T ρ C N)
def WSs (T : TX X) (st : List Stmt) (ρ : Rho) (C : Cells) (N : TEnds) : Prop := PSs X st (TSx T ρ C N)
def someS (T : TX X) (st : List Stmt) : TS := fun Dn σ H => ∃ ρ C N, WSs T st ρ C N ∧ TSx T ρ C N Dn σ H
theorem pss_some (T : TX X) (st : List Stmt) : PSs X st (someS T st) := ⟨fun pins s σ H D I ⟨ρ, C, N, h, t⟩ => h.run pins s σ H D I t⟩

variable {T : TX X} {ρ : Rho} {C : Cells} {N : TEnds} {e a b c : Expr} {pos : Pos} {es : List Expr} {st : Stmt} {rest body : List Stmt}
theorem ContS.here {H0 H : Hp} {Q : QS} {R : L2.St → Hp → Prop} {σ : L2.St} (k : ContS X H0 C H Q R) (at_ : At T H0 ρ C σ H) (q : Q ρ C) : R σ H := k ρ σ C H H0 (Stp.refl _ _ _) at_.c at_.s at_.l q

theorem wss_nil (h : N.nx ρ C) : WSs T [] ρ C N := PSs.imp pss_nil fun Dn σ H ⟨H0, at_, k⟩ => ContS.here k.nx at_ h
theorem wss_cons (h : WS T st ρ C { N with nx := fun ρ1 C1 => WSs T rest ρ1 C1 N }) : WSs T (st :: rest) ρ C N :=
  PSs.imp (pss_cons h (pss_some T rest)) fun Dn σ H ⟨H0, at_, k⟩ => ⟨H0, at_, ⟨fun ρ' σ' C' H' H0' p c s l q => ⟨ρ', C', N, q, H0', ⟨T.up at_.a at_.c p c, c, s, l⟩, k.after p c⟩, k.rt, k.bk, k.ct⟩⟩
theorem wss_one (h : WS T st ρ C N) : WSs T [st] ρ C N := pss_one h
theorem ws_expr (h : WE T e ρ C fun _ C1 => N.nx ρ C1) (hs : swapsWith e none pos.line X.env = pure false := by rfl) : WS T (.Expr e pos) ρ C N :=
  PS.imp (ps_expr h hs) fun Dn σ H ⟨H0, at_, k⟩ => ⟨H0, at_, fun v d C1 H1 H01 p c r q => ContS.here (k.after p c).nx (at_.step p c) q⟩
theorem ws_ret (h : WE T e ρ C N.rt) : WS T (.Return (some e) pos) ρ C N := PS.imp (ps_ret h) fun Dn σ H ⟨H0, at_, k⟩ => ⟨H0, at_, k.rt⟩
theorem ws_if {tb fb : List Stmt} (h : WT T c ρ C fun k C1 => if k = true then WSs T tb ρ C1 N else WSs T fb ρ C1 N) : WS T (.If c tb fb pos) ρ C N :=
  PS.imp (ps_if h (pss_some T tb) (pss_some T fb)) fun Dn σ H ⟨H0, at_, k⟩ => ⟨H0, at_, fun b C1 H1 H01 p c q => by
    cases b with
    | true => exact ⟨ρ, C1, N, q, H01, at_.step p c, k.after p c⟩
    | false => exact ⟨ρ, C1, N, q, H01, at_.step p c, k.after p c⟩⟩

def TGx (T : TX X) (d : D) (ρ : Rho) (C : Cells) (Q : QS) : TG := fun v σ H R => ∃ H0, At T H0 ρ C σ H ∧ Rep X.K H0 d v ∧ ContS X H0 C H Q R
def TGsx (T : TX X) (ds : List D) (ρ : Rho) (C : Cells) (Q : QS) : TGs := fun vs σ H R => ∃ H0, At T H0 ρ C σ H ∧ Reps X.K H0 ds vs ∧ ContS X H0 C H Q R
def WG (T : TX X) (tg : Expr) (d : D) (ρ : Rho) (C : Cells) (Q : QS) : Prop := PG X tg (TGx T d ρ C Q)
def WGs (T : TX X) (tg : List Expr) (ds : List D) (ρ : Rho) (C : Cells) (Q : QS) : Prop := PGs X tg (TGsx T ds ρ C Q)
theorem PG.imp {e : Expr} {t t' : TG} (h : PG X e t) (i : ∀ v σ H R, t' v σ H R → t v σ H R) : PG X e t' := ⟨fun pins s σ H v u Q I r q => h.run pins s σ H v u Q I r (i v σ H Q q)⟩
theorem PGs.imp {e : List Expr} {t t' : TGs} (h : PGs X e t) (i : ∀ v σ H R, t' v σ H R → t v σ H R) : PGs X e t' := ⟨fun pins s σ H v u Q I r q => h.run pins s σ H v u Q I r (i v σ H Q q)⟩
def someG (T : TX X) (tg : Expr) : TG := fun v σ H R => ∃ d ρ C Q, WG T tg d ρ C Q ∧ TGx T d ρ C Q v σ H R
theorem pg_some (T : TX X) (tg : Expr) : PG X tg (someG T tg) := ⟨fun pins s σ H v u Q I r ⟨d, ρ, C, q, h, t⟩ => h.run pins s σ H v u Q I r t⟩
def someGs (T : TX X) (tg : List Expr) : TGs := fun v σ H R => ∃ d ρ C Q, WGs T tg d ρ C Q ∧ TGsx T d ρ C Q v σ H R
theorem pgs_some (T : TX X) (tg : List Expr) : PGs X tg (someGs T tg) := ⟨fun pins s σ H v u Q I r ⟨d, ρ, C, q, h, t⟩ => h.run pins s σ H v u Q I r t⟩
theorem wg_name {d : D} {Q : QS} (i : Nat) {x : Str} (q : Q (ρ.set i (some d)) C) (h : PG X (.Name x pos) (gName i)) : WG T (.Name x pos) d ρ C Q :=
  PG.imp h fun v σ H R ⟨H0, at_, r, k⟩ => k _ _ C H H0 (Stp.refl _ _ _) at_.c (SlotsR.set i at_.s r at_.l) (by rw [List.length_set, List.length_set]; exact at_.l) q
theorem wgs_nil {Q : QS} (q : Q ρ C) : WGs T [] [] ρ C Q := PGs.imp pgs_nil fun v σ H R ⟨H0, at_, r, k⟩ => ⟨r, ContS.here k at_ q⟩
theorem wgs_cons {tg : Expr} {tgs : List Expr} {d : D} {ds : List D} {Q : QS} (h : WG T tg d ρ C fun ρ1 C1 => WGs T tgs ds ρ1 C1 Q)
    (hs : (assignEach (tg :: tgs) X.env).map (·.2) = assign tg X.env :: (assignEach tgs X.env).map (·.2) := by rfl) : WGs T (tg :: tgs) (d :: ds) ρ C Q :=
  PGs.imp (pgs_cons h (pgs_some T tgs) hs) fun v σ H R ⟨H0, at_, ⟨v1, r, e1, r1, r2⟩, k⟩ => ⟨v1, r, e1, H0, at_, r1, fun ρ' σ' C' H' H0' p c s l q =>
    ⟨ds, ρ', C', Q, q, H0', ⟨T.up at_.a at_.c p c, c, s, l⟩, r2.mono p.base, ContS.after k p c⟩⟩
theorem wg_tup {tgs : List Expr} {k : Nat} {ds : List D} {Q : QS} {n : Nat} (hc : X.calm = true) (h : WGs T tgs ds ρ C Q) (hl : ds.length = n)
    (hn : (assignEach tgs X.env).length = n := by rfl) (hst : (assignEach tgs X.env).findIdx? (·.1) = none := by rfl) : WG T (.Tuple tgs k pos) (.tup ds) ρ C Q :=
  PG.imp (pg_tup hc h hn hst) fun v σ H R ⟨H0, at_, ⟨a, vs, e1, q1, r1⟩, k⟩ => ⟨a, vs, e1, Same.sqT at_.c.same q1, by rw [← r1.length]; exact hl, H0, at_, r1, k⟩
theorem ws_asg {tg : Expr} (h : WE T e ρ C fun d C1 => WG T tg d ρ C1 N.nx) (hs : swapsWithSole [tg] e pos.line X.env = pure false := by rfl) (hw : swappedStores [tg] e X.env = pure none := by rfl)
    (h1 : (assignEach [tg] X.env).map (·.2) = [assign tg X.env] := by rfl) : WS T (.Assign [tg] e pos) ρ C N :=
  PS.imp (ps_asg h (pg_some T tg) hs hw h1) fun Dn σ H ⟨H0, at_, k⟩ => ⟨H0, at_, fun v d C1 H1 H01 p c r q => ⟨d, ρ, C1, N.nx, q, H01, at_.step p c, r, (k.after p c).nx⟩⟩
theorem ws_set (i : Nat) {x : Str} {pos' : Pos} (hN : X.N.Nodup) (hi : X.N[i]? = some x) (hx : Loc X.env.scope x) (h : WE T e ρ C fun d C1 => N.nx (ρ.set i (some d)) C1) (hs : swapsWith e (some (.Name x pos')) pos.line X.env = pure false := by rfl)
    (hf : X.fn x = true ∨ X.env.scope.names.lookup x = some .local := by first | exact .inl rfl | exact .inr rfl | assumption) : WS T (.Assign [.Name x pos'] e pos) ρ C N :=
  PS.imp (ps_set hN hi hx h hs hf) fun Dn σ H ⟨H0, at_, k⟩ => ⟨H0, at_, fun v d C1 H1 H01 p c r q =>
    (k.after p c).nx _ _ C1 H1 H01 (Stp.refl _ _ _) c (SlotsR.set i (at_.step p c).s r at_.l) (by rw [List.length_set, List.length_set]; exact at_.l) q⟩

structure Yields (K : W.Frag) (J : It) (H0 : Hp) (P : Cells → Prop) (ds : List D) : Prop where
  go : ∀ (i : Nat) H0' C H, Same H0 H0' → CellsR K H0' C H → P C → i < ds.length → J.go i H
  stop : ∀ (i : Nat) H0' C H, Same H0 H0' → CellsR K H0' C H → P C → ds.length ≤ i → J.stop i H
  yld : ∀ (i : Nat) H0' C H x H' d, Same H0 H0' → CellsR K H0' C H → P C → ds[i]? = some d → J.yld i H x H' → ∃ H0'', Stp H0' C H H0'' C H' ∧ CellsR K H0'' C H' ∧ Rep K H0'' d x
abbrev QI := List D → (Cells → Prop) → Cells → Prop
def TIx (T : TX X) (ρ : Rho) (C : Cells) (Q : QI) : TI := fun σ H R => ∃ H0, At T H0 ρ C σ H ∧ ∀ J ds P C' H' H0', Stp H0 C H H0' C' H' → CellsR X.K H0' C' H' → Yields X.K J H0' P ds → Q ds P C' → R J H'
def WI (T : TX X) (tg iter : Expr) (ρ : Rho) (C : Cells) (Q : QI) : Prop := PI X tg iter (TIx T ρ C Q)
theorem PI.imp {tg e : Expr} {t t' : TI} (h : PI X tg e t) (i : ∀ σ H R, t' σ H R → t σ H R) : PI X tg e t' := ⟨fun pins s σ H R I q => h.run pins s σ H R I (i σ H R q)⟩
theorem yields_list {K : W.Frag} {H0 : Hp} {a : Addr} {vs : List V} {ds : List D} (hs : SqL K H0 a vs) (r : Reps K H0 ds vs) : Yields K (Itl K a) H0 (fun _ => True) ds where
  go := fun i H0' C H e c _ hi => ⟨vs, vs[i]'(by rw [← r.length]; exact hi), Same.sqL (e.trans c.same) hs, by simp⟩
  stop := fun i H0' C H e c _ hi => ⟨vs, Same.sqL (e.trans c.same) hs, by rw [← r.length]; exact hi⟩
  yld := fun i H0' C H x H' d e c _ hd ⟨e1, y⟩ => by
    subst e1
    refine ⟨H0', Stp.refl _ _ _, c, ?_⟩
    have := y vs (Same.sqL (e.trans c.same) hs)
    obtain ⟨v, h1, h2⟩ := r.get hd
    rw [this] at h1; cases h1
    exact h2.mono e
def ForW (T : TX X) (tg : Expr) (body : List Stmt) (P : Cells → Prop) (N : TEnds) : List D → Rho → Cells → Prop
  | [], ρ, C => P C ∧ N.nx ρ C
  | d :: r, ρ, C => P C ∧ WG T tg d ρ C fun ρ1 C1 => WSs T body ρ1 C1 { nx := ForW T tg body P N r, ct := ForW T tg body P N r, bk := N.nx, rt := N.rt }
theorem ForW.p {tg : Expr} {P : Cells → Prop} {ds : List D} (h : ForW T tg body P N ds ρ C) : P C := by
  cases ds with
  | nil => exact h.1
  | cons d r => exact h.1
theorem ws_for {tg iter : Expr} (hc : X.calm = true) (h : WI T tg iter ρ C fun ds P C1 => ForW T tg body P N ds ρ C1) (hs : ∀ x, foldedSetIterable iter X.env x = pure x := by intro _; rfl) : WS T (.For tg iter body [] pos) ρ C N := by
  refine PS.imp (ps_for T.pass hc h (pg_some T tg) (pss_some T body) hs) fun Dn σ H ⟨H0, at_, k⟩ => ⟨H0, at_, fun J ds P C1 H1 H01 p1 c1 y1 q1 => ?_⟩
  refine ⟨fun i m σ2 H2 => m = ds.length - i ∧ i ≤ ds.length ∧ ∃ ρ2 C2 H02, At T H02 ρ2 C2 σ2 H2 ∧ Stp H01 C1 H1 H02 C2 H2 ∧ ForW T tg body P N (ds.drop i) ρ2 C2, ⟨_, rfl, Nat.zero_le _, ρ, C1, H01, at_.step p1 c1, Stp.refl _ _ _, q1⟩, ?_⟩
  rintro i m σ2 H2 ⟨rfl, hi, ρ2, C2, H02, at2, p2, q2⟩
  have hP : P C2 := ForW.p q2
  by_cases hlt : i < ds.length
  · refine .inr ⟨y1.go i _ _ _ p2.base at2.c hP hlt, fun σ3 H3 => ∃ ρ3 C3 H03, At T H03 ρ3 C3 σ3 H3 ∧ Stp H01 C1 H1 H03 C3 H3 ∧ ForW T tg body P N (ds.drop (i + 1)) ρ3 C3, fun σ3 H3 ⟨ρ3, C3, H03, at3, p3, q3⟩ => ⟨_, by omega, rfl, hlt, ρ3, C3, H03, at3, p3, q3⟩, fun x H3 hy => ?_⟩
    obtain ⟨H03, p3, c3, r3⟩ := y1.yld i _ _ _ x H3 ds[i] p2.base at2.c hP (by simp [hlt]) hy
    rw [List.drop_eq_getElem_cons hlt] at q2
    have at3 := at2.step p3 c3
    refine ⟨ds[i], ρ2, C2, _, q2.2, H03, at3, r3, fun ρ4 σ4 C4 H4 H04 p4 c4 s4 l4 q4 => ⟨ρ4, C4, _, q4, H04, ⟨T.up at3.a at3.c p4 c4, c4, s4, l4⟩, ?_⟩⟩
    have at4 : At T H04 ρ4 C4 σ4 H4 := ⟨T.up at3.a at3.c p4 c4, c4, s4, l4⟩
    have p14 : Stp H01 C1 H1 H04 C4 H4 := (p2.trans at2.c p3).trans at3.c p4
    have again : ContS X H04 C4 H4 (ForW T tg body P N (ds.drop (i + 1))) fun σ3 H3 => ∃ ρ3 C3 H03, At T H03 ρ3 C3 σ3 H3 ∧ Stp H01 C1 H1 H03 C3 H3 ∧ ForW T tg body P N (ds.drop (i + 1)) ρ3 C3 :=
      fun ρ5 σ5 C5 H5 H05 p5 c5 s5 l5 q5 => ⟨ρ5, C5, H05, ⟨T.up at4.a at4.c p5 c5, c5, s5, l5⟩, p14.trans c4 p5, q5⟩
    have tail := (k.after p1 c1).after p14 c4
    exact ⟨again, tail.rt, tail.nx, again⟩
  · have e : i = ds.length := by omega
    subst e
    rw [List.drop_length] at q2
    exact .inl ⟨y1.stop _ _ _ _ p2.base at2.c hP (Nat.le_refl _), ContS.here ((k.after p1 c1).after p2 at2.c).nx at2 q2.2⟩

theorem ws_while {cond : Expr} (W : Nat → Rho → Cells → Prop) (m0 : Nat) (h0 : W m0 ρ C)
    (turn : ∀ m ρ C, W m ρ C → WT T cond ρ C fun k C1 => if k = true then WSs T body ρ C1 { nx := fun ρ' C' => ∃ m', m' < m ∧ W m' ρ' C', ct := fun ρ' C' => ∃ m', m' < m ∧ W m' ρ' C', bk := N.nx, rt := N.rt } else N.nx ρ C1) :
    WS T (.While cond body [] pos) ρ C N := by
  have hcond : PT X cond (fun σ H R => ∃ ρ C Q, WT T cond ρ C Q ∧ TTx T ρ C Q σ H R) := ⟨fun pins s σ H Q I ⟨ρ, C, q, h, t⟩ => h.run pins s σ H Q I t⟩
  refine PS.imp (ps_while T.pass hcond (pss_some T body)) fun Dn σ H ⟨H0, at_, k⟩ => ?_
  refine ⟨fun m σ2 H2 => ∃ ρ2 C2 H02, At T H02 ρ2 C2 σ2 H2 ∧ Stp H0 C H H02 C2 H2 ∧ W m ρ2 C2, ⟨m0, ρ, C, H0, at_, Stp.refl _ _ _, h0⟩, ?_⟩
  rintro m σ2 H2 ⟨ρ2, C2, H02, at2, p2, w2⟩
  refine ⟨ρ2, C2, _, turn m ρ2 C2 w2, H02, at2, fun b C3 H3 H03 p3 c3 q3 => ?_⟩
  have at3 := at2.step p3 c3
  have tail := (k.after p2 at2.c).after p3 c3
  cases b with
  | false => exact ContS.here tail.nx at3 q3
  | true =>
    refine ⟨fun σ4 H4 => ∃ m', m' < m ∧ ∃ ρ4 C4 H04, At T H04 ρ4 C4 σ4 H4 ∧ Stp H0 C H H04 C4 H4 ∧ W m' ρ4 C4, fun σ4 H4 ⟨m', hm, z⟩ => ⟨m', hm, z⟩, ρ2, C3, _, q3, H03, at3, ?_⟩
    have again : ContS X H03 C3 H3 (fun ρ' C' => ∃ m', m' < m ∧ W m' ρ' C') fun σ4 H4 => ∃ m', m' < m ∧ ∃ ρ4 C4 H04, At T H04 ρ4 C4 σ4 H4 ∧ Stp H0 C H H04 C4 H4 ∧ W m' ρ4 C4 :=
      fun ρ5 σ5 C5 H5 H05 p5 c5 s5 l5 ⟨m', hm, w5⟩ => ⟨m', hm, ρ5, C5, H05, ⟨T.up at3.a at3.c p5 c5, c5, s5, l5⟩, (p2.trans at2.c p3).trans at3.c p5, w5⟩
    exact ⟨again, tail.rt, tail.nx, again⟩
end
end Tr

set_option maxHeartbeats 2000000
namespace Tr
open PySem L2 PySem.Spec PyProof.Rows

abbrev QX := Value → XF → Cells → Prop
abbrev FS := List D → Cells → QE → QX → Prop
abbrev ContX (K : W.Frag) (H0 : Hp) (C : Cells) (H : Hp) (Qx : QX) (E : XK) : Prop := ∀ cls dd fs C' H' H0', Stp H0 C H H0' C' H' → CellsR K H0' C' H' → ExcR K H0' H' dd fs → Qx cls fs C' → E cls dd H'
abbrev ContK (K : W.Frag) (H0 : Hp) (C : Cells) (H : Hp) (Q : QE) (R : VK) : Prop := ∀ v d C' H' H0', Stp H0 C H H0' C' H' → CellsR K H0' C' H' → Rep K H0' d v → Q d C' → R v H'
def spT (K : W.Frag) (F : FS) : Sp := fun vs H R E => ∃ H0 ds C Q Qx, CellsR K H0 C H ∧ Reps K H0 ds vs ∧ F ds C Q Qx ∧ ContK K H0 C H Q R ∧ ContX K H0 C H Qx E
def rho0 (N : List Str) (ds : List D) : Rho := ds.map some ++ List.replicate (N.length - ds.length) none
theorem slots_start {K : W.Frag} {H0 : Hp} {N : List Str} {ds : List D} {vs : List V} (r : Reps K H0 ds vs) : SlotsR K H0 (rho0 N ds) (L2.start N vs) ∧ (rho0 N ds).length = (L2.start N vs).length := by
  have hl := r.length
  refine ⟨fun i d h => ?_, by simp [rho0, L2.start, hl]⟩
  unfold rho0 at h
  by_cases hi : i < ds.length
  · rw [List.getElem?_append_left (by simpa using hi), List.getElem?_map] at h
    cases e : ds[i]? with
    | none => rw [e] at h; cases h
    | some d' =>
      rw [e] at h; cases h
      obtain ⟨v, h1, h2⟩ := r.get e
      refine ⟨v, ?_, h2⟩
      unfold L2.start
      rw [List.getElem?_append_left (by simp [← hl, hi]), List.getElem?_map, h1]; rfl
  · rw [List.getElem?_append_right (by simpa using hi), List.getElem?_replicate] at h
    split at h <;> cases h

section
variable {P : Program} {w : World} {K : W.Frag} {mg : Str → Option Value} {base : Heap}
def bodyT {N : List Str} {qual : Str} {scope : Scope} {f : Addr} {cdv : Value} {A : Around} {outer : List Env} {s : Shared} {H : Hp} {E : XK} {H0 : Hp} {C : Cells} {Qx : QX} (hE : ContX K H0 C H Qx E) :
    TX (cxOf (CallX P w) P w K mg base N qual scope f cdv A outer s H E) where
  A := fun H0' C' H' => Stp H0 C H H0' C' H'
  up := fun a c p c' => a.trans c p
  XQ := fun cls fs _ C' => Qx cls fs C'
  tk := (tkX_of (X := cxOf (CallX P w) P w K mg base N qual scope f cdv A outer s H E) rfl rfl rfl rfl).imp fun cls d σ H' ⟨fs, ρ, C', H0', a, c, _, _, x, q⟩ => hE cls d fs C' H' H0' a c x q
  pass := passes_of rfl
  pas := fun A' A'' h => PassesOwnAt.leavingOf h
structure RoomG (k : Nat) (A : Around) : Prop where
  rm : Room k A
  gd : A.guards = some []
theorem RoomG.mono {j k : Nat} {A : Around} (r : RoomG k A) (h : j ≤ k) : RoomG j A := ⟨r.rm.mono h, r.gd⟩
theorem RoomG.deeper {k : Nat} {A : Around} (r : RoomG (k + 1) A) (env : Env) : RoomG k (A.deeper env) := ⟨r.rm.deeper env, r.gd⟩
theorem RoomG.make {k : Nat} {A : Around} (r : RoomG (k + 1) A) (C : Addr) (us : List Value) (kw : List (Str × Value)) : RoomG k (A.under (.builtin "type.__call__" ⟨.ref C :: us, kw⟩)) := by
  refine ⟨r.rm.make C us kw, ?_⟩
  show pushGuards (Code.guards (.builtin "type.__call__" ⟨.ref C :: us, kw⟩)) A.guards = some []
  have e : Code.guards (.builtin "type.__call__" ⟨.ref C :: us, kw⟩) = [] := by
    have n : guardIds.contains "type.__call__" = false := by decide
    unfold Code.guards Code.isGuard
    simp only [n, Bool.false_eq_true, if_false]
  rw [e]; exact r.gd
structure FnG (P : Program) (w : World) (K : W.Frag) (mg : Str → Option Value) (base : Heap) (k : Nat) (f : Addr) (fd : FuncData) (ps : List Str) (F : FS) : Prop where
  len : ∀ ds C Q Qx, F ds C Q Qx → ds.length = ps.length
  run : ∀ (A : Around) (outer : List Env) (s : Shared) (H : Hp) (args : Args) (us : List Value) (vs : List V) (R : VK) (E : XK), RoomG k A → Env0 P w K mg base A outer s H → BindsTo s fd args (ps.zip us) → Vals vs us → spT K F vs H R E →
    codeAny (model P w) A (.call (.ref f) args) (CR (CallX P w) outer P w H s R E) s
theorem FnG.mono {P : Program} {w : World} {K : W.Frag} {mg : Str → Option Value} {base : Heap} {j k : Nat} {f : Addr} {fd : FuncData} {ps : List Str} {F : FS} (h : FnG P w K mg base j f fd ps F) (e : j ≤ k) : FnG P w K mg base k f fd ps F :=
  ⟨h.len, fun A outer s H args us vs R E hr => h.run A outer s H args us vs R E (hr.mono e)⟩
theorem FnG.imp {P : Program} {w : World} {K : W.Frag} {mg : Str → Option Value} {base : Heap} {k : Nat} {f : Addr} {fd : FuncData} {ps : List Str} {F F' : FS} (h : FnG P w K mg base k f fd ps F) (i : ∀ ds C Q Qx, F' ds C Q Qx → F ds C Q Qx) : FnG P w K mg base k f fd ps F' :=
  ⟨fun ds C Q Qx z => h.len _ _ _ _ (i _ _ _ _ z), fun A outer s H args us vs R E hr e0 hb rv ⟨H0, ds, C, Q, Qx, c, r, z, k1, k2⟩ => h.run A outer s H args us vs R E hr e0 hb rv ⟨H0, ds, C, Q, Qx, c, r, i _ _ _ _ z, k1, k2⟩⟩
theorem fnT {x qual : Str} {params : Arguments} {body : List Stmt} {scope : Scope} {dvs : List V} {kws : List (Str × V)} {f : Addr} {fd : FuncData} {N ps : List Str} {k : Nat} {F : FS}
    (Fd : FunD K x qual params body scope dvs kws f fd) (S : FnScope N ps scope) (len : ∀ ds C Q Qx, F ds C Q Qx → ds.length = ps.length)
    (hbody : ∀ (cdv : Value) (A : Around) (outer : List Env) (s : Shared) (H : Hp) (E : XK) (T : TX (cxOf (CallX P w) P w K mg base N qual scope f cdv A outer s H E)) (ds : List D) (C : Cells) (Q : QE),
      RoomG k (cxOf (CallX P w) P w K mg base N qual scope f cdv A outer s H E).A → F ds C Q (fun cls fs C' => ∀ ρ, T.XQ cls fs ρ C') → WSs T body (rho0 N ds) C { nx := fun _ C' => Q .non C', rt := Q }) :
    FnG P w K mg base (k + 1) f fd ps F := by
  obtain ⟨oc, od, dV, kV, doc, pm, an, cdv, ct, osl, efd, lk, hcd, _, _⟩ := Fd.ex
  subst efd
  refine ⟨len, fun A outer s H args us vs R E hr e0 hb rv ⟨H0, ds, C, Q, Qx, c, r, h, kR, kE⟩ => ?_⟩
  have nvs : vs.length = ps.length := r.length.symm.trans (len _ _ _ _ h)
  have keepB := fun (b : Addr) (o : Obj) (e : base.get? b = some o) => (e0.bs b o e).1
  have inHeap := e0.mod.kin.keeps keepB
  have quiet := e0.mod.nolimit.keeps keepB
  have cellsOk : ∀ y ∈ ps.zip us, scope.names.lookup y.1 = some .local ∨ (scope.names.lookup y.1 = some .cell ∧ ((cellsFrom (s.heap.objs.size + 1) scope.names []).lookup y.1).isSome = true) := by
    rintro ⟨n, v⟩ hy
    exact (S.par n (List.of_mem_zip hy).1).imp id fun q => ⟨q, W.cellsFrom_some _ _ _ (.inl q)⟩
  refine codeAny_call_function hr.rm.depth (inHeap _ _ lk) rfl S.co S.gen rfl (W.codeRec_of inHeap hcd) (hb _ _ _ _ (wpAny_newFunctionEnv_cells S.kind cellsOk ?_))
  intro env he s1 entered
  subst he
  refine ⟨quiet.keeps entered.toInCall.keep, codeAny_func ?_⟩
  have I := inv_start (CX := CallX P w) (N := N) (E := E) (H := H) S hr.rm.hd e0 nvs rv entered
  obtain ⟨sl, ln⟩ := slots_start (N := N) r
  have hb2 := hbody cdv A outer s H E (bodyT kE) ds C Q (hr.deeper _) (by
    have same : (fun cls fs C' => ∀ ρ : Rho, (bodyT (P := P) (w := w) (K := K) (mg := mg) (base := base) (N := N) (qual := qual) (scope := scope) (f := f) (cdv := cdv) (A := A) (outer := outer) (s := s) kE).XQ cls fs ρ C') = Qx := by
      funext cls fs C'
      exact propext ⟨fun z => z [], fun z _ => z⟩
    rw [same]; exact h)
  have went := hb2.run [] s1 _ H { nx := fun _ H' => R .non H', rt := R } I ⟨H0, ⟨Stp.refl _ _ _, c, sl, ln⟩, ⟨fun _ _ C' H' H0' p c' _ _ q => kR .non .non C' H' H0' p c' rfl q, kR, fun _ _ _ _ _ _ _ _ _ q => False.elim q, fun _ _ _ _ _ _ _ _ _ q => False.elim q⟩⟩
  refine wpAny_mono went ?_ fun _ _ z => z
  rintro (_ | _ | _ | u) s' hs
  · obtain ⟨_, H', J, q⟩ := hs
    exact ⟨.non, H', J.os, J.bare, J.base, J.hok, rfl, q⟩
  · exact False.elim (let ⟨_, _, _, q⟩ := hs; q)
  · exact False.elim (let ⟨_, _, _, q⟩ := hs; q)
  · obtain ⟨v, _, H', J, rv', q⟩ := hs
    exact ⟨v, H', J.os, J.bare, J.base, J.hok, rv', q⟩
end

theorem CellsR.part {K : W.Frag} {H0 H : Hp} {C μ r : Cells} (c : CellsR K H0 C H) (p : C.Perm (μ ++ r)) : CellsR K H0 μ H :=
  ⟨c.same, fun a ⟨x, hx⟩ => c.free a ⟨x, p.mem_iff.mpr (List.mem_append_left _ hx)⟩, fun a x hx => c.ok a x (p.mem_iff.mpr (List.mem_append_left _ hx)),
    (List.nodup_append.mp (by have := (p.map (·.1)).nodup_iff.mp c.nd; rwa [List.map_append] at this)).1⟩
theorem CellsR.back {K : W.Frag} {H0 H H0' H' : Hp} {C μ r μ' : Cells} (c : CellsR K H0 C H) (p : C.Perm (μ ++ r)) (st : Stp H0 μ H H0' μ' H') (c' : CellsR K H0' μ' H') :
    Stp H0 C H H0' (μ' ++ r) H' ∧ CellsR K H0' (μ' ++ r) H' := by
  have nd := (p.map (·.1)).nodup_iff.mp c.nd
  rw [List.map_append, List.nodup_append] at nd
  have off : ∀ a, Dom r a → ¬ Dom μ a := fun a ⟨x, hx⟩ ⟨y, hy⟩ => nd.2.2 a (List.mem_map.mpr ⟨_, hy, rfl⟩) a (List.mem_map.mpr ⟨_, hx, rfl⟩) rfl
  have inC : ∀ a, Dom r a → Dom C a := fun a ⟨x, hx⟩ => ⟨x, p.mem_iff.mpr (List.mem_append_right _ hx)⟩
  have rest : ∀ a, Dom r a → H0' a = none ∧ ¬ Dom μ' a ∧ H' a = H a := fun a d => by
    obtain ⟨x, hx⟩ := id d
    have ne := (c.ok a x (p.mem_iff.mpr (List.mem_append_right _ hx))).some
    obtain ⟨q1, q2⟩ := st.own a ne (c.free a (inC a d)) (off a d)
    obtain ⟨o, ho⟩ := Option.ne_none_iff_exists'.mp ne
    exact ⟨q1, q2, by rw [ho]; exact st.fr a o ho (off a d)⟩
  have domC : ∀ a, Dom C a ↔ Dom μ a ∨ Dom r a := fun a => by
    constructor
    · rintro ⟨x, hx⟩
      rcases List.mem_append.mp (p.mem_iff.mp hx) with h | h
      · exact .inl ⟨x, h⟩
      · exact .inr ⟨x, h⟩
    · rintro (⟨x, hx⟩ | h)
      · exact ⟨x, p.mem_iff.mpr (List.mem_append_left _ hx)⟩
      · exact inC a h
  refine ⟨⟨st.base, fun a o h n => st.fr a o h fun d => n ((domC a).mpr (.inl d)), fun a h e n => ?_⟩, ⟨c'.same, fun a d => ?_, fun a x hx => ?_, ?_⟩⟩
  · obtain ⟨q1, q2⟩ := st.own a h e fun d => n ((domC a).mpr (.inl d))
    refine ⟨q1, fun ⟨x, hx⟩ => ?_⟩
    rcases List.mem_append.mp hx with hx | hx
    · exact q2 ⟨x, hx⟩
    · exact n ((domC a).mpr (.inr ⟨x, hx⟩))
  · obtain ⟨x, hx⟩ := d
    rcases List.mem_append.mp hx with hx | hx
    · exact c'.free a ⟨x, hx⟩
    · exact (rest a ⟨x, hx⟩).1
  · rcases List.mem_append.mp hx with hx | hx
    · exact c'.ok a x hx
    · exact (c.ok a x (p.mem_iff.mpr (List.mem_append_right _ hx))).mono st.base (rest a ⟨x, hx⟩).2.2
  · rw [List.map_append, List.nodup_append]
    refine ⟨c'.nd, nd.2.1, fun a ha b hb e => ?_⟩
    subst e
    obtain ⟨⟨a1, x⟩, h1, h2⟩ := List.mem_map.mp ha
    obtain ⟨⟨a2, y⟩, h3, h4⟩ := List.mem_map.mp hb
    simp only at h2 h4
    subst h2; subst h4
    exact (rest _ ⟨y, h3⟩).2.1 ⟨x, h1⟩

section
variable {X : Cx} {T : TX X} {ρ : Rho} {C : Cells} {Q : QE} {e a b o : Expr} {pos p apos : Pos} {es : List Expr} {k : Nat} {f Cl : Addr} {fd : FuncData} {ps : List Str} {F : FS} {dvs : List V} {dds : List D} {dus : List Value} {x m : Str}
def Asks (T : TX X) (F : FS) (ρ : Rho) (ds : List D) (C : Cells) (Q : QE) : Prop :=
  ∃ μ r, C.Perm (μ ++ r) ∧ F ds μ (fun d μ' => Q d (μ' ++ r)) fun cls fs μ' => T.XQ cls fs ρ (μ' ++ r)
theorem asks_sp {H0 H : Hp} {ds : List D} {vs : List V} {R : VK} {σ : L2.St} (h : Asks T F ρ ds C Q) (at_ : At T H0 ρ C σ H) (r : Reps X.K H0 ds vs) (k : Cont X H0 C H Q R) :
    spT X.K F vs H R (L2.WE (fun cls d σ H => ∃ fs ρ C H0, T.A H0 C H ∧ CellsR X.K H0 C H ∧ SlotsR X.K H0 ρ σ ∧ ρ.length = σ.length ∧ ExcR X.K H0 H d fs ∧ T.XQ cls fs ρ C) σ) := by
  obtain ⟨μ, rr, pm, h⟩ := h
  refine ⟨H0, ds, μ, _, _, at_.c.part pm, r, h, fun v d C' H' H0' p c r' q => ?_, fun cls dd fs C' H' H0' p c x q => ?_⟩
  · obtain ⟨p2, c2⟩ := at_.c.back pm p c
    exact k v d _ H' H0' p2 c2 r' q
  · obtain ⟨p2, c2⟩ := at_.c.back pm p c
    have a2 := at_.step p2 c2
    exact ⟨fs, ρ, _, H0', a2.a, a2.c, a2.s, a2.l, x, q⟩
theorem run_T {pins : List (Addr × Obj)} {σ : L2.St} {H H0 : Hp} {s : Shared} {R : VK} {us : List Value} {vs : List V} {ds : List D} (Fk : FnG X.prog X.w X.K X.mg X.base k f fd ps F) (hr : RoomG k X.A) (hb : Binds X.K fd ps dus) (hd : Vals dvs dus) (hdd : ∀ H, Reps X.K H dds dvs)
    (I : Inv X pins σ H s) (rv : Vals vs us) (at_ : At T H0 ρ C σ H) (r : Reps X.K H0 ds vs) (h : Asks T F ρ (ds ++ dds) C Q) (k : Cont X H0 C H Q R) : wpAny (model X.prog X.w) X.A (call (.ref f) us) (EP X pins σ R) X.xe s := by
  have all := asks_sp h at_ (r.append (hdd H0)) k
  have nlen : (us ++ dus).length = ps.length := by
    obtain ⟨_, ds', _, _, _, _, r', h', _⟩ := id all
    rw [← (rv.append hd).length, ← r'.length]
    exact Fk.len _ _ _ _ h'
  have went := Fk.run X.A X.stack s H ⟨us, []⟩ (us ++ dus) (vs ++ dvs) R _ hr I.env0 (hb s us I.kIn nlen) (rv.append hd) all
  refine wpAny_call (codeAny_mono went ?_)
  rintro (e | (_ | _ | _ | u)) s' hq
  · exact passX T.tk σ pins H s e s' I hq
  · exact False.elim hq
  · exact False.elim hq
  · exact False.elim hq
  · exact I.after hq
theorem we_call (Fk : FnG X.prog X.w X.K X.mg X.base k f fd ps F) (hr : RoomG k X.A) (hg : Gl X x) (hm : X.mg x = some (.ref f)) (hk : W.keepIn X.K (.ref f) = true) (hb : Binds X.K fd ps dus) (hd : Vals dvs dus) (hdd : ∀ H, Reps X.K H dds dvs)
    (h : WA T (a :: es) ρ C fun ds C1 => Asks T F ρ (ds ++ dds) C1 Q) (hdb : (x == ("__debug__" : Str)) = false := by decide) (he : starEach (a :: es) X.env = (false, eval a X.env) :: starEach es X.env := by rfl) (hpl : (backTo pos (starEach es X.env)).any (·.1) = false := by rfl) :
    WE T (.Call (.Name x p) (a :: es) [] pos) ρ C Q := by
  refine ⟨fun pins s σ H R I ⟨H0, at_, k⟩ => wpAny_Call_Name_kw (ld_glob I hg hm (W.callWith_K (h₀ := X.base) I.ok.mod.kin hk ?_ he hpl) hdb)⟩
  refine thn (h.run pos pins s σ H (fun vs H1 => ∃ ds C1 H01, At T H01 ρ C1 σ H1 ∧ Cont X H01 C1 H1 Q R ∧ Reps X.K H01 ds vs ∧ Asks T F ρ (ds ++ dds) C1 Q) I ⟨H0, at_, fun vs ds C1 H1 H01 p1 c1 r1 q1 => ⟨ds, C1, H01, at_.step p1 c1, k.after p1 c1 fun _ _ z => z, r1, q1⟩⟩) ?_
  exact fun us s1 ⟨vs, H1, I1, rv, ds, C1, H01, at1, k1, r1, q1⟩ => ⟨I1.kIn, run_T Fk hr hb hd hdd I1 rv at1 r1 q1 k1⟩
def InsD (C : Cells) (d : D) (Cl : Addr) (ns : List Str) (ds : List D) : Prop := d = .ins Cl ns ds ∨ ∃ a, d = .raw (.ref a) ∧ (a, Cell.ins Cl ns ds) ∈ C
theorem ins_at {H0 H : Hp} {d : D} {v : V} {ns : List Str} {ds : List D} (c : CellsR X.K H0 C H) (r : Rep X.K H0 d v) (h : InsD C d Cl ns ds) : ∃ a dx vs, v = .ref a ∧ H a = some (.ins Cl dx (ns.zip vs)) ∧ ns.length = vs.length ∧ Reps X.K H0 ds vs := by
  rcases h with rfl | ⟨a, rfl, hm⟩
  · obtain ⟨a, dx, vs, h1, h2, h3, h4⟩ := r
    exact ⟨a, dx, vs, h1, c.same _ _ h2, h3, h4⟩
  · obtain ⟨dx, vs, h2, h3, h4⟩ := c.ok a _ hm
    exact ⟨a, dx, vs, r, h2, h3, h4⟩
theorem lookup_zip {K : W.Frag} {H0 : Hp} {f : Str} {d : D} : ∀ {ns : List Str} {ds : List D} {vs : List V}, Reps K H0 ds vs → ns.length = vs.length → (ns.zip ds).lookup f = some d → ∃ v, (ns.zip vs).lookup f = some v ∧ Rep K H0 d v
  | [], _, _, _, _, h => by simp at h
  | n :: ns, [], _, _, _, h => by simp at h
  | n :: ns, d0 :: ds, vs, ⟨v, r, h1, h2, h3⟩, hl, h => by
    subst h1
    rw [List.zip_cons_cons, List.lookup_cons] at h ⊢
    cases e : f == n with
    | true => rw [e] at h; cases h; exact ⟨v, rfl, h2⟩
    | false => rw [e] at h; exact lookup_zip h3 (by simpa using hl) h
theorem we_fld (hb : attributeBase e m X.env (eval e X.env) = eval e X.env) (h : WE T e ρ C fun d C1 => ∃ Cl ns ds d', InsD C1 d Cl ns ds ∧ Cls X.K Cl ∧ NoAttr X.K Cl m ∧ (ns.zip ds).lookup m = some d' ∧ Q d' C1) : WE T (.Attribute e m pos) ρ C Q :=
  PE.imp (pe_fld h hb) fun σ H R ⟨H0, at_, k⟩ => ⟨H0, at_, fun v d C1 H1 H01 p1 c1 r1 ⟨Cl, ns, ds, d', hi, hc, hn, hl, q⟩ => by
    obtain ⟨a, dx, vs, e1, e2, e3, e4⟩ := ins_at c1 r1 hi
    obtain ⟨v', g1, g2⟩ := lookup_zip e4 e3 hl
    exact ⟨a, Cl, dx, _, v', e1, e2, hc, hn, g1, k _ d' C1 H1 H01 p1 c1 g2 q⟩⟩
end
end Tr

set_option maxHeartbeats 2000000
namespace Tr
open PySem L2 PySem.Spec PyProof.Rows

section
variable {X : Cx} {T : TX X} {ρ : Rho} {C : Cells} {Q : QE} {e a b o : Expr} {pos p apos : Pos} {es : List Expr} {k : Nat} {f Cl : Addr} {fd : FuncData} {ps : List Str} {F : FS} {dvs : List V} {dds : List D} {dus : List Value} {x m : Str}
def AsksM (T : TX X) (F : FS) (Cl : Addr) (ρ : Rho) (ds : List D) (C : Cells) (Q : QE) : Prop :=
  ∃ μ r, C.Perm (μ ++ r) ∧ ∀ z, F (.raw (.ref z) :: ds) ((z, .ins Cl [] []) :: μ) (fun d μ' => d = .non ∧ Q (.raw (.ref z)) (μ' ++ r)) fun cls fs μ' => T.XQ cls fs ρ (μ' ++ r)
theorem stp_made {K : W.Frag} {H0 H : Hp} {C : Cells} {z dz Cl : Addr} (c : CellsR K H0 C H) (hz : H z = none) (hdz : H dz = none) (ne : dz ≠ z) :
    Stp H0 C H (upd H0 dz (.own z)) ((z, .ins Cl [] []) :: C) (upd (upd H dz (.own z)) z (.ins Cl dz [])) ∧ CellsR K (upd H0 dz (.own z)) ((z, .ins Cl [] []) :: C) (upd (upd H dz (.own z)) z (.ins Cl dz [])) := by
  obtain ⟨p1, c1⟩ := stp_new (o := .own z) c hdz
  have hz1 : (upd H dz (.own z)) z = none := by rw [upd_ne (Ne.symm ne)]; exact hz
  obtain ⟨p2, c2⟩ := stp_cell (o := .ins Cl dz []) (c := .ins Cl [] []) c1 hz1 ⟨dz, [], by rw [upd_same]; rfl, rfl, Reps.nil⟩
  exact ⟨p1.trans c1 p2, c2⟩
theorem asksM_sp {H0 H : Hp} {ds : List D} {vs : List V} {R : VK} {σ : L2.St} (h : AsksM T F Cl ρ ds C Q) (at_ : At T H0 ρ C σ H) (r : Reps X.K H0 ds vs) (k : Cont X H0 C H Q R) {z dz : Addr} (hz : H z = none) (hdz : H dz = none) (ne : dz ≠ z) :
    spT X.K F (.ref z :: vs) (upd (upd H dz (.own z)) z (.ins Cl dz [])) (fun v H2 => v = .non ∧ R (.ref z) H2) (L2.WE (fun cls d σ H => ∃ fs ρ C H0, T.A H0 C H ∧ CellsR X.K H0 C H ∧ SlotsR X.K H0 ρ σ ∧ ρ.length = σ.length ∧ ExcR X.K H0 H d fs ∧ T.XQ cls fs ρ C) σ) := by
  obtain ⟨μ, rr, pm, h⟩ := h
  obtain ⟨p1, c1⟩ := stp_made (Cl := Cl) at_.c hz hdz ne
  have at1 := at_.step p1 c1
  have pm1 : ((z, Cell.ins Cl [] []) :: C).Perm (((z, Cell.ins Cl [] []) :: μ) ++ rr) := by rw [List.cons_append]; exact pm.cons _
  refine ⟨upd H0 dz (.own z), .raw (.ref z) :: ds, (z, .ins Cl [] []) :: μ, _, _, c1.part pm1, Reps.cons rfl (r.mono p1.base), h z, fun v d C' H' H0' p c r' ⟨q1, q2⟩ => ?_, fun cls dd fs C' H' H0' p c xr q => ?_⟩
  · subst q1
    obtain ⟨p2, c2⟩ := c1.back pm1 p c
    exact ⟨r', k (.ref z) (.raw (.ref z)) _ H' H0' (p1.trans c1 p2) c2 rfl q2⟩
  · obtain ⟨p2, c2⟩ := c1.back pm1 p c
    have a3 := at_.step (p1.trans c1 p2) c2
    exact ⟨fs, ρ, _, H0', a3.a, a3.c, a3.s, a3.l, xr, q⟩
theorem run_makeT {pins : List (Addr × Obj)} {σ : L2.St} {H H0 : Hp} {s : Shared} {R : VK} {us : List Value} {vs : List V} {ds : List D} (M : Mk X.K Cl f) (Fk : FnG X.prog X.w X.K X.mg X.base k f fd ps F) (hr : RoomG (k + 1) X.A) (hb : Binds X.K fd ps dus) (hd : Vals dvs dus) (hdd : ∀ H, Reps X.K H dds dvs)
    (I : Inv X pins σ H s) (rv : Vals vs us) (at_ : At T H0 ρ C σ H) (r : Reps X.K H0 ds vs) (h : AsksM T F Cl ρ (ds ++ dds) C Q) (k : Cont X H0 C H Q R) : wpAny (model X.prog X.w) X.A (call (.ref Cl) us) (EP X pins σ R) X.xe s := by
  have J := Inv.made (C := Cl) I
  have all := asksM_sp h at_ (r.append (hdd H0)) k (z := s.heap.objs.size + 1) (dz := s.heap.objs.size) (I.hok.fresh (Nat.le_succ _)) (I.hok.fresh (Nat.le_refl _)) (Nat.ne_of_lt (Nat.lt_succ_self _))
  have rall : Vals (V.ref (s.heap.objs.size + 1) :: (vs ++ dvs)) (Value.ref (s.heap.objs.size + 1) :: (us ++ dus)) := .cons rfl (rv.append hd)
  have nlen : ((Value.ref (s.heap.objs.size + 1) :: us) ++ dus).length = ps.length := by
    obtain ⟨_, ds', _, _, _, _, r', h', _⟩ := id all
    have e1 := Fk.len _ _ _ _ h'
    rw [r'.length, rall.length] at e1
    exact e1
  have went := Fk.run _ X.stack _ _ ⟨Value.ref (s.heap.objs.size + 1) :: us, []⟩ _ _ _ _ (hr.make Cl us []) (J.env0.make Cl us []) (hb _ (Value.ref (s.heap.objs.size + 1) :: us) J.kIn nlen) rall all
  refine wpAny_call (make_map (f := f) I.kIn M.makes M.init (beq_iff_eq.mp M.fn) (codeAny_mono went ?_))
  rintro (e | (_ | _ | _ | u)) s' hq
  · exact passX T.tk σ pins _ _ e s' J hq
  · exact False.elim hq
  · exact False.elim hq
  · exact False.elim hq
  · obtain ⟨v, H', I', rv', ev, q⟩ := J.after hq
    subst ev
    exact ⟨rv', .ref (s.heap.objs.size + 1), H', I', rfl, q⟩
theorem we_make (M : Mk X.K Cl f) (Fk : FnG X.prog X.w X.K X.mg X.base k f fd ps F) (hr : RoomG (k + 1) X.A) (hg : Gl X x) (hm : X.mg x = some (.ref Cl)) (hb : Binds X.K fd ps dus) (hd : Vals dvs dus) (hdd : ∀ H, Reps X.K H dds dvs)
    (h : WA T (a :: es) ρ C fun ds C1 => AsksM T F Cl ρ (ds ++ dds) C1 Q) (hdb : (x == ("__debug__" : Str)) = false := by decide) (he : starEach (a :: es) X.env = (false, eval a X.env) :: starEach es X.env := by rfl) (hpl : (backTo pos (starEach es X.env)).any (·.1) = false := by rfl) :
    WE T (.Call (.Name x p) (a :: es) [] pos) ρ C Q := by
  refine ⟨fun pins s σ H R I ⟨H0, at_, k⟩ => wpAny_Call_Name_kw (ld_glob I hg hm (W.callWith_K (h₀ := X.base) I.ok.mod.kin M.kp ?_ he hpl) hdb)⟩
  refine thn (h.run pos pins s σ H (fun vs H1 => ∃ ds C1 H01, At T H01 ρ C1 σ H1 ∧ Cont X H01 C1 H1 Q R ∧ Reps X.K H01 ds vs ∧ AsksM T F Cl ρ (ds ++ dds) C1 Q) I
    ⟨H0, at_, fun vs ds C1 H1 H01 p1 c1 r1 q1 => ⟨ds, C1, H01, at_.step p1 c1, k.after p1 c1 fun _ _ z => z, r1, q1⟩⟩) ?_
  exact fun us s1 ⟨vs, H1, I1, rv, ds, C1, H01, at1, k1, r1, q1⟩ => ⟨I1.kIn, run_makeT M Fk hr hb hd hdd I1 rv at1 r1 q1 k1⟩
theorem we_make0 (M : Mk X.K Cl f) (Fk : FnG X.prog X.w X.K X.mg X.base k f fd ps F) (hr : RoomG (k + 1) X.A) (hg : Gl X x) (hm : X.mg x = some (.ref Cl)) (hb : Binds X.K fd ps dus) (hd : Vals dvs dus) (hdd : ∀ H, Reps X.K H dds dvs)
    (h : AsksM T F Cl ρ dds C Q) (hdb : (x == ("__debug__" : Str)) = false := by decide) : WE T (.Call (.Name x p) [] [] pos) ρ C Q :=
  ⟨fun pins s σ H R I ⟨H0, at_, k⟩ => wpAny_Call_Name_kw (ld_glob I hg hm (W.callWith_K0 I.kIn M.kp (run_makeT (us := []) (vs := []) (ds := []) M Fk hr hb hd hdd I .nil at_ Reps.nil h k)) hdb)⟩

def Cell.toD : Cell → D
  | .lst ds => .lst ds
  | .dK ks ds => .dic ks ds
  | .ins Cl ns ds => .ins Cl ns ds
theorem stp_freeze {K : W.Frag} {H0 H : Hp} {C : Cells} {i : Nat} {z : Addr} {c : Cell} (r : CellsR K H0 C H) (hi : C[i]? = some (z, c)) :
    ∃ o, H z = some o ∧ Stp H0 C H (upd H0 z o) (C.eraseIdx i) H ∧ CellsR K (upd H0 z o) (C.eraseIdx i) H ∧ Rep K (upd H0 z o) c.toD (.ref z) := by
  have hm : (z, c) ∈ C := List.mem_iff_getElem?.mpr ⟨i, hi⟩
  have ok := r.ok z c hm
  obtain ⟨o, ho⟩ := Option.ne_none_iff_exists'.mp ok.some
  have n0 := r.free z ⟨c, hm⟩
  have s0 : Same H0 (upd H0 z o) := fun a u h => by rw [upd_ne (ne_of_none h n0)]; exact h
  have er : ∀ a x, (a, x) ∈ C.eraseIdx i → (a, x) ∈ C ∧ a ≠ z := fun a x h => by
    have h' := List.mem_of_mem_eraseIdx h
    refine ⟨h', fun e => ?_⟩
    subst e
    obtain ⟨j, hj⟩ := List.mem_iff_getElem?.mp h
    rw [List.getElem?_eraseIdx] at hj
    have nd := r.nd
    have key : ∀ j', C[j']? = some (a, x) → j' = i := fun j' hj' => by
      have h1 : (C.map (·.1))[i]? = some a := by rw [List.getElem?_map, hi]; rfl
      have h2 : (C.map (·.1))[j']? = some a := by rw [List.getElem?_map, hj']; rfl
      obtain ⟨l1, e1⟩ := List.getElem?_eq_some_iff.mp h1
      obtain ⟨l2, e2⟩ := List.getElem?_eq_some_iff.mp h2
      exact ((List.getElem_inj nd).mp (e1.trans e2.symm)).symm
    split at hj
    · have := key _ hj; omega
    · have := key _ hj; omega
  refine ⟨o, ho, ⟨s0, fun a u h _ => h, fun a h e n => ⟨?_, fun ⟨x, hx⟩ => n ⟨x, (er a x hx).1⟩⟩⟩, ⟨fun a u h => ?_, fun a ⟨x, hx⟩ => ?_, fun a x hx => (r.ok a x (er a x hx).1).mono s0 rfl, ?_⟩, ?_⟩
  · rw [upd_ne (show a ≠ z from fun q => n ⟨c, by rw [q]; exact hm⟩)]; exact e
  · by_cases q : a = z
    · subst q; rw [upd_same] at h; cases h; exact ho
    · rw [upd_ne q] at h; exact r.same a u h
  · rw [upd_ne (er a x hx).2]; exact r.free a ⟨x, (er a x hx).1⟩
  · exact r.nd.sublist ((List.eraseIdx_sublist _ _).map _)
  · cases c with
    | lst ds =>
      obtain ⟨vs, q1, q2⟩ := ok
      rw [ho] at q1; cases q1
      exact ⟨z, vs, rfl, .inl (.inl upd_same), q2.mono s0⟩
    | dK ks ds =>
      obtain ⟨vs, q1, q3, q2⟩ := ok
      rw [ho] at q1; cases q1
      exact ⟨z, vs, rfl, .inl upd_same, q3, q2.mono s0⟩
    | ins Cl ns ds =>
      obtain ⟨dx, vs, q1, q3, q2⟩ := ok
      rw [ho] at q1; cases q1
      exact ⟨z, dx, vs, rfl, upd_same, q3, q2.mono s0⟩
theorem we_frz (h : WE T e ρ C fun d C1 => ∃ (i : Nat) (z : Addr) (c : Cell), d = .raw (.ref z) ∧ C1[i]? = some (z, c) ∧ Q c.toD (C1.eraseIdx i)) : WE T e ρ C Q :=
  PE.imp h fun σ H R ⟨H0, at_, k⟩ => ⟨H0, at_, fun v d C1 H1 H01 p1 c1 r1 ⟨i, z, c, e1, hi, q⟩ => by
    subst e1
    obtain rfl : v = .ref z := r1
    obtain ⟨o, ho, p2, c2, r2⟩ := stp_freeze c1 hi
    exact k _ _ _ H1 _ (p1.trans c1 p2) c2 r2 q⟩
theorem wss_frz {N : TEnds} {st : List Stmt} (j i : Nat) {z : Addr} {c : Cell} (hj : ρ[j]? = some (some (.raw (.ref z)))) (hi : C[i]? = some (z, c)) (h : WSs T st (ρ.set j (some c.toD)) (C.eraseIdx i) N) : WSs T st ρ C N :=
  PSs.imp h fun Dn σ H ⟨H0, at_, k⟩ => by
    obtain ⟨o, ho, p2, c2, r2⟩ := stp_freeze at_.c hi
    have at2 := at_.step p2 c2
    obtain ⟨v, hv, rv⟩ := at_.s j _ hj
    obtain rfl : v = .ref z := rv
    refine ⟨_, ⟨at2.a, at2.c, fun i' d hd => ?_, by rw [List.length_set]; exact at2.l⟩, k.after p2 c2⟩
    rw [List.getElem?_set] at hd
    split at hd
    · rename_i e; subst e
      split at hd
      · cases hd; exact ⟨_, hv, r2⟩
      · cases hd
    · exact at2.s i' d hd


def putN (f : Str) (d : D) : List Str → List D → List Str × List D
  | n :: ns, x :: ds => if n = f then (n :: ns, d :: ds) else (n :: (putN f d ns ds).1, x :: (putN f d ns ds).2)
  | _, _ => ([f], [d])
theorem reps_put {K : W.Frag} {H0 : Hp} {f : Str} {d : D} {v : V} (r : Rep K H0 d v) : ∀ {ns : List Str} {ds : List D} {vs : List V}, Reps K H0 ds vs → ns.length = vs.length →
    ∃ vs', putF f v (ns.zip vs) = (putN f d ns ds).1.zip vs' ∧ (putN f d ns ds).1.length = vs'.length ∧ Reps K H0 (putN f d ns ds).2 vs'
  | [], ds, vs, h, hl => by
    cases vs with
    | nil => cases ds with
      | nil => exact ⟨[v], rfl, rfl, Reps.cons r Reps.nil⟩
      | cons d0 ds => obtain ⟨_, _, q, _⟩ := h; cases q
    | cons v0 vs => cases hl
  | n :: ns, [], vs, h, hl => by cases h; cases hl
  | n :: ns, d0 :: ds, vs, ⟨v0, vr, h1, h2, h3⟩, hl => by
    subst h1
    rw [List.zip_cons_cons]
    unfold putN
    by_cases e : n = f
    · subst e
      rw [if_pos rfl]
      exact ⟨v :: vr, by unfold putF; rw [if_pos rfl]; rfl, by simpa using hl, Reps.cons r h3⟩
    · rw [if_neg e]
      obtain ⟨vs', q1, q2, q3⟩ := reps_put r h3 (by simpa using hl)
      exact ⟨v0 :: vs', by unfold putF; rw [if_neg e, q1]; rfl, by simp [q2], Reps.cons h2 q3⟩
end
end Tr

set_option maxHeartbeats 2000000
namespace Tr
open PySem L2 PySem.Spec PyProof.Rows

section
variable {X : Cx} {T : TX X} {ρ : Rho} {C : Cells} {Q : QE} {e a b o : Expr} {pos p apos cpos : Pos} {es : List Expr} {d d1 d2 : D} {ds ds2 : List D}

def LstD (C : Cells) (d : D) (ds : List D) : Prop := d = .lst ds ∨ ∃ a, d = .raw (.ref a) ∧ (a, Cell.lst ds) ∈ C
def SeqD (C : Cells) (d : D) (ds : List D) : Prop := LstD C d ds ∨ d = .tup ds
theorem LstD.l : LstD C (.lst ds) ds := .inl rfl
theorem LstD.c {i : Nat} {a : Addr} (h : C[i]? = some (a, .lst ds)) : LstD C (.raw (.ref a)) ds := .inr ⟨a, rfl, List.mem_iff_getElem?.mpr ⟨i, h⟩⟩
theorem SeqD.l : SeqD C (.lst ds) ds := .inl (.inl rfl)
theorem SeqD.t : SeqD C (.tup ds) ds := .inr rfl
theorem SeqD.c {i : Nat} {a : Addr} (h : C[i]? = some (a, .lst ds)) : SeqD C (.raw (.ref a)) ds := .inl (.c h)
theorem lst_at {K : W.Frag} {H0 H : Hp} {v : V} (c : CellsR K H0 C H) (r : Rep K H0 d v) (h : LstD C d ds) : ∃ a vs, v = .ref a ∧ SqL K H a vs ∧ Reps K H0 ds vs := by
  rcases h with rfl | ⟨a, rfl, hm⟩
  · obtain ⟨a, vs, h1, h2, h3⟩ := r
    exact ⟨a, vs, h1, Same.sqL c.same h2, h3⟩
  · obtain ⟨vs, h1, h2⟩ := c.ok a _ hm
    exact ⟨a, vs, r, .inl (.inl h1), h2⟩
theorem tup_at {K : W.Frag} {H0 H : Hp} {v : V} (c : CellsR K H0 C H) (r : Rep K H0 (.tup ds) v) : ∃ a vs, v = .ref a ∧ SqT K H a vs ∧ Reps K H0 ds vs := by
  obtain ⟨a, vs, h1, h2, h3⟩ := r
  exact ⟨a, vs, h1, Same.sqT c.same h2, h3⟩
theorem cw_len (h : SeqD C d ds) (q : Q (.int ds.length) C) : CW T (.builtin "len") [d] C Q :=
  cw_look (d := .int ds.length) call_len_seq (fun xs H H0 c r => by
    obtain ⟨v, e1, r1⟩ := r.one
    subst e1
    rcases h with h | h
    · obtain ⟨a, vs, e2, h2, h3⟩ := lst_at c r1 h
      subst e2
      exact ⟨.int ds.length, rfl, fun R k => ⟨a, vs, rfl, .inl h2, by rw [← h3.length]; exact k⟩⟩
    · subst h
      obtain ⟨a, vs, e2, h2, h3⟩ := tup_at c r1
      subst e2
      exact ⟨.int ds.length, rfl, fun R k => ⟨a, vs, rfl, .inr h2, by rw [← h3.length]; exact k⟩⟩) q
theorem cw_len_str {s : Str} (h : s.length ≤ 100000) (q : Q (.int s.length) C) : CW T (.builtin "len") [.str s] C Q :=
  cw_look (d := .int s.length) call_len_str (fun xs H H0 c r => by
    obtain ⟨v, e1, r1⟩ := r.one
    cases r1; subst e1
    exact ⟨.int s.length, rfl, fun R k => ⟨s, rfl, Nat.le_trans h (by decide), k⟩⟩) q
theorem cw_tuple (h : SeqD C d ds) (q : Q (.tup ds) C) : CW T (.type "tuple") [d] C Q :=
  CallR.imp call_tuple_of fun xs H R ⟨H0, c, r, k⟩ => by
    obtain ⟨v, e1, r1⟩ := r.one
    subst e1
    rcases h with h | h
    · obtain ⟨a, vs, e2, h2, h3⟩ := lst_at c r1 h
      subst e2
      refine ⟨a, vs, rfl, .inl ⟨h2, fun l hl => ?_⟩⟩
      obtain ⟨p2, c2⟩ := stp_new (o := .tup vs) c hl
      exact k _ (.tup ds) C _ _ p2 c2 ⟨l, vs, rfl, .inl (.inl upd_same), h3.mono p2.base⟩ q
    · subst h
      obtain ⟨a, vs, e2, h2, h3⟩ := tup_at c r1
      subst e2
      exact ⟨a, vs, rfl, .inr ⟨h2, k.here (d := .tup ds) c r1 q⟩⟩

def IW (T : TX X) (d1 d2 : D) (C : Cells) (Q : QE) : Prop := IxR X fun x y H R => ∃ H0, CellsR X.K H0 C H ∧ Rep X.K H0 d1 x ∧ Rep X.K H0 d2 y ∧ Cont X H0 C H Q R
theorem IxR.imp {r r' : R2} (h : IxR X r) (i : ∀ x y H R, r' x y H R → r x y H R) : IxR X r' := fun value slice pins s σ H x y v u Q I rx ry q hs => h value slice pins s σ H x y v u Q I rx ry (i _ _ _ _ q) hs
theorem ix_some (T : TX X) : IxR X (fun x y H R => ∃ d1 d2 C Q, IW T d1 d2 C Q ∧ ∃ H0, CellsR X.K H0 C H ∧ Rep X.K H0 d1 x ∧ Rep X.K H0 d2 y ∧ Cont X H0 C H Q R) :=
  fun value slice pins s σ H x y v u Q I rx ry ⟨d1, d2, C, q, h, k⟩ hs => h value slice pins s σ H x y v u Q I rx ry k hs
theorem we_ix (h : WE T a ρ C fun d1 C1 => WE T b ρ C1 fun d2 C2 => IW T d1 d2 C2 Q) (hs : PlainIx b) : WE T (.Subscript a b pos) ρ C Q := by
  refine PE.imp (pe_ix (ix_some T) h (pe_some T ρ b) hs) fun σ H R ⟨H0, at_, k⟩ => ⟨H0, at_, fun v1 d1 C1 H1 H01 p1 c1 r1 q1 => ?_⟩
  have at1 := at_.step p1 c1
  exact ⟨C1, _, q1, H01, at1, fun v2 d2 C2 H2 H02 p2 c2 r2 q2 => ⟨d1, d2, C2, Q, q2, H02, c2, r1.mono p2.base, r2, k.after (p1.trans c1 p2) c2 fun _ _ z => z⟩⟩
theorem atI_reps {K : W.Frag} {H0 : Hp} {vs : List V} {i : Int} (r : Reps K H0 ds vs) (h : atI ds i = some d) : ∃ v, atI vs i = some v ∧ Rep K H0 d v := by
  unfold atI at h ⊢
  rw [← r.length]
  cases e : ixN ds.length i with
  | none => rw [e] at h; cases h
  | some j => rw [e] at h; exact r.get h
theorem iw_lst {i : Int} (h : LstD C d1 ds) (hi : atI ds i = some d) (q : Q d C) : IW T d1 (.int i) C Q :=
  IxR.imp ix_list fun x y H R ⟨H0, c, r1, r2, k⟩ => by
    cases r2
    obtain ⟨a, vs, e2, h2, h3⟩ := lst_at c r1 h
    obtain ⟨v, g1, g2⟩ := atI_reps h3 hi
    exact ⟨a, vs, i, v, e2, rfl, h2, g1, k.here c g2 q⟩
theorem iw_tup {i : Int} (hi : atI ds i = some d) (q : Q d C) : IW T (.tup ds) (.int i) C Q :=
  IxR.imp ix_tup fun x y H R ⟨H0, c, r1, r2, k⟩ => by
    cases r2
    obtain ⟨a, vs, e2, h2, h3⟩ := tup_at c r1
    obtain ⟨v, g1, g2⟩ := atI_reps h3 hi
    exact ⟨a, vs, i, v, e2, rfl, h2, g1, k.here c g2 q⟩
theorem iw_str {s : Str} {i : Int} {c : Nat} (hl : s.length ≤ 100000) (hi : atI s.cps.toList i = some c) (q : Q (.str ⟨#[c]⟩) C) : IW T (.str s) (.int i) C Q :=
  IxR.imp ix_str fun x y H R ⟨H0, c, r1, r2, k⟩ => by
    cases r1; cases r2
    exact ⟨s, i, _, rfl, rfl, Nat.le_trans hl (by decide), hi, k.here (d := .str ⟨#[_]⟩) c rfl q⟩

def cutD (ds : List D) (lo hi : Option Int) : List D := (ds.drop (HT.sIx ds.length 0 lo)).take (HT.sIx ds.length ds.length hi - HT.sIx ds.length 0 lo)
theorem reps_cut {K : W.Frag} {H0 : Hp} {vs : List V} (r : Reps K H0 ds vs) (lo hi : Option Int) : Reps K H0 (cutD ds lo hi) (cutV vs lo hi) := by
  unfold cutD cutV
  rw [← r.length]
  exact (r.drop _).take _
def TOx (T : TX X) (ρ : Rho) (C : Cells) (Q : Option Int → Cells → Prop) : TO := fun σ H R => ∃ H0, At T H0 ρ C σ H ∧ ∀ i C' H' H0', Stp H0 C H H0' C' H' → CellsR X.K H0' C' H' → Q i C' → R i H'
def WO (T : TX X) (e : Option Expr) (ρ : Rho) (C : Cells) (Q : Option Int → Cells → Prop) : Prop := PO X e (TOx T ρ C Q)
theorem PO.imp {e : Option Expr} {t t' : TO} (h : PO X e t) (i : ∀ σ H R, t' σ H R → t σ H R) : PO X e t' := ⟨fun pins s σ H Q I q => h.run pins s σ H Q I (i σ H Q q)⟩
theorem po_any (T : TX X) (ρ : Rho) (e : Option Expr) : PO X e (fun σ H R => ∃ C Q, WO T e ρ C Q ∧ TOx T ρ C Q σ H R) := ⟨fun pins s σ H Q I ⟨C, q, h, t⟩ => h.run pins s σ H Q I t⟩
theorem wo_none {Q : Option Int → Cells → Prop} (q : Q none C) : WO T none ρ C Q := PO.imp po_none fun σ H R ⟨H0, at_, k⟩ => k none C H H0 (Stp.refl _ _ _) at_.c q
theorem wo_some {Q : Option Int → Cells → Prop} (h : WE T e ρ C fun d C1 => ∃ i, d = .int i ∧ Q (some i) C1) : WO T (some e) ρ C Q :=
  PO.imp (po_some h) fun σ H R ⟨H0, at_, k⟩ => ⟨H0, at_, fun v d C1 H1 H01 p1 c1 r1 ⟨i, e1, q⟩ => by subst e1; exact ⟨i, r1, k _ C1 H1 H01 p1 c1 q⟩⟩
def SW (T : TX X) (d : D) (lo hi : Option Int) (C : Cells) (Q : QE) : Prop := SlR X fun x l u H R => l = lo ∧ u = hi ∧ ∃ H0, CellsR X.K H0 C H ∧ Rep X.K H0 d x ∧ Cont X H0 C H Q R
theorem SlR.imp {r r' : V → Option Int → Option Int → Hp → VK → Prop} (h : SlR X r) (i : ∀ x l u H R, r' x l u H R → r x l u H R) : SlR X r' := fun pins s σ H x v vl vu lo hi sl Q I rx hs pl pu q => h pins s σ H x v vl vu lo hi sl Q I rx hs pl pu (i _ _ _ _ _ q)
theorem sl_some (T : TX X) : SlR X (fun x l u H R => ∃ d C Q, SW T d l u C Q ∧ ∃ H0, CellsR X.K H0 C H ∧ Rep X.K H0 d x ∧ Cont X H0 C H Q R) :=
  fun pins s σ H x v vl vu lo hi sl Q I rx hs pl pu ⟨d, C, q, h, k⟩ => h pins s σ H x v vl vu lo hi sl Q I rx hs pl pu ⟨rfl, rfl, k⟩
theorem we_slice {lo hi : Option Expr} {p2 : Pos} (h : WE T e ρ C fun d C1 => WO T lo ρ C1 fun l C2 => WO T hi ρ C2 fun u C3 => SW T d l u C3 Q) : WE T (.Subscript e (.Slice lo hi none p2) pos) ρ C Q := by
  refine PE.imp (pe_slice (sl_some T) h (po_any T ρ lo) (po_any T ρ hi)) fun σ H R ⟨H0, at_, k⟩ => ⟨H0, at_, fun v d C1 H1 H01 p1 c1 r1 q1 => ?_⟩
  have at1 := at_.step p1 c1
  exact ⟨C1, _, q1, H01, at1, fun l C2 H2 H02 p2 c2 q2 => ⟨C2, _, q2, H02, at1.step p2 c2, fun u C3 H3 H03 p3 c3 q3 => ⟨d, C3, Q, q3, H03, c3, (r1.mono p2.base).mono p3.base, k.after ((p1.trans c1 p2).trans c2 p3) c3 fun _ _ z => z⟩⟩⟩
theorem sw_lst {lo hi : Option Int} (h : LstD C d ds) (q : Q (.lst (cutD ds lo hi)) C) : SW T d lo hi C Q :=
  SlR.imp sl_list fun x l u H R ⟨e1, e2, H0, c, r1, k⟩ => by
    subst e1; subst e2
    obtain ⟨a, vs, e2, h2, h3⟩ := lst_at c r1 h
    refine ⟨a, vs, e2, h2, fun z hz => ?_⟩
    obtain ⟨p2, c2⟩ := stp_new (o := .lst (cutV vs l u)) c hz
    exact k _ (.lst (cutD ds l u)) C _ _ p2 c2 ⟨z, _, rfl, .inl (.inl upd_same), (reps_cut h3 l u).mono p2.base⟩ q
end
end Tr

set_option maxHeartbeats 2000000
namespace Tr
open PySem L2 PySem.Spec PyProof.Rows

section
variable {X : Cx} {T : TX X} {ρ : Rho} {C : Cells} {Q : QE} {e a b o : Expr} {pos p apos cpos : Pos} {es : List Expr} {d d1 d2 : D} {ds ds2 : List D}

theorem yields_tup {K : W.Frag} {H0 : Hp} {a : Addr} {vs : List V} (hs : SqT K H0 a vs) (r : Reps K H0 ds vs) : Yields K (Itt K a) H0 (fun _ => True) ds where
  go := fun i H0' C H e c _ hi => ⟨vs, vs[i]'(by rw [← r.length]; exact hi), Same.sqT (e.trans c.same) hs, by simp⟩
  stop := fun i H0' C H e c _ hi => ⟨vs, Same.sqT (e.trans c.same) hs, by rw [← r.length]; exact hi⟩
  yld := fun i H0' C H x H' d e c _ hd ⟨e1, y⟩ => by
    subst e1
    refine ⟨H0', Stp.refl _ _ _, c, ?_⟩
    have := y vs (Same.sqT (e.trans c.same) hs)
    obtain ⟨v, h1, h2⟩ := r.get hd
    rw [this] at h1; cases h1
    exact h2.mono e
theorem yields_cell {K : W.Frag} {H0 : Hp} {a : Addr} : Yields K (Itl K a) H0 (fun C => (a, Cell.lst ds) ∈ C) ds where
  go := fun i H0' C H e c hm hi => by
    obtain ⟨vs, h1, h2⟩ := c.ok a _ hm
    exact ⟨vs, vs[i]'(by rw [← h2.length]; exact hi), .inl (.inl h1), by simp⟩
  stop := fun i H0' C H e c hm hi => by
    obtain ⟨vs, h1, h2⟩ := c.ok a _ hm
    exact ⟨vs, .inl (.inl h1), by rw [← h2.length]; exact hi⟩
  yld := fun i H0' C H x H' d e c hm hd ⟨e1, y⟩ => by
    subst e1
    obtain ⟨vs, h1, h2⟩ := c.ok a _ hm
    have := y vs (.inl (.inl h1))
    obtain ⟨v, g1, g2⟩ := h2.get hd
    rw [this] at g1; cases g1
    exact ⟨H0', Stp.refl _ _ _, c, g2⟩
def rangeD (lo : Int) (n : Nat) : List D := (List.range n).map fun i => .int (lo + (i : Nat))
theorem rangeD_len (lo : Int) (n : Nat) : (rangeD lo n).length = n := by simp [rangeD]
theorem yields_range {K : W.Frag} {H0 : Hp} (lo : Int) (n : Nat) : Yields K (Itr lo n) H0 (fun _ => True) (rangeD lo n) where
  go := fun i H0' C H e c _ hi => by rw [rangeD_len] at hi; exact hi
  stop := fun i H0' C H e c _ hi => by rw [rangeD_len] at hi; exact hi
  yld := fun i H0' C H x H' d e c _ hd ⟨e1, e2⟩ => by
    subst e1; subst e2
    refine ⟨H0', Stp.refl _ _ _, c, ?_⟩
    unfold rangeD at hd
    rw [List.getElem?_map] at hd
    cases q : (List.range n)[i]? with
    | none => rw [q] at hd; cases hd
    | some j =>
      rw [q] at hd; cases hd
      obtain ⟨h1, h2⟩ := List.getElem?_eq_some_iff.mp q
      rw [List.getElem_range] at h2
      subst h2
      rfl
theorem wi_range1 {tg : Expr} {Q : QI} (hg : Gl X "range") (hm : X.mg "range" = none) (h : WE T a ρ C fun d C1 => ∃ j : Int, d = .int j ∧ -(2 ^ 62) ≤ j ∧ j < 2 ^ 62 ∧ Q (rangeD 0 j.toNat) (fun _ => True) C1)
    (hs : starEach [a] X.env = [(false, eval a X.env)] := by rfl) (hs2 : starEach [a] X.env = (false, eval a X.env) :: starEach [] X.env := by rfl) : WI T tg (.Call (.Name "range" p) [a] [] pos) ρ C Q := by
  refine PI.imp (pi_range1 hg hm (pa_cons h pa_nil hs2) hs) fun σ H R ⟨H0, at_, k⟩ => ⟨H0, at_, fun v d C1 H1 H01 p1 c1 r1 ⟨j, e1, l1, l2, q⟩ => ?_⟩
  subst e1; cases r1
  exact ⟨j, rfl, l1, l2, k _ _ _ C1 H1 H01 p1 c1 (yields_range 0 _) q⟩
def signsD (s : Str) : List D := s.cps.toList.map fun c => .str ⟨#[c]⟩
def TX.blk (T : TX X) (s : Shared) (H : Hp) (scope : Scope) (cenv : Env) (fp : List Addr) : TX (X.blk s H scope cenv fp) where
  A := T.A
  up := T.up
  XQ := fun _ _ _ _ => False
  tk := fun u s' ⟨_, _, _, _, _, _, _, _, _, _, _, _, _, _, _, _, w⟩ => let ⟨_, _, _, _, _, _, _, _, _, q⟩ := w; False.elim q
  pass := PassesOwn.never
  pas := fun _ _ _ => PassesOwnAt.never
theorem At.blk {T : TX X} {s : Shared} {H' : Hp} {scope : Scope} {cenv : Env} {fp : List Addr} {H0 : Hp} {σ : L2.St} {H : Hp} (h : At T H0 ρ C σ H) : At (T.blk s H' scope cenv fp) H0 ρ C σ H := ⟨h.a, h.c, h.s, h.l⟩
abbrev InBlk (T : TX X) (scope : Scope) (P : ∀ {Y : Cx}, TX Y → Prop) : Prop := ∀ (s : Shared) (H : Hp) (Ca : Addr) (cl : List (Str × Addr)) (fp : List Addr), P (T.blk s H scope (compEnvC scope cl Ca X.env) fp)
def wipeR (ρ : Rho) : List Nat → Rho
  | [] => ρ
  | v :: vs => (wipeR ρ vs).set v none
theorem wipeR_len (ρ : Rho) : ∀ vs : List Nat, (wipeR ρ vs).length = ρ.length
  | [] => rfl
  | v :: vs => by unfold wipeR; rw [List.length_set, wipeR_len ρ vs]
theorem slots_wipe {K : W.Frag} {H0 : Hp} {σ : L2.St} (h : SlotsR K H0 ρ σ) : ∀ vs : List Nat, SlotsR K H0 (wipeR ρ vs) (wipe σ vs)
  | [] => h
  | v :: vs => SlotsR.unset v (slots_wipe h vs)
theorem At.wipe {T : TX X} {H0 : Hp} {σ : L2.St} {H : Hp} (h : At T H0 ρ C σ H) (vs : List Nat) : At T H0 (wipeR ρ vs) C (L2.wipe σ vs) H := ⟨h.a, h.c, slots_wipe h.s vs, by rw [wipeR_len, wipe_length]; exact h.l⟩
inductive Bind where
  | one (i : Nat)
  | tup (is : List Nat)
def setAll {α : Type} (l : List (Option α)) : List Nat → List α → List (Option α)
  | i :: is, x :: xs => setAll (l.set i (some x)) is xs
  | _, _ => l
def Bind.to (b : Bind) (d : D) (ρ : Rho) : Option Rho := match b, d with
  | .one i, d => some (ρ.set i (some d))
  | .tup is, .tup ds => if is.length = ds.length then some (setAll ρ is ds) else none
  | _, _ => none
def gNames : List Nat → TGs
  | [] => gNil
  | i :: is => gCons (gName i) (gNames is)
def Bind.g (K : W.Frag) : Bind → TG
  | .one i => gName i
  | .tup is => gTup K is.length (gNames is)
def Bind.slots : Bind → List Nat
  | .one i => [i]
  | .tup is => is
theorem setAll_len {α : Type} : ∀ (is : List Nat) (xs : List α) (l : List (Option α)), (setAll l is xs).length = l.length
  | [], xs, l => by cases xs <;> rfl
  | i :: is, [], l => rfl
  | i :: is, x :: xs, l => by unfold setAll; rw [setAll_len is xs, List.length_set]
theorem slots_setAll {K : W.Frag} {H0 : Hp} : ∀ {is : List Nat} {ds : List D} {vs : List V} {ρ : Rho} {σ : L2.St}, Reps K H0 ds vs → SlotsR K H0 ρ σ → ρ.length = σ.length → SlotsR K H0 (setAll ρ is ds) (setAll σ is vs)
  | [], ds, vs, ρ, σ, r, h, l => by cases ds <;> cases vs <;> exact h
  | i :: is, [], vs, ρ, σ, r, h, l => by cases r; exact h
  | i :: is, d :: ds, vs, ρ, σ, ⟨v, rr, e1, r1, r2⟩, h, l => by
    subst e1
    have z : SlotsR K H0 (setAll (ρ.set i (some d)) is ds) (setAll (σ.set i (some v)) is rr) := slots_setAll r2 (SlotsR.set i h r1 l) (by simp [l])
    exact z
theorem gNames_to {R : L2.St → Hp → Prop} {H : Hp} : ∀ {is : List Nat} {vs : List V} {σ : L2.St}, is.length = vs.length → R (setAll σ is vs) H → gNames is vs σ H R
  | [], [], σ, _, h => ⟨rfl, h⟩
  | i :: is, v :: vs, σ, hl, h => ⟨v, vs, rfl, gNames_to (by simpa using hl) h⟩
theorem set_wipe {i : Nat} {x : V} : ∀ {vs : List Nat} {σ : L2.St}, i ∈ vs → wipe (σ.set i (some x)) vs = wipe σ vs
  | [], _, h => by cases h
  | v :: vs, σ, h => by
    show (wipe (σ.set i (some x)) vs).set v none = (wipe σ vs).set v none
    by_cases e : i ∈ vs
    · rw [set_wipe e]
    · have e' : i = v := (List.mem_cons.mp h).resolve_right e
      subst e'
      apply List.ext_getElem?
      intro j
      rw [List.getElem?_set, List.getElem?_set, wipe_length, wipe_length, List.length_set]
      by_cases q : i = j
      · subst q; simp
      · rw [if_neg q, if_neg q]
        by_cases hj : j ∈ vs
        · have z : ∀ τ : L2.St, (wipe τ vs)[j]? = if j < τ.length then some none else none := by
            intro τ
            induction vs with
            | nil => cases hj
            | cons w ws ih =>
              show ((wipe τ ws).set w none)[j]? = _
              rw [List.getElem?_set, wipe_length]
              by_cases q2 : w = j
              · subst q2; simp
              · rw [if_neg q2]
                rcases List.mem_cons.mp hj with q3 | q3
                · exact absurd q3.symm q2
                · exact ih (fun h1 => e (List.mem_cons_of_mem _ h1)) (by simp) q3
          rw [z, z, List.length_set]
        · rw [wipe_out hj, wipe_out hj, List.getElem?_set_ne q]
theorem wipe_wipe (σ : L2.St) : ∀ vs : List Nat, wipe (wipe σ vs) vs = wipe σ vs := by
  intro vs
  apply List.ext_getElem?
  intro j
  by_cases hj : j ∈ vs
  · have z : ∀ (τ : L2.St), (wipe τ vs)[j]? = if j < τ.length then some none else none := by
      intro τ
      induction vs with
      | nil => cases hj
      | cons w ws ih =>
        show ((wipe τ ws).set w none)[j]? = _
        rw [List.getElem?_set, wipe_length]
        by_cases q2 : w = j
        · subst q2; simp
        · rw [if_neg q2]
          rcases List.mem_cons.mp hj with q3 | q3
          · exact absurd q3.symm q2
          · exact ih q3
    rw [z, z, wipe_length]
  · rw [wipe_out hj]
theorem setAll_wipe : ∀ {is vs : List Nat} {xs : List V} {σ : L2.St}, (∀ i ∈ is, i ∈ vs) → wipe (setAll σ is xs) vs = wipe σ vs
  | [], vs, xs, σ, h => by cases xs <;> rfl
  | i :: is, vs, [], σ, h => rfl
  | i :: is, vs, x :: xs, σ, h => by
    unfold setAll
    rw [setAll_wipe (fun j hj => h j (List.mem_cons_of_mem _ hj)), set_wipe (h i List.mem_cons_self)]
theorem bind_to {bd : Bind} {d : D} {v : V} {ρ' : Rho} {H0 H : Hp} {σ : L2.St} {vs : List Nat} {R : L2.St → Hp → Prop} {K : W.Frag} (c : Same H0 H) (hb : bd.to d ρ = some ρ') (hv : ∀ i ∈ bd.slots, i ∈ vs) (r : Rep K H0 d v) (s : SlotsR K H0 ρ σ) (l : ρ.length = σ.length)
    (h : ∀ σ', SlotsR K H0 ρ' σ' → ρ'.length = σ'.length → wipe σ' vs = wipe σ vs → R σ' H) : bd.g K v σ H R := by
  cases bd with
  | one i =>
    cases hb
    exact h _ (SlotsR.set i s r l) (by simp [l]) (set_wipe (hv i (by simp [Bind.slots])))
  | tup is =>
    cases d with
    | tup ds =>
      simp only [Bind.to] at hb
      split at hb
      · rename_i hl
        cases hb
        obtain ⟨a, ws, h1, h2, h3⟩ := r
        refine ⟨a, ws, h1, Same.sqT c h2, by rw [← h3.length]; exact hl.symm, gNames_to (hl.trans h3.length) (h _ (slots_setAll h3 s l) (by rw [setAll_len, setAll_len]; exact l) (setAll_wipe hv))⟩
      · cases hb
    | _ => simp [Bind.to] at hb
def LcW (T : TX X) (scope : Scope) (bd : Bind) (elt : Expr) (vs : List Nat) (ρ : Rho) (P : Cells → Prop) (Q : QE) : List D → List D → Cells → Prop
  | [], acc, C => P C ∧ Q (.lst acc) C
  | d :: r, acc, C => P C ∧ ∃ ρ', bd.to d (wipeR ρ vs) = some ρ' ∧ InBlk T scope fun T' => WE T' elt ρ' C fun y C2 => acc.length < 100000 ∧ LcW T scope bd elt vs ρ P Q r (acc ++ [y]) C2
def LcW1 (T : TX X) (scope : Scope) (bd : Bind) (i elt : Expr) (vs : List Nat) (ρ : Rho) (P : Cells → Prop) (Q : QE) : List D → List D → Cells → Prop
  | [], acc, C => P C ∧ Q (.lst acc) C
  | d :: r, acc, C => P C ∧ ∃ ρ', bd.to d (wipeR ρ vs) = some ρ' ∧ InBlk T scope fun T' => WT T' i ρ' C fun k C1 =>
      if k = true then (InBlk T scope fun T' => WE T' elt ρ' C1 fun y C2 => acc.length < 100000 ∧ LcW1 T scope bd i elt vs ρ P Q r (acc ++ [y]) C2) else LcW1 T scope bd i elt vs ρ P Q r acc C1
structure Way (X : Cx) (H01 : Hp) (C1 : Cells) (H1 : Hp) (L : Addr) (acc : List D) (H0 : Hp) (C : Cells) (H : Hp) : Prop where
  st : Stp H01 C1 H1 H0 C H
  c : CellsR X.K H0 C H
  at_ : ∃ vs, H L = some (.lst vs) ∧ Reps X.K H0 acc vs
  n0 : H0 L = none
  nd : ¬ Dom C L
theorem Way.step {H01 H1 H0 H H0' H' : Hp} {C1 C' : Cells} {L : Addr} {acc : List D} (w : Way X H01 C1 H1 L acc H0 C H) (p : Stp H0 C H H0' C' H') (c' : CellsR X.K H0' C' H') : Way X H01 C1 H1 L acc H0' C' H' := by
  obtain ⟨vs, h1, h2⟩ := w.at_
  obtain ⟨q1, q2⟩ := p.own L (by rw [h1]; simp) w.n0 w.nd
  exact ⟨w.st.trans w.c p, c', ⟨vs, p.fr L _ h1 w.nd, h2.mono p.base⟩, q1, q2⟩
theorem Way.add {H01 H1 H0 H : Hp} {C1 : Cells} {L : Addr} {acc : List D} {d : D} {v : V} (w : Way X H01 C1 H1 L acc H0 C H) (hL : H1 L = none) (r : Rep X.K H0 d v) : ∃ vs, H L = some (.lst vs) ∧ vs.length = acc.length ∧ Way X H01 C1 H1 L (acc ++ [d]) H0 C (upd H L (.lst (vs ++ [v]))) := by
  obtain ⟨vs, h1, h2⟩ := w.at_
  have off : ∀ a x, (a, x) ∈ C → a ≠ L := fun a x hx e => w.nd ⟨x, e ▸ hx⟩
  refine ⟨vs, h1, h2.length.symm, ⟨⟨w.st.base, fun a o h n => ?_, w.st.own⟩, ⟨fun a o h => ?_, w.c.free, fun a x hx => (w.c.ok a x hx).mono (Same.refl _) (upd_ne (off a x hx)), w.c.nd⟩, ⟨_, upd_same, h2.append (Reps.cons r Reps.nil)⟩, w.n0, w.nd⟩⟩
  · rw [upd_ne (ne_of_none h hL)]; exact w.st.fr a o h n
  · rw [upd_ne (ne_of_none h w.n0)]; exact w.c.same a o h
theorem Way.fin {H01 H1 H0 H : Hp} {C1 : Cells} {L : Addr} {acc : List D} (w : Way X H01 C1 H1 L acc H0 C H) (hL : H1 L = none) : ∃ H0', Stp H01 C1 H1 H0' C H ∧ CellsR X.K H0' C H ∧ Rep X.K H0' (.lst acc) (.ref L) := by
  obtain ⟨vs, h1, h2⟩ := w.at_
  have s0 : Same H0 (upd H0 L (.lst vs)) := fun a u h => by rw [upd_ne (ne_of_none h w.n0)]; exact h
  refine ⟨upd H0 L (.lst vs), ⟨w.st.base.trans s0, w.st.fr, fun a h e n => ?_⟩, ⟨fun a o h => ?_, fun a d => ?_, fun a x hx => (w.c.ok a x hx).mono s0 rfl, w.c.nd⟩, ⟨L, vs, rfl, .inl (.inl upd_same), h2.mono s0⟩⟩
  · obtain ⟨q1, q2⟩ := w.st.own a h e n
    exact ⟨by rw [upd_ne (show a ≠ L from fun z => h (by rw [z]; exact hL))]; exact q1, q2⟩
  · by_cases q : a = L
    · subst q; rw [upd_same] at h; cases h; exact h1
    · rw [upd_ne q] at h; exact w.c.same a o h
  · rw [upd_ne (show a ≠ L from fun z => w.nd (by rw [← z]; exact d))]; exact w.c.free a d
theorem way0 {H0 H : Hp} {L : Addr} (c : CellsR X.K H0 C H) (hL : H L = none) : Way X H0 C H L [] H0 C (upd H L (.lst [])) := by
  have n0 := c.nn hL
  refine ⟨⟨Same.refl _, fun a o h n => by rw [upd_ne (ne_of_none h hL)]; exact h, fun a h e n => ⟨e, n⟩⟩, ⟨fun a o h => by rw [upd_ne (ne_of_none h n0)]; exact c.same a o h, c.free, fun a x hx => (c.ok a x hx).mono (Same.refl _) (upd_ne fun z => (c.ok a x hx).some (by rw [z]; exact hL)), c.nd⟩, ⟨[], upd_same, Reps.nil⟩, n0, c.notDom hL⟩
section
variable {scope : Scope} {own : List (Str × Nat)} {tg iter elt i : Expr} {bd : Bind}
def someB (T : TX X) (scope : Scope) (elt : Expr) : TE := fun σ H R => ∃ ρ C Q, InBlk T scope (fun T' => WE T' elt ρ C Q) ∧ TEx T ρ C Q σ H R
theorem pe_someB (T : TX X) (scope : Scope) (elt : Expr) (s : Shared) (H : Hp) (Ca : Addr) (cl : List (Str × Addr)) (fp : List Addr) : PE (X.blk s H scope (compEnvC scope cl Ca X.env) fp) elt (someB T scope elt) :=
  ⟨fun pins s' σ H' R I ⟨ρ, C, Q, h, H0, at_, k⟩ => (h s H Ca cl fp).run pins s' σ H' R I ⟨H0, at_.blk, k⟩⟩
def someBT (T : TX X) (scope : Scope) (elt : Expr) : TT := fun σ H R => ∃ ρ C Q, InBlk T scope (fun T' => WT T' elt ρ C Q) ∧ TTx T ρ C Q σ H R
theorem pt_someB (T : TX X) (scope : Scope) (elt : Expr) (s : Shared) (H : Hp) (Ca : Addr) (cl : List (Str × Addr)) (fp : List Addr) : PT (X.blk s H scope (compEnvC scope cl Ca X.env) fp) elt (someBT T scope elt) :=
  ⟨fun pins s' σ H' R I ⟨ρ, C, Q, h, H0, at_, k⟩ => (h s H Ca cl fp).run pins s' σ H' R I ⟨H0, at_.blk, k⟩⟩
theorem read_lc (own : List (Str × Nat)) (bd : Bind) (hv : ∀ i ∈ bd.slots, i ∈ own.map (·.2)) : ∀ σ H R, TEx T ρ C Q σ H R → tLc (TIx T ρ C fun ds P C1 => LcW T scope bd elt (own.map (·.2)) ρ P Q ds [] C1) (bd.g X.K) tYes (someB T scope elt) (own.map (·.2)) σ H R := by
  refine fun σ H R ⟨H0, at_, k⟩ => ⟨H0, at_, fun J ds P C1 H1 H01 p1 c1 y1 q1 L hL => ?_⟩
  have at1 := at_.step p1 c1
  refine ⟨fun j m H2 => m = ds.length - j ∧ j ≤ ds.length ∧ ∃ acc C2 H02, Way X H01 C1 H1 L acc H02 C2 H2 ∧ LcW T scope bd elt (own.map (·.2)) ρ P Q (ds.drop j) acc C2, ⟨_, rfl, Nat.zero_le _, [], C1, H01, way0 c1 hL, q1⟩, ?_⟩
  rintro j m H2 ⟨rfl, hj, acc, C2, H02, w2, q2⟩
  have hP : P C2 := by
    generalize ds.drop j = l at q2
    cases l with
    | nil => exact q2.1
    | cons d r => exact q2.1
  by_cases hlt : j < ds.length
  · rw [List.drop_eq_getElem_cons hlt] at q2
    obtain ⟨_, ρ', hb, qe⟩ := q2
    refine .inr ⟨y1.go j _ _ _ w2.st.base w2.c hP hlt, fun H3 => ∃ acc C3 H03, Way X H01 C1 H1 L acc H03 C3 H3 ∧ LcW T scope bd elt (own.map (·.2)) ρ P Q (ds.drop (j + 1)) acc C3, fun H3 ⟨acc, C3, H03, w3, q3⟩ => ⟨_, by omega, rfl, hlt, acc, C3, H03, w3, q3⟩, fun x H3 hy => ?_⟩
    obtain ⟨H03, p3, c3, r3⟩ := y1.yld j _ _ _ x H3 ds[j] w2.st.base w2.c hP (by simp [hlt]) hy
    have w3 := w2.step p3 c3
    have at3 := at1.step w3.st c3
    refine bind_to c3.same hb hv r3 (at3.wipe _).s (at3.wipe _).l fun σ' s' l' ew => ⟨by rw [ew, wipe_wipe], ρ', C2, _, qe, H03, ⟨at3.a, c3, s', l'⟩, fun v y C4 H4 H04 p4 c4 r4 ⟨hlen, q4⟩ => ?_⟩
    obtain ⟨vs, f1, f2, w5⟩ := (w3.step p4 c4).add hL r4
    exact ⟨vs, f1, by rw [f2]; exact Nat.lt_trans hlen (by decide), _, C4, H04, w5, q4⟩
  · have e : j = ds.length := by omega
    subst e
    rw [List.drop_length] at q2
    obtain ⟨H0', f1, f2, f3⟩ := w2.fin hL
    exact .inl ⟨y1.stop _ _ _ _ w2.st.base w2.c hP (Nat.le_refl _), k _ _ C2 H2 H0' (p1.trans c1 f1) f2 f3 q2.2⟩
theorem we_lc (own : List (Str × Nat)) (bd : Bind) (hc : X.calm = true) (hN : X.N.Nodup) (ok : BlkOk X.N X.env.scope scope own)
    (hg : ∀ (s : Shared) (H : Hp) (Ca : Addr) (cl : List (Str × Addr)) (fp : List Addr), PG (X.blk s H scope (compEnvC scope cl Ca X.env) fp) tg (bd.g X.K)) (hv : ∀ i ∈ bd.slots, i ∈ own.map (·.2))
    (h : WI T tg iter ρ C fun ds P C1 => LcW T scope bd elt (own.map (·.2)) ρ P Q ds [] C1) (hs : ∀ x, foldedSetIterable iter X.env x = pure x := by intro _; rfl) : WE T (.ListComp elt [⟨tg, iter, [], 0⟩] scope pos) ρ C Q := by
  exact PE.imp (pe_lc hc hN h ok hg (fun _ _ _ _ _ => pts_nil) (pe_someB T scope elt) hs) (read_lc own bd hv)
theorem ws_setLc {N : TEnds} {x : Str} {py spos : Pos} (own : List (Str × Nat)) (bd : Bind) (j : Nat) (hc : X.calm = true) (hN : X.N.Nodup) (hy : X.N[j]? = some x) (hyl : X.env.scope.names.lookup x = some .local)
    (hsw : swapsWith (.ListComp elt [⟨tg, iter, [], 0⟩] scope pos) (some (.Name x py)) spos.line X.env = pure true) (ok : BlkOk X.N X.env.scope scope own)
    (hg : ∀ (s : Shared) (H : Hp) (Ca : Addr) (cl : List (Str × Addr)) (fp : List Addr), PG (X.blk s H scope (compEnvC scope cl Ca X.env) fp) tg (bd.g X.K)) (hv : ∀ i ∈ bd.slots, i ∈ own.map (·.2))
    (h : WI T tg iter ρ C fun ds P C1 => LcW T scope bd elt (own.map (·.2)) ρ P (fun d C2 => N.nx (ρ.set j (some d)) C2) ds [] C1) (hs : ∀ x, foldedSetIterable iter X.env x = pure x := by intro _; rfl) : WS T (.Assign [.Name x py] (.ListComp elt [⟨tg, iter, [], 0⟩] scope pos) spos) ρ C N :=
  PS.imp (ps_setLc hc hN hy hyl hsw h ok hg (fun _ _ _ _ _ => pts_nil) (pe_someB T scope elt) hs) fun Dn σ H ⟨H0, at_, k⟩ => read_lc own bd hv σ H _ ⟨H0, at_, fun v d C1 H1 H01 p c r q =>
    (k.after p c).nx _ _ C1 H1 H01 (Stp.refl _ _ _) c (SlotsR.set j (at_.step p c).s r at_.l) (by rw [List.length_set, List.length_set]; exact at_.l) q⟩
theorem read_lc1 (own : List (Str × Nat)) (bd : Bind) (hv : ∀ i ∈ bd.slots, i ∈ own.map (·.2)) : ∀ σ H R, TEx T ρ C Q σ H R → tLc (TIx T ρ C fun ds P C1 => LcW1 T scope bd i elt (own.map (·.2)) ρ P Q ds [] C1) (bd.g X.K) (someBT T scope i) (someB T scope elt) (own.map (·.2)) σ H R := by
  refine fun σ H R ⟨H0, at_, k⟩ => ⟨H0, at_, fun J ds P C1 H1 H01 p1 c1 y1 q1 L hL => ?_⟩
  have at1 := at_.step p1 c1
  refine ⟨fun j m H2 => m = ds.length - j ∧ j ≤ ds.length ∧ ∃ acc C2 H02, Way X H01 C1 H1 L acc H02 C2 H2 ∧ LcW1 T scope bd i elt (own.map (·.2)) ρ P Q (ds.drop j) acc C2, ⟨_, rfl, Nat.zero_le _, [], C1, H01, way0 c1 hL, q1⟩, ?_⟩
  rintro j m H2 ⟨rfl, hj, acc, C2, H02, w2, q2⟩
  have hP : P C2 := by
    generalize ds.drop j = l at q2
    cases l with
    | nil => exact q2.1
    | cons d r => exact q2.1
  by_cases hlt : j < ds.length
  · rw [List.drop_eq_getElem_cons hlt] at q2
    obtain ⟨_, ρ', hb, qe⟩ := q2
    refine .inr ⟨y1.go j _ _ _ w2.st.base w2.c hP hlt, fun H3 => ∃ acc C3 H03, Way X H01 C1 H1 L acc H03 C3 H3 ∧ LcW1 T scope bd i elt (own.map (·.2)) ρ P Q (ds.drop (j + 1)) acc C3, fun H3 ⟨acc, C3, H03, w3, q3⟩ => ⟨_, by omega, rfl, hlt, acc, C3, H03, w3, q3⟩, fun x H3 hy => ?_⟩
    obtain ⟨H03, p3, c3, r3⟩ := y1.yld j _ _ _ x H3 ds[j] w2.st.base w2.c hP (by simp [hlt]) hy
    have w3 := w2.step p3 c3
    have at3 := at1.step w3.st c3
    refine bind_to c3.same hb hv r3 (at3.wipe _).s (at3.wipe _).l fun σ' s' l' ew => ⟨by rw [ew, wipe_wipe], ρ', C2, _, qe, H03, ⟨at3.a, c3, s', l'⟩, fun b C5 H5 H05 p5 c5 q5 => ?_⟩
    have w5 := w3.step p5 c5
    have at5 : At T H05 ρ' C5 σ' H5 := ⟨(at1.step w5.st c5).a, c5, SlotsR.mono s' p5.base, l'⟩
    cases b with
    | false => exact ⟨acc, C5, H05, w5, q5⟩
    | true =>
      refine ⟨ρ', C5, _, q5, H05, at5, fun v y C4 H4 H04 p4 c4 r4 ⟨hlen, q4⟩ => ?_⟩
      obtain ⟨vs, f1, f2, w6⟩ := (w5.step p4 c4).add hL r4
      exact ⟨vs, f1, by rw [f2]; exact Nat.lt_trans hlen (by decide), _, C4, H04, w6, q4⟩
  · have e : j = ds.length := by omega
    subst e
    rw [List.drop_length] at q2
    obtain ⟨H0', f1, f2, f3⟩ := w2.fin hL
    exact .inl ⟨y1.stop _ _ _ _ w2.st.base w2.c hP (Nat.le_refl _), k _ _ C2 H2 H0' (p1.trans c1 f1) f2 f3 q2.2⟩
theorem we_lc1 (own : List (Str × Nat)) (bd : Bind) (hc : X.calm = true) (hN : X.N.Nodup) (ok : BlkOk X.N X.env.scope scope own)
    (hg : ∀ (s : Shared) (H : Hp) (Ca : Addr) (cl : List (Str × Addr)) (fp : List Addr), PG (X.blk s H scope (compEnvC scope cl Ca X.env) fp) tg (bd.g X.K)) (hv : ∀ i ∈ bd.slots, i ∈ own.map (·.2))
    (h : WI T tg iter ρ C fun ds P C1 => LcW1 T scope bd i elt (own.map (·.2)) ρ P Q ds [] C1) (hs : ∀ x, foldedSetIterable iter X.env x = pure x := by intro _; rfl) : WE T (.ListComp elt [⟨tg, iter, [i], 0⟩] scope pos) ρ C Q := by
  exact PE.imp (pe_lc hc hN h ok hg (fun s H Ca cl fp => pts_one (pt_someB T scope i s H Ca cl fp)) (pe_someB T scope elt) hs) (read_lc1 own bd hv)
end
end
end Tr

set_option maxHeartbeats 2000000
namespace Tr
open PySem L2 PySem.Spec PyProof.Rows

section
variable {X : Cx} {T : TX X} {ρ : Rho} {C : Cells} {Q : QE} {e a b c o : Expr} {pos p apos cpos : Pos} {es : List Expr} {d d1 d2 : D} {ds ds2 : List D}

theorem ow_int0 {f : Value → Value → Sem Value} {g : Int → Int → V} {i j : Int} (gd : D) (ho : OpR X f (rI0 g)) (hg : ∀ H0 : Hp, Rep X.K H0 gd (g i j)) (q : Q gd C) : OW T f (.int i) (.int j) C Q :=
  ow_look ho (fun x y H H0 c r1 r2 => by cases r1; cases r2; exact ⟨g i j, hg H0, fun R k => ⟨i, j, rfl, rfl, k⟩⟩) q
theorem ow_intC {f : Value → Value → Sem Value} {P : Int → Int → Prop} {g : Int → Int → V} {i j : Int} (gd : D) (ho : OpR X f (rI P g)) (hp : P i j) (hg : ∀ H0 : Hp, Rep X.K H0 gd (g i j)) (q : Q gd C) : OW T f (.int i) (.int j) C Q :=
  ow_look ho (fun x y H H0 c r1 r2 => by cases r1; cases r2; exact ⟨g i j, hg H0, fun R k => ⟨i, j, rfl, rfl, hp, k⟩⟩) q
theorem ow_add {i j : Int} (q : Q (.int (i + j)) C) : OW T (binaryOp .Add) (.int i) (.int j) C Q := ow_int0 (.int (i + j)) op_add (fun _ => rfl) q
theorem ow_mul {i j : Int} (h : CMul i j) (q : Q (.int (i * j)) C) : OW T (binaryOp .Mult) (.int i) (.int j) C Q := ow_intC (.int (i * j)) op_mul h (fun _ => rfl) q
theorem ow_fdiv {i j : Int} (h : 0 < j ∧ j < 1073741824) (q : Q (.int (i / j)) C) : OW T (binaryOp .FloorDiv) (.int i) (.int j) C Q := ow_intC (.int (i / j)) op_fdiv h (fun _ => rfl) q
theorem ow_mod {i j : Int} (h : 0 < j) (q : Q (.int (i % j)) C) : OW T (binaryOp .Mod) (.int i) (.int j) C Q := ow_intC (.int (i % j)) op_mod h (fun _ => rfl) q
theorem ow_pow {i j : Int} (h : CPow i j) (q : Q (.int (i ^ j.toNat)) C) : OW T (binaryOp .Pow) (.int i) (.int j) C Q := ow_intC (.int (i ^ j.toNat)) op_pow h (fun _ => rfl) q
theorem ow_gt {i j : Int} (q : Q (.bl (decide (j < i))) C) : OW T (compareOp .Gt) (.int i) (.int j) C Q := ow_int0 (.bl (decide (j < i))) op_gt (fun _ => rfl) q
theorem ow_ge {i j : Int} (q : Q (.bl (decide (j ≤ i))) C) : OW T (compareOp .GtE) (.int i) (.int j) C Q := ow_int0 (.bl (decide (j ≤ i))) op_ge (fun _ => rfl) q
theorem we_neg {i : Int} (h : WE T a ρ C fun d C1 => ∃ i, d = .int i ∧ Q (.int (-i)) C1) : WE T (.UnaryOp .USub a pos) ρ C Q :=
  PE.imp (pe_un un_neg h) fun σ H R ⟨H0, at_, k⟩ => ⟨H0, at_, fun v d C1 H1 H01 p1 c1 r1 ⟨i, e1, q⟩ => by subst e1; cases r1; exact ⟨i, rfl, k _ (.int (-i)) C1 H1 H01 p1 c1 rfl q⟩⟩
mutual
def toPy : D → PyData
  | .non => .none
  | .bl b => .bool b
  | .int i => .int i
  | .str s => .str s
  | .lst ds => .list (toPys ds)
  | .tup ds => .tuple (toPys ds)
  | _ => .none
def toPys : List D → List PyData
  | [] => []
  | d :: ds => toPy d :: toPys ds
end
mutual
def plainD : D → Bool
  | .non | .bl _ | .int _ | .str _ => true
  | .lst ds => plainDs ds
  | .tup ds => plainDs ds
  | _ => false
def plainDs : List D → Bool
  | [] => true
  | d :: ds => plainD d && plainDs ds
end
mutual
theorem rep_dp {K : W.Frag} {H0 H : Hp} (c : Same H0 H) : ∀ {d : D} {v : V}, plainD d = true → Rep K H0 d v → Dp K H v (toPy d)
  | .non, _, _, h => by cases h; exact .non
  | .bl _, _, _, h => by cases h; exact .bl _
  | .int _, _, _, h => by cases h; exact .int _
  | .str _, _, _, h => by cases h; exact .str _
  | .lst _, _, hp, ⟨a, vs, h1, h2, h3⟩ => by subst h1; exact .lst (Same.sqL c h2) (reps_dp c hp h3)
  | .tup _, _, hp, ⟨a, vs, h1, h2, h3⟩ => by subst h1; exact .tup (Same.sqT c h2) (reps_dp c hp h3)
theorem reps_dp {K : W.Frag} {H0 H : Hp} (c : Same H0 H) : ∀ {ds : List D} {vs : List V}, plainDs ds = true → Reps K H0 ds vs → DpAll K H vs (toPys ds)
  | [], _, _, h => by cases h; exact .nil
  | d :: ds, _, hp, ⟨v, r, h1, h2, h3⟩ => by
    subst h1
    have hp' : (plainD d && plainDs ds) = true := hp
    rw [Bool.and_eq_true] at hp'
    exact .cons (rep_dp c hp'.1 h2) (reps_dp c hp'.2 h3)
end
def PyR (C : Cells) (d : D) (p : PyData) : Prop := (plainD d = true ∧ p = toPy d) ∨ ∃ a ds, d = .raw (.ref a) ∧ (a, Cell.lst ds) ∈ C ∧ plainDs ds = true ∧ p = .list (toPys ds)
theorem pyR_dp {K : W.Frag} {H0 H : Hp} {v : V} {p : PyData} (c : CellsR K H0 C H) (r : Rep K H0 d v) (h : PyR C d p) : Dp K H v p := by
  rcases h with ⟨h1, rfl⟩ | ⟨a, ds, rfl, hm, hp, rfl⟩
  · exact rep_dp c.same h1 r
  · obtain ⟨vs, g1, g2⟩ := c.ok a _ hm
    obtain rfl : v = .ref a := r
    exact .lst (.inl (.inl g1)) (reps_dp c.same hp g2)
theorem ow_eq {p1 p2 : PyData} (hu : X.A.units + 64 < cLine) (h1 : PyR C d1 p1) (h2 : PyR C d2 p2) (s1 : SeqAt.shaped p1 = true) (s2 : SeqAt.shaped p2 = true) (q : Q (.bl (PyData.eqv p1 p2)) C) : OW T (compareOp .Eq) d1 d2 C Q :=
  ow_look (d := .bl (PyData.eqv p1 p2)) (op_eqD hu) (fun x y H H0 c r1 r2 => ⟨.bl (PyData.eqv p1 p2), rfl, fun R k => ⟨p1, p2, pyR_dp c r1 h1, pyR_dp c r2 h2, s1, s2, k⟩⟩) q
theorem ow_ne {p1 p2 : PyData} (hu : X.A.units + 64 < cLine) (h1 : PyR C d1 p1) (h2 : PyR C d2 p2) (s1 : SeqAt.shaped p1 = true) (s2 : SeqAt.shaped p2 = true) (q : Q (.bl (!PyData.eqv p1 p2)) C) : OW T (compareOp .NotEq) d1 d2 C Q :=
  ow_look (d := .bl (!PyData.eqv p1 p2)) (op_neD hu) (fun x y H H0 c r1 r2 => ⟨.bl (!PyData.eqv p1 p2), rfl, fun R k => ⟨p1, p2, pyR_dp c r1 h1, pyR_dp c r2 h2, s1, s2, k⟩⟩) q
theorem ow_eq_str {x y : Str} (q : Q (.bl (decide (x = y))) C) : OW T (compareOp .Eq) (.str x) (.str y) C Q :=
  ow_look (d := .bl (decide (x = y))) op_eq (fun u v H H0 c r1 r2 => by cases r1; cases r2; exact ⟨.bl (decide (x = y)), rfl, fun R k => ⟨rfl, by
    rw [show decide (V.str x = V.str y) = decide (x = y) by by_cases e : x = y <;> simp [e]]; exact k⟩⟩) q
theorem ow_ne_str {x y : Str} (q : Q (.bl (!decide (x = y))) C) : OW T (compareOp .NotEq) (.str x) (.str y) C Q :=
  ow_look (d := .bl (!decide (x = y))) op_ne (fun u v H H0 c r1 r2 => by cases r1; cases r2; exact ⟨.bl (!decide (x = y)), rfl, fun R k => ⟨rfl, by
    rw [show decide (V.str x = V.str y) = decide (x = y) by by_cases e : x = y <;> simp [e]]; exact k⟩⟩) q
theorem ow_eq_int {x y : Int} (q : Q (.bl (decide (x = y))) C) : OW T (compareOp .Eq) (.int x) (.int y) C Q :=
  ow_look (d := .bl (decide (x = y))) op_eq (fun u v H H0 c r1 r2 => by cases r1; cases r2; exact ⟨.bl (decide (x = y)), rfl, fun R k => ⟨rfl, by
    rw [show decide (V.int x = V.int y) = decide (x = y) by by_cases e : x = y <;> simp [e]]; exact k⟩⟩) q
theorem ow_ne_int {x y : Int} (q : Q (.bl (!decide (x = y))) C) : OW T (compareOp .NotEq) (.int x) (.int y) C Q :=
  ow_look (d := .bl (!decide (x = y))) op_ne (fun u v H H0 c r1 r2 => by cases r1; cases r2; exact ⟨.bl (!decide (x = y)), rfl, fun R k => ⟨rfl, by
    rw [show decide (V.int x = V.int y) = decide (x = y) by by_cases e : x = y <;> simp [e]]; exact k⟩⟩) q
def isNon : D → Bool
  | .non => true
  | _ => false
theorem ow_add_str {x y : Str} (h : x.length + y.length ≤ 100000) (q : Q (.str (x ++ y)) C) : OW T (binaryOp .Add) (.str x) (.str y) C Q :=
  ow_look (d := .str (x ++ y)) op_add_str (fun u v H H0 c r1 r2 => by cases r1; cases r2; exact ⟨.str (x ++ y), rfl, fun R k => ⟨x, y, rfl, rfl, Nat.le_trans h (by decide), k⟩⟩) q
theorem sw_str {s : Str} {lo hi : Option Int} (h : s.length ≤ 100000) (q : Q (.str (cutS s lo hi)) C) : SW T (.str s) lo hi C Q :=
  SlR.imp sl_str fun x l u H R ⟨e1, e2, H0, c, r1, k⟩ => by
    subst e1; subst e2; cases r1
    exact ⟨s, rfl, Nat.le_trans h (by decide), k.here (d := .str (cutS s l u)) c rfl q⟩
theorem sw_tup {lo hi : Option Int} (q : Q (.tup (cutD ds lo hi)) C) : SW T (.tup ds) lo hi C Q :=
  SlR.imp sl_tupA fun x l u H R ⟨e1, e2, H0, c, r1, k⟩ => by
    subst e1; subst e2
    obtain ⟨a, vs, g1, g2, g3⟩ := id r1
    have hl := g3.length
    refine ⟨a, vs, g1, Same.sqT c.same g2, fun hw => ?_, fun _ z hz => ?_⟩
    · have e : cutD ds l u = ds := by
        unfold cutD
        rw [hl, hw.1, hw.2, ← hl]; simp
      rw [e] at q
      subst g1
      exact k.here (d := .tup ds) c r1 q
    · obtain ⟨p2, c2⟩ := stp_new (o := .tup (cutV vs l u)) c hz
      exact k _ (.tup (cutD ds l u)) C _ _ p2 c2 ⟨z, _, rfl, .inl (.inl upd_same), (reps_cut g3 l u).mono p2.base⟩ q
theorem cw_str_int {i : Int} (h : i.natAbs.log2 < 1920) (q : Q (.str (toString i)) C) : CW T (.type "str") [.int i] C Q :=
  cw_look (d := .str (toString i)) call_str_int (fun xs H H0 c r => by
    obtain ⟨v, e1, r1⟩ := r.one
    cases r1; subst e1
    exact ⟨.str (toString i), rfl, fun R k => ⟨i, rfl, h, k⟩⟩) q
theorem cw_str_str {s : Str} (q : Q (.str s) C) : CW T (.type "str") [.str s] C Q :=
  cw_look (d := .str s) SkE.call_str_str (fun xs H H0 c r => by
    obtain ⟨v, e1, r1⟩ := r.one
    cases r1; subst e1
    exact ⟨.str s, rfl, fun R k => ⟨s, rfl, k⟩⟩) q
theorem cw_int_str {s : Str} {n : Int} (h : intText? s = some n) (hl : s.length ≤ 640) (q : Q (.int n) C) : CW T (.type "int") [.str s] C Q :=
  cw_look (d := .int n) call_int_str (fun xs H H0 c r => by
    obtain ⟨v, e1, r1⟩ := r.one
    cases r1; subst e1
    exact ⟨.int n, rfl, fun R k => ⟨s, n, rfl, h, hl, k⟩⟩) q
theorem cw_int {i : Int} (q : Q (.int i) C) : CW T (.type "int") [.int i] C Q :=
  cw_look (d := .int i) call_int1 (fun xs H H0 c r => by
    obtain ⟨v, e1, r1⟩ := r.one
    cases r1; subst e1
    exact ⟨.int i, rfl, fun R k => .inl ⟨i, rfl, k⟩⟩) q
theorem cw_int_bl {k : Bool} (q : Q (.int (if k then 1 else 0)) C) : CW T (.type "int") [.bl k] C Q :=
  cw_look (d := .int (if k then 1 else 0)) call_int1 (fun xs H H0 c r => by
    obtain ⟨v, e1, r1⟩ := r.one
    cases r1; subst e1
    exact ⟨.int (if k then 1 else 0), rfl, fun R q => .inr ⟨k, rfl, q⟩⟩) q
theorem cw_abs {i : Int} (q : Q (.int (if i < 0 then -i else i)) C) : CW T (.builtin "abs") [.int i] C Q :=
  cw_look (d := .int (if i < 0 then -i else i)) call_abs (fun xs H H0 c r => by
    obtain ⟨v, e1, r1⟩ := r.one
    cases r1; subst e1
    exact ⟨.int (if i < 0 then -i else i), rfl, fun R k => ⟨i, rfl, k⟩⟩) q
theorem reps_bls {K : W.Frag} {H0 : Hp} : ∀ {bs : List Bool} {vs : List V}, Reps K H0 (bs.map D.bl) vs → vs = bs.map V.bl
  | [], _, h => h
  | x :: r, _, ⟨_, _, h1, h2, h3⟩ => by subst h1; rw [reps_bls h3, h2]; rfl
theorem cw_all {bs : List Bool} (hc : X.calm = true) (q : Q (.bl (bs.all id)) C) : CW T (.builtin "all") [.lst (bs.map D.bl)] C Q :=
  cw_look (d := .bl (bs.all id)) (cr_all hc) (fun xs H H0 c r => by
    obtain ⟨v, e1, a, vs, e2, h2, h3⟩ := r.one
    subst e1; subst e2
    rw [reps_bls h3] at h2
    exact ⟨.bl (bs.all id), rfl, fun R k => ⟨a, bs, rfl, Same.sqL c.same h2, k⟩⟩) q
end
end Tr

set_option maxHeartbeats 2000000
namespace Tr
open PySem L2 PySem.Spec PyProof.Rows

section
open Builtin
variable {prog : Program} {w : World} {A : Around} {E : Value → Shared → Prop} {s : Shared} {K : W.Frag} {x C f : Addr} {ox : Obj} {od : Option Obj} {b tb : Value}
theorem ne_call {Q : Value → Shared → Prop} (hu : A.in1.units < cLine) (X : K.In s.heap) (I : W.InstAt s.heap x ox C od) (ho : W.mroIn K C (.type "object") = some true) (hs : W.findIn K (.ref C) "__eq__" = some (some (.ref f))) (hf : W.isFn K (.ref f) = true)
    (h : wpAny (model prog w) A.in1 (call (.ref f) [.ref x, b]) (fun v s' => ∃ k, v = .bool k ∧ Q (.bool (!k)) s') E s) : wpAny (model prog w) A (call (.builtin "object.__ne__") [.ref x, b]) Q E s := by
  refine wpAny_call (codeAny_call_builtin PySem.F.cmp_object.ne.plain PySem.F.cmpEntry_ne ?_)
  have L0 := I.type (M := model prog w)
  have L1 := W.looks_mroIn (M := model prog w) X ho
  have chk : ∀ {P : Unit → Shared → Prop} {A : Around} {E : Value → Shared → Prop}, P () s → wpAny (model prog w) A (checkBuiltinCall "object.__ne__" ⟨[.ref x, b], []⟩) P E s := fun {P A E} hp => by
    have ha := PySem.F.cmpArgs_ne (.ref x) b
    unfold argsOk at ha
    unfold checkBuiltinCall
    simp only [PySem.F.cmpKind_ne, PySem.F.cmpSplit_ne]
    unfold isInstance
    repeat (first | (with_reducible refine L0.here ?_) | (with_reducible refine L1.here ?_) | wp_step)
    exact hp
  refine chk ?_
  unfold Builtin.«object.__ne__»
  repeat (first
    | with_reducible refine wpAny_cRoomFor hu ?_
    | (refine wpAny_bind (m := callSpecialIfBound? (.ref x) (Str.ofString "__eq__") [b]) (W.ifBound_K X I hs hf (wpAny_mono h (fun r s' hr => ?_) fun _ _ y => y)))
    | wp_step)
  obtain ⟨k, rfl, hq⟩ := hr
  repeat (first | exact hq | exact wpAny_pure hq | exact wpAny_truthy_bool hq | (refine wpAny_bind (m := truthy (.bool _)) (wpAny_truthy_bool ?_)) | wp_step)
theorem ne_K {Q : Value → Shared → Prop} (hu : A.in1.units < cLine) (X : K.In s.heap) (I : W.InstAt s.heap x ox C od) (hb : W.Looks (model prog w) s.heap (typeOf b) tb) (hn : W.notFirst K C tb = true) (ho : W.mroIn K C (.type "object") = some true)
    (hne : W.findIn K (.ref C) "__ne__" = some (some (.builtin "object.__ne__"))) (hs : W.findIn K (.ref C) "__eq__" = some (some (.ref f))) (hf : W.isFn K (.ref f) = true)
    (h : wpAny (model prog w) A.in1 (call (.ref f) [.ref x, b]) (fun v s' => ∃ k, v = .bool k ∧ Q (.bool (!k)) s') E s) : wpAny (model prog w) A (richCompare .NotEq (.ref x) b) Q E s := by
  have one : wpAny (model prog w) A (tryCompare (.ref x) "__ne__" b) (fun r s' => ∃ v, r = some v ∧ Q v s') E s := by
    have bd := PySem.F.cmp_object.ne.bind (.ref x)
    unfold tryCompare
    simp only [callSpecialIfBound?, bindSpecialIfBound?]
    refine wpAny_bind (wpAny_holding (wpAny_bind (wpAny_bind (wpAny_bind (I.type.here ((W.looks_findIn X hne).here ?_))))))
    dsimp only
    rw [bd]
    refine wpAny_bind (wpAny_askSetting (wpAny_ite ?_))
    have core : wpAny (model prog w) A (call (.builtin "object.__ne__") [.ref x, b]) (fun v s' => ∃ k, v = .bool k ∧ Q (.bool k) s') E s := ne_call hu X I ho hs hf (wpAny_mono h (fun v s' ⟨k, e, q⟩ => ⟨k, e, _, rfl, q⟩) fun _ _ y => y)
    split
    · refine wpAny_bind (wpAny_pure (wpAny_pure ?_))
      show wpAny _ _ (call (.builtin "object.__ne__") ([.ref x] ++ [b]) >>= fun v => pure (some v)) _ _ _
      exact wpAny_bind (wpAny_mono core (fun v s' ⟨k, e, q⟩ => by subst e; exact wpAny_pure (wpAny_pure ⟨_, rfl, q⟩)) fun _ _ h' => h')
    · refine wpAny_tryCatch (wpAny_bind (wpAny_pure (wpAny_pure ?_)))
      show wpAny _ _ (call (.builtin "object.__ne__") ([.ref x] ++ [b]) >>= fun v => pure (some v)) _ _ _
      exact wpAny_bind (wpAny_mono core (fun v s' ⟨k, e, q⟩ => by subst e; exact wpAny_pure (wpAny_pure ⟨_, rfl, q⟩)) fun _ _ h' => h')
  unfold richCompare
  simp only [oneThing_ref]
  refine wpAny_holding (wpAny_bind (wpAny_cRoomFor (Nat.lt_of_succ_lt hu) ?_))
  refine wpAny_bind (I.type.here (wpAny_bind (hb.here ?_)))
  split
  · rename_i q
    have e : W.subIn K tb (.ref C) = some false := by
      rcases Bool.or_eq_true_iff.mp hn with e | e
      · rw [beq_iff_eq.mp e] at q; simp at q
      · exact beq_iff_eq.mp e
    refine wpAny_bind ((W.looks_subIn X e).here ?_)
    simp only [Bool.false_eq_true, if_false]
    refine wpAny_bind (wpAny_mono one (fun r s' z => ?_) fun _ _ e => e)
    obtain ⟨v, rfl, hq⟩ := z
    exact wpAny_pure hq
  · refine wpAny_bind (wpAny_pure ?_)
    simp only [Bool.false_eq_true, if_false]
    refine wpAny_bind (wpAny_mono one (fun r s' z => ?_) fun _ _ e => e)
    obtain ⟨v, rfl, hq⟩ := z
    exact wpAny_pure hq
end

theorem in1_G {k : Nat} {A : Around} (r : RoomG (k + 1) A) : RoomG k A.in1 := ⟨r.rm.in1, r.gd⟩
structure ClsI (K : W.Frag) (Cl : Addr) : Prop where
  c : Cls K Cl
  ca : W.findIn K (.ref Cl) "__class__" = some (some (.builtin "object.__class__"))
  cn : W.specialIn K (.builtin "object.__class__") "__get__" = some (some (.builtin "getset_descriptor.__get__"))
  ct : W.takesIn K (.builtin "object.__class__") = some true
  cm : W.mroIn K Cl (.type "object") = some true
inductive TyD (K : W.Frag) (C : Cells) : D → Value → Prop
  | non : TyD K C .non (.type "NoneType")
  | bl (b) : TyD K C (.bl b) (.type "bool")
  | int (i) : TyD K C (.int i) (.type "int")
  | str (s) : TyD K C (.str s) (.type "str")
  | lst (ds) : TyD K C (.lst ds) (.type "list")
  | tup (ds) : TyD K C (.tup ds) (.type "tuple")
  | ins {Cl ns ds} (h : ClsI K Cl) : TyD K C (.ins Cl ns ds) (.ref Cl)
  | cl {a ds} (h : (a, Cell.lst ds) ∈ C) : TyD K C (.raw (.ref a)) (.type "list")
  | ci {a Cl ns ds} (h : (a, Cell.ins Cl ns ds) ∈ C) (hc : ClsI K Cl) : TyD K C (.raw (.ref a)) (.ref Cl)
theorem rd_tyL {K : W.Frag} {H : Hp} {a : Addr} {vs : List V} (h : SqL K H a vs) : TyX K H (.ref a) (.type "list") := by
  rcases h with (h | ⟨o, h⟩) | ⟨o, its, n, h1, h2, _⟩
  · exact .base (.lst h)
  · exact .base (.frz h)
  · exact .kList h1 h2
theorem rd_tyT {K : W.Frag} {H : Hp} {a : Addr} {vs : List V} (h : SqT K H a vs) : TyX K H (.ref a) (.type "tuple") := by
  rcases h with (h | ⟨o, h⟩) | ⟨o, its, n, h1, h2, _⟩
  · exact .base (.tup h)
  · exact .fTuple h
  · exact .kTuple h1 h2
theorem ty_at {K : W.Frag} {H0 H : Hp} {C : Cells} {d : D} {v : V} {t : Value} (c : CellsR K H0 C H) (r : Rep K H0 d v) (h : TyD K C d t) : TyX K H v t := by
  cases h with
  | non => cases r; exact .base .non
  | bl b => cases r; exact .base (.bl b)
  | int b => cases r; exact .base (.int b)
  | str b => cases r; exact .base (.str b)
  | lst ds => obtain ⟨a, vs, e, h, _⟩ := r; subst e; exact rd_tyL (Same.sqL c.same h)
  | tup ds => obtain ⟨a, vs, e, h, _⟩ := r; subst e; exact rd_tyT (Same.sqT c.same h)
  | ins h => obtain ⟨a, dx, vs, e, h1, _⟩ := r; subst e; exact .base (.ins (c.same _ _ h1) h.c h.ca h.cn h.ct h.cm)
  | cl hm => cases r; obtain ⟨vs, e, _⟩ := c.ok _ _ hm; exact .base (.lst e)
  | ci hm h => cases r; obtain ⟨dx, vs, e, _⟩ := c.ok _ _ hm; exact .base (.ins e h.c h.ca h.cn h.ct h.cm)
inductive ClsD : D → Value → Prop
  | ty (n : String) : ClsD (.raw (.ty n)) (.type n)
  | own (Cl : Addr) : ClsD (.raw (.ref Cl)) (.ref Cl)
theorem cls_at {K : W.Frag} {H0 : Hp} {d : D} {v : V} {u : Value} (r : Rep K H0 d v) (h : ClsD d u) : ClsV v u := by
  cases h with
  | ty n => cases r; exact .ty n
  | own C => cases r; exact .own C
theorem clss_at {K : W.Frag} {H0 : Hp} : ∀ {ds : List D} {vs : List V} {us : List Value}, Reps K H0 ds vs → Paired ClsD ds us → Paired ClsV vs us
  | [], _, _, r, .nil => by cases r; exact .nil
  | d :: ds, _, _, ⟨v, vs, e, r1, r2⟩, .cons h t => by subst e; exact .cons (cls_at r1 h) (clss_at r2 t)

section
variable {X : Cx} {T : TX X} {ρ : Rho} {C : Cells} {Q : QE} {e a b c o : Expr} {pos p apos cpos : Pos} {es : List Expr} {d d1 d2 : D} {ds ds2 : List D}
theorem we_ty {x : Str} {n : String} (hg : Gl X x) (hm : X.mg x = none) (hv : bootBuiltins x = some (.type n)) (q : Q (.raw (.ty n)) C) (hn : x ≠ "__name__" := by decide) (hd : (x == ("__debug__" : Str)) = false := by decide) : WE T (.Name x pos) ρ C Q :=
  we_look (d := .raw (.ty n)) (pe_bltn (v := .ty n) hg hm hv rfl hn hd) (fun σ H H0 a => ⟨.ty n, rfl, fun R k => k⟩) q
theorem call_isiS : CallR X (.builtin "isinstance") (fun xs H Q => ∃ (x : V) (tp : Addr) (cs : List V) (t : Value) (us : List Value) (b : Bool), xs = [x, .ref tp] ∧ SqT X.K H tp cs ∧ Paired ClsV cs us ∧ TyX X.K H x t ∧ W.kitAny X.K t us = some b ∧ Q (.bl b) H) := by
  intro pins s σ H xs us Q I r h
  obtain ⟨x, tp, cs, t, ws, b, rfl, hT, k, ty, e, q⟩ := h
  obtain ⟨u1, u2, rfl, r1, r2⟩ := vals2 r
  cases (show u2 = Value.ref tp from r2)
  obtain ⟨P, Z, p, hx⟩ := kit_of I r1 ty
  obtain ⟨its, rv, ⟨o, h1, h2, n, h3⟩, _⟩ := I.tuple hT
  have e3 := ClsV.all k rv
  subst e3
  obtain ⟨oc, od, dt, sl⟩ := o
  simp only at h2 h3
  subst h2 h3
  exact W.kia_tup Z I.kIn p h1 e hx fun tk => ⟨.bl b, H, I.tok tk, rfl, q⟩
theorem cw_isi {t u : Value} {b : Bool} (hc : ClsD d2 u) (ht : TyD X.K C d1 t) (hk : W.kitOne X.K t u = some b) (q : Q (.bl b) C) : CW T (.builtin "isinstance") [d1, d2] C Q :=
  cw_look (d := .bl b) call_isi (fun xs H H0 c r => by
    obtain ⟨v, w, e1, r1, r2⟩ := r.two
    subst e1
    exact ⟨.bl b, rfl, fun R k => ⟨v, w, t, u, b, rfl, cls_at r2 hc, ty_at c r1 ht, hk, k⟩⟩) q
theorem cw_isiT {t : Value} {us : List Value} {b : Bool} (hc : Paired ClsD ds us) (ht : TyD X.K C d1 t) (hk : W.kitAny X.K t us = some b) (q : Q (.bl b) C) : CW T (.builtin "isinstance") [d1, .tup ds] C Q :=
  cw_look (d := .bl b) call_isiS (fun xs H H0 c r => by
    obtain ⟨v, w, e1, r1, r2⟩ := r.two
    subst e1
    obtain ⟨a, vs, e2, h2, h3⟩ := tup_at c r2
    subst e2
    exact ⟨.bl b, rfl, fun R k => ⟨v, a, vs, t, us, b, rfl, h2, clss_at h3 hc, ty_at c r1 ht, hk, k⟩⟩) q
end

section
variable {X : Cx} {T : TX X} {ρ : Rho} {C : Cells} {Q : QE} {pos p apos : Pos} {k : Nat} {f Cl : Addr} {fd : FuncData} {ps : List Str} {F : FS} {dvs : List V} {dds : List D} {dus : List Value} {d1 d2 d : D} {ns : List Str} {ds : List D}
def AsksN (F : FS) (ds : List D) (C : Cells) (Q : QE) : Prop := ∃ μ r, C.Perm (μ ++ r) ∧ F ds μ (fun d μ' => Q d (μ' ++ r)) fun _ _ _ => False
theorem run_N {pins : List (Addr × Obj)} {σ : L2.St} {H H0 : Hp} {s : Shared} {R : VK} {us : List Value} {vs : List V} {A : Around} {E' : Value → Shared → Prop} (Fk : FnG X.prog X.w X.K X.mg X.base k f fd ps F) (hr : RoomG k A) (hb : Binds X.K fd ps [])
    (I : Inv X pins σ H s) (e0 : Env0 X.prog X.w X.K X.mg X.base A X.stack s H) (rv : Vals vs us) (c : CellsR X.K H0 C H) (r : Reps X.K H0 ds vs) (h : AsksN F ds C Q) (kk : Cont X H0 C H Q R) : wpAny (model X.prog X.w) A (call (.ref f) us) (EP X pins σ R) E' s := by
  obtain ⟨μ, rr, pm, h⟩ := h
  have all : spT X.K F vs H R (fun _ _ _ => False) := ⟨H0, ds, μ, _, _, c.part pm, r, h, fun v d C' H' H0' p c' r' q => by
    obtain ⟨p2, c2⟩ := c.back pm p c'
    exact kk v d _ H' H0' p2 c2 r' q, fun cls dd fs C' H' H0' p c x q => q⟩
  have nlen : us.length = ps.length := by
    rw [← rv.length, ← r.length]
    exact Fk.len _ _ _ _ h
  have bnd := hb s us I.kIn (by rw [List.append_nil]; exact nlen)
  rw [List.append_nil] at bnd
  have went := Fk.run A X.stack s H ⟨us, []⟩ us vs R _ hr e0 bnd rv all
  refine wpAny_call (codeAny_mono went ?_)
  rintro (e | (_ | _ | _ | u)) s' hq
  · obtain ⟨_, _, _, _, _, _, _, _, _, _, _, _, z⟩ := hq; exact z.elim
  · exact False.elim hq
  · exact False.elim hq
  · exact False.elim hq
  · exact I.after hq
theorem ins_inst {pins : List (Addr × Obj)} {σ : L2.St} {H H0 : Hp} {s : Shared} {v : V} {u : Value} (I : Inv X pins σ H s) (rv : RelV v u) (c : CellsR X.K H0 C H) (r : Rep X.K H0 d v) (h : InsD C d Cl ns ds) : ∃ ad ox od, v = .ref ad ∧ u = .ref ad ∧ W.InstAt s.heap ad ox Cl (some od) := by
  obtain ⟨ad, dx, vs, e1, e2, e3, e4⟩ := ins_at c r h
  subst e1
  obtain rfl : u = Value.ref ad := rv
  obtain ⟨mA, O, _⟩ := ins_get I.hok e2
  obtain ⟨od, J, _⟩ := O.look
  exact ⟨ad, _, od, rfl, rfl, J⟩
theorem ow_own {op : CmpOp} {t : Value} (hop : ∀ a b, compareOp op a b = richCompare op a b) (hs : W.findIn X.K (.ref Cl) (cmpInfo op).2.1 = some (some (.ref f))) (hf : W.isFn X.K (.ref f) = true) (hn : W.notFirst X.K Cl t = true)
    (Fk : FnG X.prog X.w X.K X.mg X.base k f fd ps F) (hr : RoomG k X.A) (hb : Binds X.K fd ps []) (h1 : InsD C d1 Cl ns ds) (h2 : TyD X.K C d2 t)
    (h : AsksN F [d1, d2] C fun d C' => ∃ j, d = .bl j ∧ Q (.bl j) C') : OW T (compareOp op) d1 d2 C Q := by
  intro pins s σ H x y v u R I rx ry ⟨H0, c, r1, r2, kk⟩
  obtain ⟨ad, ox, od, e1, e2, J⟩ := ins_inst I rx c r1 h1
  subst e1; subst e2
  obtain ⟨P, Z, p, hx⟩ := kit_of I ry (ty_at c r2 h2)
  obtain ⟨m, hF⟩ := I.fr
  rw [hop]
  refine W.cmp_K (op := op) hr.rm.units0 hF I.ok.mod.kin J (Z.ty _ _ I.kIn p) hn hs hf ?_
  refine wpAny_mono (run_N (us := [.ref ad, u]) (vs := [.ref ad, y]) (R := fun v H => ∃ j, v = .bl j ∧ R (.bl j) H) Fk hr hb I I.env0 (.cons rfl (.cons ry .nil)) c (Reps.cons r1 (Reps.cons r2 Reps.nil)) h
    (fun v d C' H' H0' p c' r ⟨j, e, q⟩ => by subst e; cases r; exact ⟨j, rfl, kk _ (.bl j) C' H' H0' p c' rfl q⟩)) (fun w s' z => ?_) fun _ _ x => x
  obtain ⟨z', H', I', rz, j, e, qz⟩ := z
  subst e
  cases (show w = Value.bool j from rz)
  exact ⟨.bl j, H', I', rfl, qz⟩
theorem ow_neOwn {t : Value} (hne : W.findIn X.K (.ref Cl) "__ne__" = some (some (.builtin "object.__ne__"))) (hs : W.findIn X.K (.ref Cl) "__eq__" = some (some (.ref f))) (hf : W.isFn X.K (.ref f) = true) (hn : W.notFirst X.K Cl t = true)
    (ho : W.mroIn X.K Cl (.type "object") = some true) (Fk : FnG X.prog X.w X.K X.mg X.base k f fd ps F) (hr : RoomG (k + 1) X.A) (hb : Binds X.K fd ps []) (h1 : InsD C d1 Cl ns ds) (h2 : TyD X.K C d2 t)
    (h : AsksN F [d1, d2] C fun d C' => ∃ j, d = .bl j ∧ Q (.bl (!j)) C') : OW T (compareOp .NotEq) d1 d2 C Q := by
  intro pins s σ H x y v u R I rx ry ⟨H0, c, r1, r2, kk⟩
  obtain ⟨ad, ox, od, e1, e2, J⟩ := ins_inst I rx c r1 h1
  subst e1; subst e2
  obtain ⟨P, Z, p, hx⟩ := kit_of I ry (ty_at c r2 h2)
  obtain ⟨m, hF⟩ := I.fr
  show wpAny _ _ (richCompare .NotEq _ _) _ _ _
  refine ne_K (in1_G hr).rm.units0 I.kIn J (Z.ty _ _ I.kIn p) hn ho hne hs hf ?_
  refine wpAny_mono (run_N (us := [.ref ad, u]) (vs := [.ref ad, y]) (R := fun v H => ∃ j, v = .bl j ∧ R (.bl (!j)) H) Fk (in1_G hr) hb I I.env0.in1 (.cons rfl (.cons ry .nil)) c (Reps.cons r1 (Reps.cons r2 Reps.nil)) h
    (fun v d C' H' H0' p c' r ⟨j, e, q⟩ => by subst e; cases r; exact ⟨j, rfl, kk _ (.bl (!j)) C' H' H0' p c' rfl q⟩)) (fun w s' z => ?_) fun _ _ x => x
  obtain ⟨z', H', I', rz, j, e, qz⟩ := z
  subst e
  cases (show w = Value.bool j from rz)
  exact ⟨j, rfl, .bl (!j), H', I', rfl, qz⟩
theorem cw_lenOwn (hs : W.findIn X.K (.ref Cl) "__len__" = some (some (.ref f))) (hf : W.isFn X.K (.ref f) = true) (Fk : FnG X.prog X.w X.K X.mg X.base k f fd ps F) (hr : RoomG (k + 1) X.A) (hb : Binds X.K fd ps []) (h1 : InsD C d Cl ns ds)
    (h : AsksN F [d] C fun d C' => ∃ n : Nat, d = .int n ∧ n ≤ 1000000 ∧ Q (.int n) C') : CW T (.builtin "len") [d] C Q := by
  intro pins s σ H vs us R I rv ⟨H0, c, r, kk⟩
  obtain ⟨v, e, r1⟩ := r.one
  subst e
  obtain ⟨u, rfl, ru⟩ := rv.one
  obtain ⟨ad, ox, od, e1, e2, J⟩ := ins_inst I ru c r1 h1
  subst e1; subst e2
  obtain ⟨m, hF⟩ := I.fr
  refine W.len_K hF I.ok.mod.kin J hs hf ?_
  refine wpAny_mono (run_N (us := [.ref ad]) (vs := [.ref ad]) (R := fun v H => ∃ n : Nat, v = .int n ∧ n ≤ 1000000 ∧ R (.int n) H) Fk (in1_G hr) hb I I.env0.in1 (.cons rfl .nil) c (Reps.cons r1 Reps.nil) h
    (fun v d C' H' H0' p c' r ⟨n, e, hn, q⟩ => by subst e; cases r; exact ⟨n, rfl, hn, kk _ (.int n) C' H' H0' p c' rfl q⟩)) (fun w s' z => ?_) fun _ _ x => x
  obtain ⟨z', H', I', rz, n, e, hn, qz⟩ := z
  subst e
  obtain ⟨t, ht⟩ := (show ∃ t, w = Value.int n t from rz)
  subst ht
  exact ⟨⟨Int.natCast_nonneg _, by omega⟩, .int n, H', I'.tok _, ⟨_, rfl⟩, qz⟩
theorem cw_strOwn (hs : W.findIn X.K (.ref Cl) "__str__" = some (some (.ref f))) (hf : W.isFn X.K (.ref f) = true) (Fk : FnG X.prog X.w X.K X.mg X.base k f fd ps F) (hr : RoomG (k + 2) X.A) (hb : Binds X.K fd ps []) (h1 : InsD C d Cl ns ds)
    (h : AsksN F [d] C fun d C' => ∃ z : Str, d = .str z ∧ Q (.str z) C') : CW T (.type "str") [d] C Q := by
  intro pins s σ H vs us R I rv ⟨H0, c, r, kk⟩
  obtain ⟨v, e, r1⟩ := r.one
  subst e
  obtain ⟨u, rfl, ru⟩ := rv.one
  obtain ⟨ad, ox, od, e1, e2, J⟩ := ins_inst I ru c r1 h1
  subst e1; subst e2
  refine W.kso_call (in1_G (in1_G hr)).rm.units0 I.kIn J hs hf ?_
  refine wpAny_mono (run_N (us := [.ref ad]) (vs := [.ref ad]) (R := fun v H => ∃ z : Str, v = .str z ∧ R (.str z) H) Fk (in1_G (in1_G hr)) hb I I.env0.in1.in1 (.cons rfl .nil) c (Reps.cons r1 Reps.nil) h
    (fun v d C' H' H0' p c' r ⟨z, e, q⟩ => by subst e; cases r; exact ⟨z, rfl, kk _ (.str z) C' H' H0' p c' rfl q⟩)) (fun w s' z => ?_) fun _ _ x => x
  obtain ⟨z', H', I', rz, n, e, qz⟩ := z
  subst e
  obtain ⟨t, ht⟩ := (show ∃ t, w = Value.str n t from rz)
  subst ht
  exact ⟨.str n, H', I', ⟨_, rfl⟩, qz⟩
end

section
variable {X : Cx} {T : TX X} {ρ : Rho} {C : Cells} {Q : QE} {e a b c o : Expr} {pos p apos cpos : Pos} {es : List Expr} {d d1 d2 : D} {ds ds2 : List D}
def rCatS (K : W.Frag) : R2 := fun x y H Q => ∃ l b xs zs, x = .ref l ∧ y = .ref b ∧ SqL K H l xs ∧ SqL K H b zs ∧ xs.length + zs.length ≤ sizeLine ∧ ∀ p, H p = none → Q (.ref p) (upd H p (.lst (xs ++ zs)))
theorem op_catS : OpR X (binaryOp .Add) (rCatS X.K) := by
  intro pins s σ H x y v u Q I rx ry h
  obtain ⟨l, b, xs, zs, rfl, rfl, hH, hB, hz, q⟩ := h
  cases rx
  cases ry
  obtain ⟨its, r, ht, z1⟩ := I.list hH
  obtain ⟨its2, r2, ht2, z2⟩ := I.list hB
  have l1 := r.length
  have l2 := r2.length
  obtain ⟨⟨cl1, dd, data, sl⟩, n, ho, hc, _, hd⟩ := id ht
  obtain ⟨⟨cl2, dd2, data2, sl2⟩, n2, ho2, hc2, _, hd2⟩ := id ht2
  simp only at hc hd hc2 hd2
  subst hc hd hc2 hd2
  refine concat_meets ⟨_, ho, rfl⟩ ⟨_, ho2, rfl⟩ PySem.noFill_list_add PySem.seq_list_add PySem.F.slot_list_add PySem.F.entry_list_add (PySem.F.args_list_add_2 _ _) (list_addW l b its.toArray its2.toArray n n2 dd dd2 sl sl2 (by rw [List.size_toArray, List.size_toArray]; omega)) ⟨ho, ho2, ?_⟩
  rw [show its.toArray ++ its2.toArray = (its ++ its2).toArray by simp]
  exact ⟨.ref _, _, I.lnew (t' := s.toks) (r.append r2) (by rw [List.length_append]; omega), rfl, q _ I.fresh⟩
theorem ow_cat (h1 : LstD C d1 ds) (h2 : LstD C d2 ds2) (hl : ds.length + ds2.length ≤ 100000) (q : Q (.lst (ds ++ ds2)) C) : OW T (binaryOp .Add) d1 d2 C Q :=
  OpR.imp op_catS fun x y H R ⟨H0, c, r1, r2, k⟩ => by
    obtain ⟨a, vs, e1, g1, g2⟩ := lst_at c r1 h1
    obtain ⟨b, ws, e2, g3, g4⟩ := lst_at c r2 h2
    have l1 := g2.length
    have l2 := g4.length
    refine ⟨a, b, vs, ws, e1, e2, g1, g3, Nat.le_trans (by omega) (show 100000 ≤ sizeLine by decide), fun p hp => ?_⟩
    obtain ⟨p2, c2⟩ := stp_new (o := .lst (vs ++ ws)) c hp
    exact k _ (.lst (ds ++ ds2)) C _ _ p2 c2 ⟨p, _, rfl, .inl (.inl upd_same), (g2.append g4).mono p2.base⟩ q
theorem ow_catT (hl : ds.length + ds2.length ≤ 100000) (q : Q (.tup (ds ++ ds2)) C) : OW T (binaryOp .Add) (.tup ds) (.tup ds2) C Q :=
  OpR.imp op_catA fun x y H R ⟨H0, c, r1, r2, k⟩ => by
    obtain ⟨a, vs, e1, g1, g2⟩ := tup_at c r1
    obtain ⟨b, ws, e2, g3, g4⟩ := tup_at c r2
    have l1 := g2.length
    have l2 := g4.length
    refine ⟨a, b, vs, ws, e1, e2, g1, g3, Nat.le_trans (by omega) (show 100000 ≤ sizeLine by decide), fun e => ?_, fun _ e => ?_, fun _ _ p hp => ?_⟩
    · subst e; subst e2
      have : ds = [] := List.length_eq_zero_iff.mp l1
      subst this
      exact k.here (d := .tup ([] ++ ds2)) c r2 q
    · subst e; subst e1
      have : ds2 = [] := List.length_eq_zero_iff.mp l2
      subst this
      rw [List.append_nil] at q
      exact k.here (d := .tup ds) c r1 q
    · obtain ⟨p2, c2⟩ := stp_new (o := .tup (vs ++ ws)) c hp
      exact k _ (.tup (ds ++ ds2)) C _ _ p2 c2 ⟨p, _, rfl, .inl (.inl upd_same), (g2.append g4).mono p2.base⟩ q
theorem Reps.reverse {K : W.Frag} {H : Hp} : ∀ {ds : List D} {vs : List V}, Reps K H ds vs → Reps K H ds.reverse vs.reverse
  | [], _, h => by cases h; exact Reps.nil
  | d :: ds, _, ⟨v, r, e, h1, h2⟩ => by
    subst e
    rw [List.reverse_cons, List.reverse_cons]
    exact (Reps.reverse h2).append (Reps.cons h1 Reps.nil)
theorem we_revC {k : Nat} {p1 p2 p3 : Pos} (h : WE T e ρ C fun d C1 => ∃ ds, LstD C1 d ds ∧ ∀ p, Q (.raw (.ref p)) ((p, .lst ds.reverse) :: C1)) : WE T (.Subscript e (.Slice none none (some (.UnaryOp .USub (.Constant (.int 1) k p1) p2)) p3) pos) ρ C Q :=
  PE.imp (pe_revL h) fun σ H R ⟨H0, at_, k⟩ => ⟨H0, at_, fun v d C1 H1 H01 pp c1 r1 ⟨ds, hl, q⟩ => by
    obtain ⟨a, vs, e1, g1, g2⟩ := lst_at c1 r1 hl
    refine ⟨a, vs, e1, g1, fun p hp => ?_⟩
    obtain ⟨p2, c2⟩ := stp_cell (o := .lst vs.reverse) (c := .lst ds.reverse) c1 hp ⟨_, upd_same, Reps.reverse g2⟩
    exact k _ (.raw (.ref p)) _ _ _ (pp.trans c1 p2) c2 rfl (q p)⟩

theorem we_m1 {r : V → List V → Hp → VK → Prop} {m : Str} (hm : ∀ {to te : TE}, PE X o to → PE X e te → PE X (.Call (.Attribute o m apos) [e] [] pos) (tM1 r to te))
    (h : WE T o ρ C fun d1 C1 => ∃ s, d1 = .str s ∧ WE T e ρ C1 fun d2 C2 => ∀ v H H0 R, CellsR X.K H0 C2 H → Rep X.K H0 d2 v → Cont X H0 C2 H Q R → r (.str s) [v] H R) : WE T (.Call (.Attribute o m apos) [e] [] pos) ρ C Q :=
  PE.imp (hm h (pe_some T ρ e)) fun σ H R ⟨H0, at_, k⟩ => ⟨H0, at_, fun v d C1 H1 H01 p1 c1 r1 ⟨s, e1, q1⟩ => by
    subst e1; cases r1
    exact ⟨⟨s, rfl⟩, C1, _, q1, H01, at_.step p1 c1, fun v2 d2 C2 H2 H02 p2 c2 r2 q2 => q2 _ _ _ _ c2 r2 (k.after (p1.trans c1 p2) c2 fun _ _ z => z)⟩⟩
theorem strs_split {K : W.Frag} {H0 H : Hp} {C : Cells} {x : List Str} {R : VK} {Q : QE} (c : CellsR K H0 C H) (q : Q (.lst (x.map D.str)) C)
    (k : ∀ v d C' H' H0', Stp H0 C H H0' C' H' → CellsR K H0' C' H' → Rep K H0' d v → Q d C' → R v H') : rNewStrs x H R := by
  intro p hp
  obtain ⟨p2, c2⟩ := stp_new (o := .lst (x.map V.str)) c hp
  exact k _ (.lst (x.map D.str)) C _ _ p2 c2 ⟨p, _, rfl, .inl (.inl upd_same), Reps.strs x⟩ q
theorem we_split (h : WE T o ρ C fun d1 C1 => ∃ s, d1 = .str s ∧ WE T e ρ C1 fun d2 C2 => ∃ t : Str, d2 = .str t ∧ (t.length == 0) = false ∧ s.length ≤ 100000 ∧ Q (.lst ((Txt.split s t).map D.str)) C2)
    (hs : starEach [e] X.env = [(false, eval e X.env)] := by rfl) (hbase : attributeBase o "split" X.env (eval o X.env) = eval o X.env := by rfl) (hline : (apos.endLine == pos.line) = true := by rfl) : WE T (.Call (.Attribute o "split" apos) [e] [] pos) ρ C Q :=
  we_m1 (fun ho he => pe_split ho he hs hbase hline) (h.mono fun d1 C1 ⟨s, e1, w⟩ => ⟨s, e1, w.mono fun d2 C2 ⟨t, e2, ht, hs, q⟩ v H H0 R c r k => by
    subst e2; cases r
    exact ⟨s, t, rfl, rfl, ht, Nat.le_trans (show s.length + 2 ≤ 100002 by omega) (by decide), strs_split c q k⟩⟩)
theorem we_partition (h : WE T o ρ C fun d1 C1 => ∃ s, d1 = .str s ∧ WE T e ρ C1 fun d2 C2 => ∃ t : Str, d2 = .str t ∧ (t.length == 0) = false ∧ s.length ≤ 100000 ∧ Q (.tup [.str (Txt.partition s t).1, .str (Txt.partition s t).2.1, .str (Txt.partition s t).2.2]) C2)
    (hs : starEach [e] X.env = [(false, eval e X.env)] := by rfl) (hbase : attributeBase o "partition" X.env (eval o X.env) = eval o X.env := by rfl) (hline : (apos.endLine == pos.line) = true := by rfl) : WE T (.Call (.Attribute o "partition" apos) [e] [] pos) ρ C Q :=
  we_m1 (fun ho he => pe_partition ho he hs hbase hline) (h.mono fun d1 C1 ⟨s, e1, w⟩ => ⟨s, e1, w.mono fun d2 C2 ⟨t, e2, ht, hs, q⟩ v H H0 R c r k => by
    subst e2; cases r
    refine ⟨s, t, rfl, rfl, ht, Nat.le_trans hs (by decide), fun p hp => ?_⟩
    obtain ⟨p2, c2⟩ := stp_new (o := .tup [.str (Txt.partition s t).1, .str (Txt.partition s t).2.1, .str (Txt.partition s t).2.2]) c hp
    exact k _ (.tup [.str (Txt.partition s t).1, .str (Txt.partition s t).2.1, .str (Txt.partition s t).2.2]) C2 _ _ p2 c2 ⟨p, _, rfl, .inl (.inl upd_same), Reps.cons rfl (Reps.cons rfl (Reps.cons rfl Reps.nil))⟩ q⟩)
theorem we_join (h : WE T o ρ C fun d1 C1 => ∃ s, d1 = .str s ∧ WE T e ρ C1 fun d2 C2 => ∃ ys : List Str, SeqD C2 d2 (ys.map D.str) ∧ (ys.map (·.length)).sum + ys.length * s.length ≤ 100000 ∧ Q (.str (Txt.join s ys)) C2)
    (hs : starEach [e] X.env = [(false, eval e X.env)] := by rfl) (hbase : attributeBase o "join" X.env (eval o X.env) = eval o X.env := by rfl) (hline : (apos.endLine == pos.line) = true := by rfl) : WE T (.Call (.Attribute o "join" apos) [e] [] pos) ρ C Q :=
  we_m1 (fun ho he => pe_join ho he hs hbase hline) (h.mono fun d1 C1 ⟨s, e1, w⟩ => ⟨s, e1, w.mono fun d2 C2 ⟨ys, hq, hz, q⟩ v H H0 R c r k => by
    rcases hq with hq | hq
    · obtain ⟨a, vs, e2, h2, h3⟩ := lst_at c r hq
      subst e2
      rw [Reps.of_strs h3] at h2
      exact ⟨s, a, ys, rfl, rfl, .inl h2, Nat.le_trans hz (by decide), k.here (d := .str (Txt.join s ys)) c rfl q⟩
    · subst hq
      obtain ⟨a, vs, e2, h2, h3⟩ := tup_at c r
      subst e2
      rw [Reps.of_strs h3] at h2
      exact ⟨s, a, ys, rfl, rfl, .inr h2, Nat.le_trans hz (by decide), k.here (d := .str (Txt.join s ys)) c rfl q⟩⟩)
theorem we_startswith (h : WE T o ρ C fun d1 C1 => ∃ s, d1 = .str s ∧ WE T e ρ C1 fun d2 C2 => ∃ t : Str, d2 = .str t ∧ Q (.bl (Txt.startswith s t)) C2)
    (hs : starEach [e] X.env = [(false, eval e X.env)] := by rfl) (hbase : attributeBase o "startswith" X.env (eval o X.env) = eval o X.env := by rfl) (hline : (apos.endLine == pos.line) = true := by rfl) : WE T (.Call (.Attribute o "startswith" apos) [e] [] pos) ρ C Q :=
  we_m1 (fun ho he => pe_m1 PySem.F.slot_str_startswith PySem.F.type_str_startswith mt_startswith ho he hs hbase hline) (h.mono fun d1 C1 ⟨s, e1, w⟩ => ⟨s, e1, w.mono fun d2 C2 ⟨t, e2, q⟩ v H H0 R c r k => by
    subst e2; cases r
    exact ⟨s, t, rfl, rfl, k.here (d := .bl (Txt.startswith s t)) c rfl q⟩⟩)

def flatD : D → Bool
  | .non | .bl _ | .int _ | .str _ => true
  | _ => false
def toV : D → V
  | .bl b => .bl b
  | .int i => .int i
  | .str s => .str s
  | _ => .non
theorem flat_at {K : W.Frag} {H0 : Hp} {d : D} {v : V} (r : Rep K H0 d v) (h : flatD d = true) : v = toV d ∧ flatV v = true := by
  cases d <;> first | (cases r; exact ⟨rfl, rfl⟩) | cases h
theorem flats_at {K : W.Frag} {H0 : Hp} : ∀ {ds : List D} {vs : List V}, Reps K H0 ds vs → ds.all flatD = true → vs = ds.map toV ∧ vs.all flatV = true
  | [], _, r, _ => by cases r; exact ⟨rfl, rfl⟩
  | d :: ds, _, ⟨v, vs, e, r1, r2⟩, h => by
    subst e
    rw [List.all_cons, Bool.and_eq_true] at h
    obtain ⟨e1, f1⟩ := flat_at r1 h.1
    obtain ⟨e2, f2⟩ := flats_at r2 h.2
    exact ⟨by rw [e1, e2]; rfl, by rw [List.all_cons, f1, f2]; rfl⟩
def inD (d : D) (ds : List D) : Bool := inV (toV d) (ds.map toV)
theorem in_at {n : Bool} {H0 H : Hp} {x y : V} {R : VK} (c : CellsR X.K H0 C H) (r1 : Rep X.K H0 d1 x) (r2 : Rep X.K H0 d2 y) (h : SeqD C d2 ds) (f1 : flatD d1 = true) (f2 : ds.all flatD = true) (k : R (.bl (if n then !inD d1 ds else inD d1 ds)) H) : rIn X.K n x y H R := by
  obtain ⟨e1, g1⟩ := flat_at r1 f1
  rcases h with h | h
  · obtain ⟨a, vs, e2, h2, h3⟩ := lst_at c r2 h
    obtain ⟨e3, g3⟩ := flats_at h3 f2
    refine ⟨a, vs, e2, .inl h2, g1, g3, ?_⟩
    rw [e1, e3]; exact k
  · subst h
    obtain ⟨a, vs, e2, h2, h3⟩ := tup_at c r2
    obtain ⟨e3, g3⟩ := flats_at h3 f2
    refine ⟨a, vs, e2, .inr h2, g1, g3, ?_⟩
    rw [e1, e3]; exact k
theorem ow_in (h : SeqD C d2 ds) (f1 : flatD d1 = true) (f2 : ds.all flatD = true) (q : Q (.bl (inD d1 ds)) C) : OW T (compareOp .In) d1 d2 C Q :=
  ow_look (d := .bl (inD d1 ds)) op_in_seq (fun u v H H0 c r1 r2 => ⟨.bl (inD d1 ds), rfl, fun R k => in_at (n := false) c r1 r2 h f1 f2 k⟩) q
theorem ow_notIn (h : SeqD C d2 ds) (f1 : flatD d1 = true) (f2 : ds.all flatD = true) (q : Q (.bl (!inD d1 ds)) C) : OW T (compareOp .NotIn) d1 d2 C Q :=
  ow_look (d := .bl (!inD d1 ds)) op_notIn_seq (fun u v H H0 c r1 r2 => ⟨.bl (!inD d1 ds), rfl, fun R k => in_at (n := true) c r1 r2 h f1 f2 k⟩) q
theorem inD_strs {s : Str} : ∀ {xs : List Str}, inD (.str s) (xs.map D.str) = decide (s ∈ xs)
  | [] => by simp [inD, inV]
  | x :: xs => by
    have ih := inD_strs (s := s) (xs := xs)
    unfold inD inV at ih ⊢
    rw [List.map_cons, List.map_cons, List.any_cons, ih]
    have : eqV (toV (.str x)) (toV (.str s)) = (x == s) := rfl
    rw [this]
    by_cases h : x = s
    · simp [h]
    · simp [h, Ne.symm h]
theorem ow_inSign {n : Nat} {z : Str} (q : Q (.bl (decide (n ∈ z.cps.toList))) C) : OW T (compareOp .In) (.str ⟨#[n]⟩) (.str z) C Q :=
  ow_look (d := .bl (decide (n ∈ z.cps.toList))) op_in_sign (fun u v H H0 c r1 r2 => by cases r1; cases r2; exact ⟨.bl (decide (n ∈ z.cps.toList)), rfl, fun R k => ⟨n, z, rfl, rfl, k⟩⟩) q

end
end Tr

set_option maxHeartbeats 2000000
namespace Tr
open PySem L2 PySem.Spec PyProof.Rows

def lawFS : FS := fun ds C Q _ => ∃ ns : List Int, ds = [.lst (ns.map .int)] ∧ ns.length ≤ 63 ∧ C = [] ∧ ∀ C', Q (.bl true) C'
theorem cells_nil (K : W.Frag) (H : Hp) : CellsR K H [] H := ⟨Same.refl _, fun a ⟨_, h⟩ => (by cases h), fun a c h => (by cases h), List.nodup_nil⟩
theorem law_sp {K : W.Frag} {H : Hp} {a : Addr} {ns : List Int} (hl : ns.length ≤ 63) (hs : SqL K H a (ns.map V.int)) : spT K lawFS [.ref a] H (fun v _ => v = .bl true) fun _ _ _ => False :=
  ⟨H, [.lst (ns.map .int)], [], fun d _ => d = .bl true, fun _ _ _ => False, cells_nil K H, Reps.cons ⟨a, _, rfl, hs, Reps.ints ns⟩ Reps.nil, ⟨ns, rfl, hl, rfl, fun _ => rfl⟩,
    fun v d C' H' H0' _ _ r e => (by subst e; exact r), fun _ _ _ _ _ _ _ _ _ q => q⟩
section
variable {P : Program} {w : World} {K : W.Frag} {mg mb : Str → Option Value} {k : Nat} {fa a : Addr} {fd : FuncData} {x : Str} {s₁ : Shared} {vs : List Value} {ns : List Int}
theorem law_from (H : Hp) (hO : Only H) (hS : SqL K H a (ns.map V.int)) (hok : HOk P w H s₁.heap) (hA : ∀ b, H b ≠ none → b = a) (hK : H a ≠ none → K.lookup a = none)
    (KX : K.In s₁.heap) (hns : s₁.heap.Ns mainGlobals mg) (hb : s₁.heap.Ns builtinsNs mb) (hbb : ∀ x : Str, x ≠ "__name__" → mb x = bootBuiltins x) (hlim : s₁.heap.NoLimit) (hg : s₁.gens = #[])
    (ha : s₁.heap.get? a = some { cls := .type "list", data := .seq vs.toArray }) (hl : ns.length ≤ 63) (hr : RoomG k callerA)
    (F : ∀ base : Heap, K.In base → base.Ns mainGlobals mg → FnG P w K mg base k fa fd [x] lawFS) (hbind : ∀ (s : Shared) (u : Value), BindsTo s fd ⟨[u], []⟩ [(x, u)]) :
    codeAny (model P w) callerA (.call (.ref fa) ⟨[.ref a], []⟩) (fun r s' => r = .ok (.ret (.bool true)) ∧ OldK s₁.heap s'.heap ∧ s'.os = s₁.os ∧ AllBare s'.gens) s₁ := by
  have only : ∀ {b : Addr}, b ≠ a → H b = none := fun {b} ne => Classical.byContradiction fun h => ne (hA b h)
  have dicts : ∀ {b : Addr} {o : Obj} {es : Array DictEntry} {ep : Nat}, s₁.heap.get? b = some o → o.data = .dict es ep → (hidT s₁.heap H).get? b = some o := fun {b o es ep} e d => hidT_get e (by
    refine only fun eq => ?_
    subst eq
    rw [ha] at e; cases e; cases d)
  have names : ∀ {b : Addr} {m : Str → Option Value}, s₁.heap.Ns b m → (hidT s₁.heap H).Ns b m := fun {b m} ⟨o, es, ep, e, d, r⟩ => ⟨o, es, ep, dicts e d, d, r⟩
  have kin : K.In (hidT s₁.heap H) := fun b o e => hidT_get (KX b o e) (by
    by_cases eq : b = a
    · subst eq
      exact Classical.byContradiction fun h => by rw [hK h] at e; cases e
    · exact only eq)
  have lim : (hidT s₁.heap H).NoLimit := let ⟨mc, h1, h2⟩ := hlim; ⟨mc, names h1, h2⟩
  have e0 : Env0 P w K mg (hidT s₁.heap H) callerA [] s₁ H := ⟨rfl, ⟨kin, names hns, ⟨mb, names hb, hbb⟩, lim⟩, fun b o e => of_hidT e, Nat.le_of_eq (hidT_size _ _), trivial, fun b hb => absurd (show b ∈ ([] : List Addr) from hb) (by simp), hok, .of_eq hg⟩
  have went := (F _ kin (names hns)).run callerA [] s₁ H ⟨[.ref a], []⟩ [.ref a] [.ref a] _ _ hr e0 (hbind s₁ (.ref a)) (.cons rfl .nil) (law_sp hl hS)
  refine codeAny_mono went ?_
  rintro (e | (_ | _ | _ | u)) s' h
  · obtain ⟨_, _, _, _, _, _, _, _, _, _, _, _, z⟩ := h
    exact z.elim
  · exact False.elim h
  · exact False.elim h
  · exact False.elim h
  · obtain ⟨v, H', os, bare, un, hok', r', q⟩ := h
    subst q
    obtain rfl : u = Value.bool true := r'
    refine ⟨rfl, OldK.of_keep fun b o e => ?_, os, bare⟩
    rcases hO b with z | ⟨ob, xs, z⟩
    · exact un.keep b o e z (by intro z; exact absurd (show b ∈ ([] : List Addr) from z) (by simp)) (by simp)
    · obtain ⟨e1, _⟩ := hok b _ z
      obtain ⟨e2, _⟩ := hok' b _ (un.frzs b ob _ z)
      rw [e] at e1; cases e1
      exact e2
theorem law_goes (KX : K.In s₁.heap) (hns : s₁.heap.Ns mainGlobals mg) (hb : s₁.heap.Ns builtinsNs mb) (hbb : ∀ x : Str, x ≠ "__name__" → mb x = bootBuiltins x) (hlim : s₁.heap.NoLimit) (hg : s₁.gens = #[])
    (ha : s₁.heap.get? a = some { cls := .type "list", data := .seq vs.toArray }) (hi : IntsAre vs ns) (hl : ns.length ≤ 63) (hr : RoomG k callerA)
    (F : ∀ base : Heap, K.In base → base.Ns mainGlobals mg → FnG P w K mg base k fa fd [x] lawFS) (hbind : ∀ (s : Shared) (u : Value), BindsTo s fd ⟨[u], []⟩ [(x, u)]) :
    codeAny (model P w) callerA (.call (.ref fa) ⟨[.ref a], []⟩) (fun r s' => r = .ok (.ret (.bool true)) ∧ OldK s₁.heap s'.heap ∧ s'.os = s₁.os ∧ AllBare s'.gens) s₁ := by
  have rv := vals_ints hi
  have hsz : ns.length ≤ sizeLine := Nat.le_trans hl (by decide)
  cases hk : K.lookup a with
  | some o =>
    have e := KX a o hk
    rw [ha] at e; cases e
    exact law_from (fun _ => none) (fun _ => .inl rfl) (.inr ⟨_, vs.toArray, _, hk, rfl, rfl, rfl, by rw [List.size_toArray, hi.length]; exact hsz, by simpa using rv⟩) (fun b u z => by cases z) (fun b z => absurd rfl z) (fun z => absurd rfl z) KX hns hb hbb hlim hg ha hl hr F hbind
  | none =>
    have at_a : ∀ b u, (if b = a then some (HO.frz { cls := .type "list", data := .seq vs.toArray } (.lst (ns.map V.int))) else none) = some u → b = a ∧ u = HO.frz { cls := .type "list", data := .seq vs.toArray } (.lst (ns.map V.int)) := fun b u z => by
      split at z
      · rename_i e; exact ⟨e, (Option.some.inj z).symm⟩
      · cases z
    refine law_from (fun b => if b = a then some (.frz { cls := .type "list", data := .seq vs.toArray } (.lst (ns.map V.int))) else none) (fun b => ?_) (.inl (.inr ⟨{ cls := .type "list", data := .seq vs.toArray }, if_pos rfl⟩)) (fun b u z => ?_) (fun b z => ?_) (fun _ => hk) KX hns hb hbb hlim hg ha hl hr F hbind
    · by_cases e : b = a
      · exact .inr ⟨_, _, if_pos e⟩
      · exact .inl (if_neg e)
    · obtain ⟨e1, e2⟩ := at_a b u z
      subst e1; subst e2
      exact ⟨ha, by rw [List.length_map]; exact hsz, vs, _, rv, ha⟩
    · by_cases e : b = a
      · exact e
      · exact absurd (if_neg e) z
end
end Tr

set_option maxHeartbeats 2000000
namespace Tr
open PySem L2 PySem.Spec PyProof.Rows

section
open AutoSeq1 (wpAny_loadPart')
theorem meets_enumT (l : Addr) (items : Array Value) (n : Nat) (dct : Option Addr) (sl : Array (Option Value)) :
    Meets (Builtin.«enumerate.__new__» ⟨[.type "enumerate", .ref l], []⟩) (fun _ R s => s.heap.get? l = some { cls := .type "tuple", dict := dct, data := .seq items n, slots := sl } ∧
      R (.ok (.ret (.ref (s.heap.push { cls := .type "tuple_iterator", data := .fields #[.ref l, .int 0 0] }).objs.size)))
        { s with heap := (s.heap.push { cls := .type "tuple_iterator", data := .fields #[.ref l, .int 0 0] }).push { cls := .type "enumerate", data := .fields #[.none, .bool false, .ref s.heap.objs.size, rawInt 0, .none, .none] } }) :=
  .of_wp fun prog w A R s h => by
    obtain ⟨hp, g, d, tk, os⟩ := s
    obtain ⟨hl, h⟩ := h
    have hsub := sub_enumerate
    have hL : Heap.IsTuple (Shared.heap ⟨hp, g, d, tk, os⟩) l items := ⟨_, hl, rfl, n, rfl⟩
    wp_walk using wpAny_loadPart' hl
    refine wpAny_stack_any fun st => wpAny_pure ?_
    split
    · rename_i c _ _ _ _ _
      cases (c == Value.type "enumerate")
      · wp_walk using wpAny_loadPart' hl, wpAny_pyIter_tuple hL
        exact ⟨_, rfl, h⟩
      · wp_walk using wpAny_loadPart' hl, wpAny_pyIter_tuple hL
        exact ⟨_, rfl, h⟩
    · wp_walk using wpAny_loadPart' hl, wpAny_pyIter_tuple hL
      exact ⟨_, rfl, h⟩
end
theorem call_enumT {prog : Program} {w : World} {A : Around} {E : Value → Shared → Prop} {s : Shared} {l : Addr} {items : Array Value} {Q : Value → Shared → Prop} (hL : IsTup s.heap l items)
    (h : ∀ h', IsEnum h' (s.heap.objs.size + 1) s.heap.objs.size 0 .none → h'.IsTupleIter s.heap.objs.size l 0 → (∀ b o, s.heap.get? b = some o → h'.get? b = some o) → Q (.ref (s.heap.objs.size + 1)) { s with heap := h' }) :
    wpAny (model prog w) A (call (.type "enumerate") [.ref l]) Q E s := by
  obtain ⟨⟨c, dct, dt, sl⟩, hl, hc, n, hd⟩ := hL
  simp only at hc hd
  subst hc hd
  refine callType_new F.called_enumerate (by decide) (F.typeCall_enumerate_1 _) (F.newCall_enumerate_1 _) (fun obj => F.args_object_init_2 obj _) F.entry_enumerate_new (meets_enumT l items n dct sl) ⟨hl, ?_⟩
  have hz : (s.heap.push { cls := .type "tuple_iterator", data := .fields #[.ref l, .int 0 0] }).objs.size = s.heap.objs.size + 1 := Heap.size_push ..
  show _ ∧ _
  rw [hz]
  have he := Heap.get?_push_size (s.heap.push { cls := .type "tuple_iterator", data := .fields #[.ref l, .int 0 0] }) (o := { cls := .type "enumerate", data := .fields #[.none, .bool false, .ref s.heap.objs.size, rawInt 0, .none, .none] }) rfl
  rw [hz] at he
  exact ⟨⟨_, he, rfl⟩, h _ he ⟨_, Heap.get?_push_of_some _ (Heap.get?_push_size _ rfl), rfl, rfl⟩ fun b o x => Heap.get?_push_of_some _ (Heap.get?_push_of_some _ x)⟩
def IteT (K : W.Frag) (a : Addr) : It :=
  ⟨fun i H => ∃ (xs : List V) (x : V), SqT K H a xs ∧ xs[i]? = some x, fun i H v H' => ∃ T x, v = .ref T ∧ H T = none ∧ H' = upd H T (.tup [.int (i : Nat), x]) ∧ ∀ xs, SqT K H a xs → xs[i]? = some x, fun i H => ∃ xs : List V, SqT K H a xs ∧ xs.length ≤ i⟩
theorem turn_enumT {P : Program} {w : World} {K : W.Frag} {elts : List Expr} {kk : Nat} {tpos : Pos} (a e it : Addr) :
    Turn P w K (.Tuple elts kk tpos) (IteT K a) [e, it] e (fun i h => (∃ old, IsEnum h e it ((i : Nat) : Int) old) ∧ h.IsTupleIter it a i ∧ e ≠ it) where
  mem := by simp
  obj := fun i h st b hb => by
    obtain ⟨⟨old, he⟩, ⟨o, ho, hc, hd⟩, _⟩ := st
    rcases (show b = e ∨ b = it by simpa using hb) with z | z
    · rw [z]; exact ⟨_, he, fun v q => nomatch q⟩
    · rw [z]; exact ⟨o, ho, fun v q => by rw [hd] at q; cases q⟩
  keep := fun i h h' st k => let ⟨⟨old, he⟩, hi, hne⟩ := st; ⟨⟨old, k e (by simp) _ he⟩, hi.at fun o q => k it (by simp) o q, hne⟩
  item := by
    intro X hP hw hK hc i pins s σ H E I hf st ⟨xs, x, hq, hx⟩
    subst hP hw hK
    obtain ⟨⟨old, he⟩, hit, hne⟩ := st
    obtain ⟨its, rv, p, hz⟩ := I.tuple hq
    obtain ⟨u, hu, ru⟩ := rv.get hx
    have hel : e < s.heap.objs.size := Heap.lt_size he
    have hil : it < s.heap.objs.size := by obtain ⟨_, q, _⟩ := hit; exact Heap.lt_size q
    have hat : a ≠ it := fun z => by
      obtain ⟨o1, q1, c1, _⟩ := hit
      obtain ⟨o2, q2, c2, _⟩ := p
      rw [z] at q2
      rw [q1] at q2; cases q2
      rw [c1] at c2; injection c2 with z; exact absurd z (by decide)
    have hea : e ≠ a := fun z => by
      obtain ⟨o2, q2, c2, _⟩ := p
      rw [← z, show s.heap.get? e = _ from he] at q2; cases q2
      injection c2 with z; exact absurd z (by decide)
    have hxl : i < its.toArray.size := by
      have := (List.getElem?_eq_some_iff.mp hu).1
      simpa using this
    refine wpAny_pyNext_enum_itemD (Draws.tuple (A := X.A.in1) (show X.A.in1.handled = none from I.ok.hd hc) it a hat its.toArray) he ⟨hit, p⟩ hxl hne (by simp [hne, hea]) fun y h' tk hy ho st' hT hsz hk => ?_
    have ey : y = u := by
      have h1 : its.toArray[i]? = some y := hy
      have h2 : its.toArray[i]? = some u := by simpa using hu
      rw [h1] at h2; exact Option.some.inj h2
    subst ey
    obtain ⟨hit', _⟩ := st'
    refine ⟨_, rfl, wpAny_letOwnedTupleGo_enum (s := { s with heap := h', toks := tk + 1 }) ho fun h'' he' sb => ?_⟩
    have hT2 : h''.get? s.heap.objs.size = some { cls := .type "tuple", data := .seq #[.int i tk, y] } := (sb.2 _ (Nat.ne_of_gt hel)).trans hT
    have new : ObjOk X.prog X.w (upd H s.heap.objs.size (.tup [.int (i : Nat), x])) h'' s.heap.objs.size (.tup [.int (i : Nat), x]) :=
      ⟨by show 2 ≤ sizeLine; decide, [.int i tk, y], .cons ⟨_, rfl⟩ (.cons ru .nil), ⟨_, hT2, rfl, _, rfl⟩⟩
    have I1 : Inv X pins σ (upd H s.heap.objs.size (.tup [.int (i : Nat), x])) { s with heap := h'', toks := tk + 1 } :=
      I.turnedNew (ch := [e, it]) (fun b ob hb q => (sb.2 b (fun z => hb (by simp [z]))).trans (hk b ob (fun z => hb (by simp [z])) (fun z => hb (by simp [z])) q)) hf (Nat.le_refl _) new
    refine ⟨.ref s.heap.objs.size, _, I1, rfl, ⟨_, x, rfl, I.hok.fresh (Nat.le_refl _), rfl, fun ys hy => by rw [I.tuple_inj hy hq]; exact hx⟩, ⟨⟨y, ?_⟩, hit'.at fun o q => (sb.2 it (Ne.symm hne)).trans q, hne⟩, fun b hb => ?_⟩
    · rw [show ((i + 1 : Nat) : Int) = (i : Int) + 1 by omega]; exact he'
    · have hb' : b < s.heap.objs.size := by
        rcases (show b = e ∨ b = it by simpa using hb) with z | z
        · rw [z]; exact hel
        · rw [z]; exact hil
      rw [upd_ne (Nat.ne_of_lt hb')]
      exact (hf b hb).1
  done := by
    intro X hP hw hK hc i pins s σ H E I hf st ⟨xs, hq, hx⟩
    subst hP hw hK
    obtain ⟨⟨old, he⟩, hit, hne⟩ := st
    obtain ⟨its, rv, p, hz⟩ := I.tuple hq
    obtain ⟨f0, f1, f2, f3, f4, f5⟩ := hf it (by simp)
    have hl := rv.length
    have hT : s.TypeIs (.ref e) "enumerate" := ⟨_, he, rfl⟩
    unfold pyNext
    refine wpAny_bind (wpAny_attempt (wpAny_callSpecial?_slot (name := Str.ofString "__next__") hT PySem.F.slot_enumerate_next
      (wpAny_call_entry PySem.F.slot_enumerate_next hT PySem.F.entry_enumerate_next ?_ (PySem.F.args_enumerate_next_1 _))))
    show wpAny _ _ (field (.ref e) 2 >>= _) _ _ _
    refine wpAny_bind (wpAny_field he rfl (x := .ref it) rfl ?_)
    refine wpAny_bind (wpAny_nextOf_tuple_end (show X.A.in1.handled = none from I.ok.hd hc) hit p (by simp; omega) fun h' x he' hx' => ?_)
    obtain ⟨o, ho, hc'⟩ := hx'
    refine wpAny_bind (wpAny_isInstance (T := "StopIteration") (b := true) ⟨o, ho, hc'⟩ isSubtype_stop ?_)
    exact wpAny_pure ⟨rfl, I.turned (t' := s.toks) (fun b o hb q => he' b o hb q) f0 f1 f3 f4 f5⟩
  self := fun A i s Q E st h => let ⟨⟨_, he⟩, _⟩ := st; wpAny_pyIter_enum he h
section
variable {X : Cx} {T : TX X} {ρ : Rho} {C : Cells} {Q : QE} {e a b c o : Expr} {pos p apos cpos tpos : Pos} {es elts : List Expr} {d d1 d2 : D} {ds ds2 : List D} {kk : Nat}
theorem pi_enumT {ta : TA} (hg : Gl X "enumerate") (hm : X.mg "enumerate" = none) (ha : PA X [e] ta) (hs : starEach [e] X.env = [(false, eval e X.env)] := by rfl) :
    PI X (.Tuple elts kk tpos) (.Call (.Name "enumerate" p) [e] [] pos) (fun σ H R => ta σ H fun vs H1 => ∃ a xs, vs = [.ref a] ∧ ((SqL X.K H1 a xs ∧ R (Ite X.K a) H1) ∨ (SqT X.K H1 a xs ∧ R (IteT X.K a) H1))) := by
  refine ⟨fun pins s σ H R I h => ?_⟩
  refine Call_ (ld_blt I hg hm boot_enumerate (callWith_type1 (thn (ha.run pos pins s σ H _ I h) fun us s1 ⟨vs, H1, I1, r1, a, xs, ex, q1⟩ => ?_) hs rfl))
  subst ex
  obtain ⟨u, rfl, r⟩ := r1.one
  cases (show u = Value.ref a from r)
  have fpk : ∀ b ∈ [s1.heap.objs.size + 1, s1.heap.objs.size], FpOk X pins H1 b := fun b hb => by
    have hle : s1.heap.objs.size ≤ b := by
      rcases (show b = s1.heap.objs.size + 1 ∨ b = s1.heap.objs.size by simpa using hb) with z | z
      · rw [z]; exact Nat.le_add_right _ _
      · rw [z]; exact Nat.le_refl _
    exact I1.fpOk hle (I1.hok.fresh hle)
  rcases q1 with ⟨hq, q⟩ | ⟨hq, q⟩
  · obtain ⟨its, rv, p', hz⟩ := I1.list hq
    refine call_enumerate_list p'.isList fun h' he hit hsz hk => wpAny_pyIter_enum he ?_
    exact ⟨s1.heap.objs.size + 1, [s1.heap.objs.size + 1, s1.heap.objs.size], _, _, H1, rfl, I1.kept (t' := s1.toks) hk, turn_enum a (s1.heap.objs.size + 1) s1.heap.objs.size, ⟨⟨.none, he⟩, hit, Nat.succ_ne_self _⟩, fpk, q⟩
  · obtain ⟨its, rv, p', hz⟩ := I1.tuple hq
    refine call_enumT p' fun h' he hit hk => wpAny_pyIter_enum he ?_
    exact ⟨s1.heap.objs.size + 1, [s1.heap.objs.size + 1, s1.heap.objs.size], _, _, H1, rfl, I1.kept (t' := s1.toks) hk, turn_enumT a (s1.heap.objs.size + 1) s1.heap.objs.size, ⟨⟨.none, he⟩, hit, Nat.succ_ne_self _⟩, fpk, q⟩
def enumD : Nat → List D → List D
  | _, [] => []
  | n, d :: ds => .tup [.int n, d] :: enumD (n + 1) ds
theorem enumD_len : ∀ (ds : List D) (n : Nat), (enumD n ds).length = ds.length
  | [], _ => rfl
  | _ :: ds, n => by simp [enumD, enumD_len ds]
theorem enumD_get : ∀ {ds : List D} {n i : Nat} {d : D}, (enumD n ds)[i]? = some d → ∃ y, ds[i]? = some y ∧ d = .tup [.int ((n + i : Nat) : Int), y]
  | [], _, _, _, h => by simp [enumD] at h
  | x :: ds, n, 0, d, h => by simp [enumD] at h; exact ⟨x, rfl, h.symm⟩
  | x :: ds, n, i + 1, d, h => by
    obtain ⟨y, h1, h2⟩ := enumD_get (ds := ds) (n := n + 1) (i := i) (d := d) (by simpa [enumD] using h)
    exact ⟨y, by simpa using h1, by rw [h2]; congr 3; omega⟩
theorem pair_rep {K : W.Frag} {H0 H : Hp} {C : Cells} {Tp : Addr} {i : Nat} {x : V} {y : D} (c : CellsR K H0 C H) (n : H Tp = none) (r : Rep K H0 y x) :
    ∃ H0', Stp H0 C H H0' C (upd H Tp (.tup [.int (i : Nat), x])) ∧ CellsR K H0' C (upd H Tp (.tup [.int (i : Nat), x])) ∧ Rep K H0' (.tup [.int (i : Nat), y]) (.ref Tp) := by
  obtain ⟨p2, c2⟩ := stp_new (o := .tup [.int (i : Nat), x]) c n
  exact ⟨_, p2, c2, Tp, _, rfl, .inl (.inl upd_same), Reps.cons rfl (Reps.cons (r.mono p2.base) Reps.nil)⟩
theorem yields_enumT {K : W.Frag} {H0 : Hp} {a : Addr} {vs : List V} (hs : SqT K H0 a vs) (r : Reps K H0 ds vs) : Yields K (IteT K a) H0 (fun _ => True) (enumD 0 ds) where
  go := fun i H0' C H e c _ hi => ⟨vs, vs[i]'(by rw [← r.length, ← enumD_len ds 0]; exact hi), Same.sqT (e.trans c.same) hs, by simp⟩
  stop := fun i H0' C H e c _ hi => ⟨vs, Same.sqT (e.trans c.same) hs, by rw [← r.length, ← enumD_len ds 0]; exact hi⟩
  yld := fun i H0' C H x H' d e c _ hd ⟨Tp, z, e1, n, e2, q⟩ => by
    subst e1; subst e2
    obtain ⟨y, g1, g2⟩ := enumD_get hd
    obtain ⟨v, f1, f2⟩ := r.get g1
    have := q vs (Same.sqT (e.trans c.same) hs)
    rw [f1] at this; cases this
    subst g2
    rw [Nat.zero_add]
    exact pair_rep c n (f2.mono e)
theorem yields_enumL {K : W.Frag} {H0 : Hp} {a : Addr} {vs : List V} (hs : SqL K H0 a vs) (r : Reps K H0 ds vs) : Yields K (Ite K a) H0 (fun _ => True) (enumD 0 ds) where
  go := fun i H0' C H e c _ hi => ⟨vs, vs[i]'(by rw [← r.length, ← enumD_len ds 0]; exact hi), Same.sqL (e.trans c.same) hs, by simp⟩
  stop := fun i H0' C H e c _ hi => ⟨vs, Same.sqL (e.trans c.same) hs, by rw [← r.length, ← enumD_len ds 0]; exact hi⟩
  yld := fun i H0' C H x H' d e c _ hd ⟨Tp, z, e1, n, e2, q⟩ => by
    subst e1; subst e2
    obtain ⟨y, g1, g2⟩ := enumD_get hd
    obtain ⟨v, f1, f2⟩ := r.get g1
    have := q vs (Same.sqL (e.trans c.same) hs)
    rw [f1] at this; cases this
    subst g2
    rw [Nat.zero_add]
    exact pair_rep c n (f2.mono e)
theorem yields_enumC {K : W.Frag} {H0 : Hp} {a : Addr} : Yields K (Ite K a) H0 (fun C => (a, Cell.lst ds) ∈ C) (enumD 0 ds) where
  go := fun i H0' C H e c hm hi => by
    obtain ⟨vs, h1, h2⟩ := c.ok a _ hm
    exact ⟨vs, vs[i]'(by rw [← h2.length, ← enumD_len ds 0]; exact hi), .inl (.inl h1), by simp⟩
  stop := fun i H0' C H e c hm hi => by
    obtain ⟨vs, h1, h2⟩ := c.ok a _ hm
    exact ⟨vs, .inl (.inl h1), by rw [← h2.length, ← enumD_len ds 0]; exact hi⟩
  yld := fun i H0' C H x H' d e c hm hd ⟨Tp, z, e1, n, e2, q⟩ => by
    subst e1; subst e2
    obtain ⟨vs, h1, h2⟩ := c.ok a _ hm
    obtain ⟨y, g1, g2⟩ := enumD_get hd
    obtain ⟨v, f1, f2⟩ := h2.get g1
    have := q vs (.inl (.inl h1))
    rw [f1] at this; cases this
    subst g2
    rw [Nat.zero_add]
    exact pair_rep c n f2
theorem wi_enum {Q : QI} (hg : Gl X "enumerate") (hm : X.mg "enumerate" = none)
    (h : WE T e ρ C fun d C1 => ∃ ds, ((d = .lst ds ∨ d = .tup ds) ∧ Q (enumD 0 ds) (fun _ => True) C1) ∨ (∃ z, d = .raw (.ref z) ∧ (z, Cell.lst ds) ∈ C1 ∧ Q (enumD 0 ds) (fun C => (z, Cell.lst ds) ∈ C) C1))
    (hs : starEach [e] X.env = [(false, eval e X.env)] := by rfl) (hs2 : starEach [e] X.env = (false, eval e X.env) :: starEach [] X.env := by rfl) : WI T (.Tuple elts kk tpos) (.Call (.Name "enumerate" p) [e] [] pos) ρ C Q := by
  refine PI.imp (pi_enumT hg hm (pa_cons h pa_nil hs2) hs) fun σ H R ⟨H0, at_, k⟩ => ⟨H0, at_, fun v d C1 H1 H01 p1 c1 r1 ⟨ds, q1⟩ => ?_⟩
  rcases q1 with ⟨h1, q⟩ | ⟨z, e1, hz, q⟩
  · rcases h1 with h1 | h1
    · subst h1
      obtain ⟨a, vs, e2, g1, g2⟩ := r1
      subst e2
      exact ⟨a, vs, rfl, .inl ⟨Same.sqL c1.same g1, k _ _ _ C1 H1 H01 p1 c1 (yields_enumL g1 g2) q⟩⟩
    · subst h1
      obtain ⟨a, vs, e2, g1, g2⟩ := r1
      subst e2
      exact ⟨a, vs, rfl, .inr ⟨Same.sqT c1.same g1, k _ _ _ C1 H1 H01 p1 c1 (yields_enumT g1 g2) q⟩⟩
  · subst e1
    obtain rfl : v = .ref z := r1
    obtain ⟨vs, g1, g2⟩ := c1.ok z _ hz
    exact ⟨z, vs, rfl, .inl ⟨.inl (.inl g1), k _ _ _ C1 H1 H01 p1 c1 yields_enumC q⟩⟩
end
end Tr

set_option maxHeartbeats 2000000
namespace Tr
open PySem L2 PySem.Spec PyProof.Rows

section
variable {K : W.Frag} {x qual : Str} {args : Arguments} {body : List Stmt} {scope : Scope} {f T : Addr} {oc kV doc pm cdv ct oT : Value} {od an dT : Option Addr} {osl sT : Array (Option Value)} {its : List Value} {n : Nat} {dvs : List V} {fd : FuncData} {ps : List Str}
theorem binds_all (F : FunD K x qual args body scope dvs [] f fd) (n : Nat) (hn : n = ps.length) (hd : dvs ≠ [])
    (h : ∀ (T : Addr) (kV doc pm : Value) (an : Option Addr) (cdv ct : Value) (us its : List Value), us.length = n → its.length = dvs.length →
      ∃ k, bindArgs (W.fnOf x qual args body scope (.ref T) kV doc pm an cdv ct) ⟨us, []⟩ = seqItems? (.ref T) >>= k ∧ k (some its.toArray) = pure (ps.zip us)) : Binds K fd ps [] := by
  obtain ⟨ds, h1, h2⟩ := F.binds1 (ps := ps) n dvs.length hd (by omega) fun T kV doc pm an cdv ct us its hu hi => by
    obtain ⟨k, e1, e2⟩ := h T kV doc pm an cdv ct us its hu hi
    exact ⟨k, e1, by rw [e2, List.drop_of_length_le (by omega), List.append_nil]⟩
  rw [List.drop_length] at h1
  cases h1
  exact h2
theorem kit_ref {C : Addr} {t : Value} {b : Bool} {cd : ClassData} (cl : W.clsIn K C = some cd) (ty : W.typeIn K (.ref C) = some (.type "type")) (ss : W.subIn K t (.ref C) = some b) (ne : (t == .ref C) = false) : W.kitOne K t (.ref C) = some b := by
  unfold W.kitOne
  rw [ne]
  simp only [Bool.false_eq_true, if_false]
  unfold W.kitCls
  simp only [cl, ty, ss]
  rfl
theorem kit_self {C : Addr} : W.kitOne K (.ref C) (.ref C) = some true := by
  unfold W.kitOne
  simp
theorem rep_ktup {H : Hp} {a : Addr} {vs : List V} {ds : List D} (l : K.lookup a = some ⟨.type "tuple", od, .seq its.toArray n, osl⟩) (hz : its.length ≤ 100000) (hv : Vals vs its) (r : Reps K H ds vs) : Rep K H (.tup ds) (.ref a) :=
  ⟨a, vs, rfl, .inr ⟨_, _, n, l, rfl, rfl, Nat.le_trans (by simpa using hz) (show 100000 ≤ sizeLine by decide), by simpa using hv⟩, r⟩
end
end Tr

set_option maxHeartbeats 2000000
namespace Tr
open PySem L2 PySem.Spec PyProof.Rows
theorem nn {b : Bool} (h : ¬ (!b) = true) : b = true := by cases b with | true => rfl | false => exact absurd rfl h
theorem nd {p : Prop} [Decidable p] (h : ¬ (!decide p) = true) : p := of_decide_eq_true (nn h)
section
variable {X : Cx} {T : TX X} {ρ : Rho} {C : Cells} {Q : QE} {e a b c o : Expr} {pos p apos cpos tpos : Pos} {es elts : List Expr} {d d1 d2 : D} {ds ds2 : List D} {N N' : TEnds} {st : List Stmt}
theorem WSs.mono (h : WSs T st ρ C N) (n : ∀ ρ C, N.nx ρ C → N'.nx ρ C) (r : ∀ d C, N.rt d C → N'.rt d C) (b : ∀ ρ C, N.bk ρ C → N'.bk ρ C) (c : ∀ ρ C, N.ct ρ C → N'.ct ρ C) : WSs T st ρ C N' :=
  PSs.imp h fun Dn σ H ⟨H0, at_, k⟩ => ⟨H0, at_, ⟨fun ρ' σ' C' H' H0' p cc s l q => k.nx ρ' σ' C' H' H0' p cc s l (n _ _ q), fun v d C' H' H0' p cc rr q => k.rt v d C' H' H0' p cc rr (r _ _ q),
    fun ρ' σ' C' H' H0' p cc s l q => k.bk ρ' σ' C' H' H0' p cc s l (b _ _ q), fun ρ' σ' C' H' H0' p cc s l q => k.ct ρ' σ' C' H' H0' p cc s l (c _ _ q)⟩⟩
theorem WG.mono {tg : Expr} {Q Q' : QS} (h : WG T tg d ρ C Q) (i : ∀ ρ C, Q ρ C → Q' ρ C) : WG T tg d ρ C Q' :=
  PG.imp h fun v σ H R ⟨H0, at_, r, k⟩ => ⟨H0, at_, r, fun ρ' σ' C' H' H0' p cc s l q => k ρ' σ' C' H' H0' p cc s l (i _ _ q)⟩
theorem Yields.weak {K : W.Frag} {J : It} {H0 : Hp} {P P' : Cells → Prop} (y : Yields K J H0 P ds) (i : ∀ C, P' C → P C) : Yields K J H0 P' ds :=
  ⟨fun i' H0' C H e c p hi => y.go i' H0' C H e c (i C p) hi, fun i' H0' C H e c p hi => y.stop i' H0' C H e c (i C p) hi, fun i' H0' C H x H' d e c p hd hy => y.yld i' H0' C H x H' d e c (i C p) hd hy⟩
theorem hu_G {k : Nat} {A : Around} (r : RoomG k A) : A.units + 64 < cLine := by have := r.rm.un; omega
theorem eqv_strs : ∀ xs ys : List Str, PyData.eqvAll (toPys (xs.map D.str)) (toPys (ys.map D.str)) = decide (xs = ys)
  | [], [] => rfl
  | [], y :: ys => by simp [toPys, PyData.eqvAll]
  | x :: xs, [] => by simp [toPys, PyData.eqvAll]
  | x :: xs, y :: ys => by
    have ih := eqv_strs xs ys
    rw [List.map_cons, List.map_cons]
    unfold toPys
    rw [PyData.eqvAll, ih]
    unfold toPy
    rw [PyData.eqv]
    by_cases h1 : x = y <;> by_cases h2 : xs = ys <;> simp [h1, h2]
theorem lay_strs : ∀ {xs : List Str}, (∀ x ∈ xs, PyData.strOk x = true) → PyData.canLayAll0 (toPys (xs.map D.str)) = true ∧ PyData.depthAll (toPys (xs.map D.str)) = 0
  | [], _ => ⟨rfl, rfl⟩
  | x :: xs, h => by
    obtain ⟨h1, h2⟩ := lay_strs (xs := xs) fun y hy => h y (List.mem_cons_of_mem _ hy)
    rw [List.map_cons]
    unfold toPys
    refine ⟨?_, ?_⟩
    · rw [PyData.canLayAll0, h1]
      unfold toPy
      rw [PyData.canLay0, h x List.mem_cons_self]; rfl
    · rw [PyData.depthAll, h2]
      unfold toPy
      rw [PyData.depth]; rfl
theorem shaped_lstS {xs : List Str} (h : ∀ x ∈ xs, PyData.strOk x = true) : SeqAt.shaped (.list (toPys (xs.map D.str))) = true := by
  obtain ⟨h1, h2⟩ := lay_strs h
  unfold SeqAt.shaped
  rw [PyData.canLay0, h1, PyData.depth, h2]; rfl
theorem plain_strs : ∀ xs : List Str, plainDs (xs.map D.str) = true
  | [] => rfl
  | x :: xs => by rw [List.map_cons]; unfold plainDs; rw [plain_strs xs]; rfl
theorem pyR_l (h : LstD C d ds) (hp : plainDs ds = true) : PyR C d (.list (toPys ds)) := by
  rcases h with rfl | ⟨a, rfl, hm⟩
  · exact .inl ⟨hp, rfl⟩
  · exact .inr ⟨a, ds, rfl, hm, hp, rfl⟩
section
variable {xs ys : List Str} (hu : X.A.units + 64 < cLine) (hx : ∀ x ∈ xs, PyData.strOk x = true) (hy : ∀ x ∈ ys, PyData.strOk x = true)
include hu hx hy
end
theorem eqv_ints : ∀ xs ys : List Int, PyData.eqvAll (toPys (xs.map D.int)) (toPys (ys.map D.int)) = decide (xs = ys)
  | [], [] => rfl
  | [], y :: ys => by simp [toPys, PyData.eqvAll]
  | x :: xs, [] => by simp [toPys, PyData.eqvAll]
  | x :: xs, y :: ys => by
    have ih := eqv_ints xs ys
    rw [List.map_cons, List.map_cons]
    unfold toPys
    rw [PyData.eqvAll, ih]
    unfold toPy
    rw [PyData.eqv]
    by_cases h1 : x = y <;> by_cases h2 : xs = ys <;> simp [h1, h2]
theorem lay_ints : ∀ xs : List Int, PyData.canLayAll0 (toPys (xs.map D.int)) = true ∧ PyData.depthAll (toPys (xs.map D.int)) = 0
  | [] => ⟨rfl, rfl⟩
  | x :: xs => by
    obtain ⟨h1, h2⟩ := lay_ints xs
    rw [List.map_cons]
    unfold toPys
    refine ⟨?_, ?_⟩
    · rw [PyData.canLayAll0, h1]; rfl
    · rw [PyData.depthAll, h2]; rfl
theorem plain_ints : ∀ xs : List Int, plainDs (xs.map D.int) = true
  | [] => rfl
  | x :: xs => by rw [List.map_cons]; unfold plainDs; rw [plain_ints xs]; rfl
theorem shaped_lstI (xs : List Int) : SeqAt.shaped (.list (toPys (xs.map D.int))) = true := by
  obtain ⟨h1, h2⟩ := lay_ints xs
  unfold SeqAt.shaped
  rw [PyData.canLay0, h1, PyData.depth, h2]; rfl
theorem show_strs : ∀ {xs : List Str}, (∀ x ∈ xs, PyData.strOk x = true) →
    PyData.showableAll (toPys (xs.map D.str)) = true ∧ PyData.hasDictAll (toPys (xs.map D.str)) = false ∧ PyData.intsShortAll 8 (toPys (xs.map D.str)) = true ∧ PyData.weightAll (toPys (xs.map D.str)) = (xs.map (·.length)).sum + xs.length
  | [], _ => ⟨rfl, rfl, rfl, rfl⟩
  | x :: xs, h => by
    obtain ⟨h1, h2, h3, h4⟩ := show_strs (xs := xs) fun y hy => h y (List.mem_cons_of_mem _ hy)
    rw [List.map_cons]
    unfold toPys toPy
    refine ⟨?_, ?_, ?_, ?_⟩
    · rw [PyData.showableAll, h1]; rfl
    · rw [PyData.hasDictAll, h2]; rfl
    · rw [PyData.intsShortAll, h3]; rfl
    · rw [PyData.weightAll, h4, PyData.weight, List.map_cons, List.sum_cons, List.length_cons]
      show x.length + 1 + _ = _
      omega
def cutL {α : Type} (l : List α) (lo hi : Option Int) : List α := (l.drop (HT.sIx l.length 0 lo)).take (HT.sIx l.length l.length hi - HT.sIx l.length 0 lo)
theorem cutD_map {α : Type} (f : α → D) (l : List α) (lo hi : Option Int) : cutD (l.map f) lo hi = (cutL l lo hi).map f := by
  unfold cutD cutL
  rw [List.length_map, List.map_take, List.map_drop]
theorem stp_part {K : W.Frag} {H0 H : Hp} {C C' r : Cells} (c : CellsR K H0 C H) (pm : C.Perm (C' ++ r)) : Stp H0 C H H0 C' H ∧ CellsR K H0 C' H :=
  ⟨⟨Same.refl _, fun a o h _ => h, fun a h e n => ⟨e, fun ⟨x, hx⟩ => n ⟨x, pm.mem_iff.mpr (List.mem_append_left _ hx)⟩⟩⟩, c.part pm⟩
theorem wss_part {C' r : Cells} (pm : C.Perm (C' ++ r)) (h : WSs T st ρ C' N) : WSs T st ρ C N :=
  PSs.imp h fun Dn σ H ⟨H0, at_, k⟩ => let ⟨p, c⟩ := stp_part at_.c pm; ⟨H0, at_.step p c, k.after p c⟩
end
end Tr

set_option maxHeartbeats 2000000
namespace Tr
open PySem L2 PySem.Spec PyProof.Rows
section
variable {X : Cx} {T : TX X} {ρ : Rho} {C : Cells} {Q : QE} {e a b c o : Expr} {pos p apos cpos tpos px py pz pt : Pos} {es elts : List Expr} {d d1 d2 : D} {ds ds2 : List D} {N N' : TEnds} {st : List Stmt} {x y z : Str} {kt k2 : Nat} {pt2 : Pos}
theorem ws_par (i j : Nat) (hN : X.N.Nodup) (hi : X.N[i]? = some x) (hj : X.N[j]? = some y) (hij : i ≠ j) (hx : X.env.scope.names.lookup x = some .local) (hy : X.env.scope.names.lookup y = some .local)
    (hw : swappedStores [.Tuple [.Name x px, .Name y py] kt pt] (.Tuple [a, b] k2 pt2) X.env = pure (some [x, y]))
    (h : WA T [a, b] ρ C fun ds C1 => ∃ d1 d2, ds = [d1, d2] ∧ N.nx ((ρ.set i (some d1)).set j (some d2)) C1)
    (hs : swapsWithSole [.Tuple [.Name x px, .Name y py] kt pt] (.Tuple [a, b] k2 pt2) pos.line X.env = pure false := by rfl) (hc : X.calm = true := by rfl) :
    WS T (.Assign [.Tuple [.Name x px, .Name y py] kt pt] (.Tuple [a, b] k2 pt2) pos) ρ C N :=
  PS.imp (ps_par hc hN hi hj hij hx hy h hw hs) fun Dn σ H ⟨H0, at_, k⟩ => ⟨H0, at_, fun vs ds C1 H1 H01 p1 c1 r1 ⟨d1, d2, e1, q⟩ => by
    subst e1
    obtain ⟨v, w, e2, g1, g2⟩ := r1.two
    subst e2
    have at1 := at_.step p1 c1
    refine ⟨v, w, rfl, (k.after p1 c1).nx _ _ C1 H1 H01 (Stp.refl _ _ _) c1 (SlotsR.set j (SlotsR.set i at1.s g1 at1.l) g2 (by rw [List.length_set, List.length_set]; exact at1.l)) (by simp only [List.length_set]; exact at1.l) q⟩⟩
theorem ow_ne_bl {x y : Bool} (q : Q (.bl (x != y)) C) : OW T (compareOp .NotEq) (.bl x) (.bl y) C Q :=
  ow_look (d := .bl (x != y)) op_ne (fun u v H H0 c r1 r2 => by cases r1; cases r2; exact ⟨.bl (x != y), rfl, fun R k => ⟨rfl, by
    rw [show (!decide (V.bl x = V.bl y)) = (x != y) by cases x <;> cases y <;> decide]; exact k⟩⟩) q
theorem ow_eq_bl {x y : Bool} (q : Q (.bl (x == y)) C) : OW T (compareOp .Eq) (.bl x) (.bl y) C Q :=
  ow_look (d := .bl (x == y)) op_eq (fun u v H H0 c r1 r2 => by cases r1; cases r2; exact ⟨.bl (x == y), rfl, fun R k => ⟨rfl, by
    rw [show decide (V.bl x = V.bl y) = (x == y) by cases x <;> cases y <;> decide]; exact k⟩⟩) q
theorem we_frzI (h : WE T e ρ C fun d C1 => ∃ (i : Nat) (z Cl : Addr) (ns : List Str) (ds : List D), d = .raw (.ref z) ∧ C1[i]? = some (z, .ins Cl ns ds) ∧ Q (.ins Cl ns ds) (C1.eraseIdx i)) : WE T e ρ C Q :=
  we_frz (h.mono fun d C1 ⟨i, z, Cl, ns, ds, h1, h2, h3⟩ => ⟨i, z, _, h1, h2, h3⟩)
end
end Tr

set_option maxHeartbeats 4000000
namespace Tr
open PySem L2 PySem.Spec PyProof.Rows

section
variable {prog : Program} {w : World} {A : Around} {E : Value → Shared → Prop} {R : Result → Shared → Prop} {hp : Heap} {g : Array GenState} {d : Drawn} {t : Nat} {os : OsState}
variable {nm q : Str} {C N : Addr} {bs bm bmB : List Value} {hdct : Bool} {sn : List Str} {sub : List Value} {ab : Bool} {col : Option Bool} {dd : Option Addr} {k0 k1 k2 k3 k5 : Option Value} {B newId initId : String}
structure IniF (B initId : String) : Prop where
  pl : plainId initId = true
  en : entryFor table initId = some Builtin.«BaseException.__init__»
  ki : builtinKind initId = some .slot
  ro : Manifest.signature? initId = some ⟨.positional, "*", B, .self, [⟨"args", .varPos, false⟩]⟩
  ns : (B != "*") = true
theorem IniF.of {Z nI iI : String} (F : ExcCallFacts Z nI iI) : IniF Z iI := ⟨F.init.plain, F.initEntry, F.initKind, F.initRow, F.noStar⟩
theorem chk_ini (I : IniF B initId) {M : Model} {e : Addr} {oe : Obj} {us : List Value} {Z : Unit → Shared → Prop}
    (gC : hp.get? C = some (excClassObj nm q C N bs bm hdct sn sub ab col dd k0 k1 k2 k3 k5 newId)) (ge : hp.get? e = some oe) (ec : oe.cls = .ref C) (z : Z () ⟨hp, g, d, t, os⟩) : wpAny M A (checkBoundCall initId ⟨.ref e :: us, []⟩) Z E ⟨hp, g, d, t, os⟩ := by
  have ns := I.ns
  simp only [checkBoundCall, I.ki, I.ro]
  repeat (first | (with_reducible refine wpAny_loadPart_at ge ?_; rw [ec]) | with_reducible refine wpAny_loadPart_at gC ?_ | wp_step)
  refine wpAny_onRaise ?_
  rw [show ∀ (a b : String) (n : Nat), Bind.check ⟨.positional, "*", B, .self, [⟨"args", .varPos, false⟩]⟩ a b n (List.map (fun x => x.fst) ({ pos := Value.ref e :: us } : Args).kw) = pure () from fun a b n => check_star_args _ _ _ _ _ _]
  exact wpAny_pure z
theorem call_mwI (FB : IniF B initId) {u e t0 : Addr} {rest : List Value} {Q : Value → Shared → Prop}
    (hC : hp.get? C = some (excClassObj nm q C N bs bm hdct sn sub ab col dd k0 k1 k2 k3 k5 newId)) (he : hp.get? e = some (HandSPX.excO C t0)) (hu : hp.get? u = some (W.kxs_mw initId e)) (hrest : rest.length ≤ sizeLine)
    (hq : ∀ h' t1, (∀ b o, b ≠ e → hp.get? b = some o → h'.get? b = some o) → h'.get? e = some (HandSPX.excO C t1) → Q .none ⟨h', g, d, t, os⟩) :
    wpAny (model prog w) A (call (.ref u) rest) Q E ⟨hp, g, d, t, os⟩ := by
  refine wpAny_call (codeAny_of_tree ?_)
  show wpAny _ A.in1 (callAny (.ref u) ⟨rest, []⟩) _ _ _
  simp only [callAny]
  refine wpAny_bind (wpAny_load hu ?_)
  simp only [W.kxs_mw, show (Value.type "method-wrapper" == Value.type "method" || Value.type "method-wrapper" == Value.type "builtin_function_or_method" || Value.type "method-wrapper" == Value.type "method-wrapper") = true by decide, if_true]
  refine W.KFB.if_so (by decide) ?_
  refine wpAny_bind (chk_ini FB hC he rfl ?_)
  refine wpAny_bind (wpAny_pure (wpAny_pure ?_))
  refine ⟨plainId_quiet FB.pl _, codeAny_builtin FB.en ?_⟩
  rw [Around.under_plainId FB.pl _]
  wp_walk
  refine hq _ hp.objs.size (fun b o hb ho => ?_) ?_
  · rw [Heap.get?_update_other _ _ (Ne.symm hb)]
    exact Heap.get?_push_of_some _ ho
  · rw [Heap.get?_update_self _ (Heap.get?_push_of_some _ he) rfl]
    rfl
structure NewT (Z : String) (bm : List Value) : Prop where
  b : bm.contains (.type Z) = true
  a : bm.contains (.type "AttributeError") = false
  n : bm.contains (.type "NameError") = false
theorem chk_new {nI iI : String} {bmZ : List Value} (F : ExcBaseFacts B nI iI bmZ) (H : NewT B bm) {us : List Value} {Z : Unit → Shared → Prop}
    (gC : hp.get? C = some (excClassObj nm q C N bs bm hdct sn sub ab col dd k0 k1 k2 k3 k5 nI)) (z : Z () ⟨hp, g, d, t, os⟩) : wpAny (model prog w) A (checkBuiltinCall nI ⟨.ref C :: us, []⟩) Z E ⟨hp, g, d, t, os⟩ := by
  have c1 : (Value.ref C :: bm).contains (.type B) = true := by rw [List.contains_cons, H.b, Bool.or_true]
  have c2 := F.noStar
  simp only [checkBuiltinCall, F.newKind, F.newSplit, F.newRow]
  repeat (first | refine wpAny_loadPart_at gC ?_ | (refine wpAny_isSubtype_exc gC ?_; rw [c1]) | refine wpAny_staticBase_exc gC ?_ | refine wpAny_madeBy_exc gC ?_ | simp only [bne_self_eq_false, Bool.false_eq_true, if_false] | wp_step)
  exact z
theorem new_run {nI iI : String} {bmZ : List Value} (F : ExcBaseFacts B nI iI bmZ) (H : NewT B bm) {us : List Value}
    (gC : hp.get? C = some (excClassObj nm q C N bs bm hdct sn sub ab col dd k0 k1 k2 k3 k5 nI)) (hl : us.length ≤ sizeLine)
    (z : R (.ok (.ret (.ref (hp.objs.size + 1)))) ⟨(hp.push (W.kdv_tup us)).push (HandSPX.excO C hp.objs.size), g, d, t, os⟩) : codeAny (model prog w) A (.builtin nI ⟨.ref C :: us, []⟩) R ⟨hp, g, d, t, os⟩ := by
  have e0 := F.ends
  have c1 : (Value.ref C :: bm).contains (.type B) = true := by rw [List.contains_cons, H.b, Bool.or_true]
  have c2 : (Value.ref C :: bm).contains (.type "AttributeError") = false := by rw [List.contains_cons, H.a]; rfl
  have c3 : (Value.ref C :: bm).contains (.type "NameError") = false := by rw [List.contains_cons, H.n]; rfl
  refine codeAny_builtinAt F.entry ?_
  unfold Builtin.«BaseException.__new__»
  refine _root_.PySem.wpAt_bind ?_
  show _root_.PySem.wpAt _ _ _ (stack >>= _) _ _ _
  refine _root_.PySem.wpAt_bind (_root_.PySem.wpAt_stack fun p0 b0 => _root_.PySem.wpAt_of_wpAny ?_)
  wp_walk
  refine _root_.PySem.wpAt_of_wpAny ?_
  rw [F.owner]
  repeat (first | with_reducible refine wpAny_madeHere_exc F.canon gC ?_ | with_reducible refine wpAny_loadPart_at gC ?_ | (with_reducible refine wpAny_isSubtype_exc gC ?_; first | rw [c1] | rw [c2] | rw [c3]) | wp_step)
  show R _ _
  rw [Heap.size_push]
  exact z
theorem tcall_run {nI iI : String} {bmZ : List Value} (F : ExcBaseFacts B nI iI bmZ) (H : NewT B bm) {us : List Value} {fI : Addr} {Z : Fin → Shared → Prop}
    (gC : hp.get? C = some (excClassObj nm q C N bs bm hdct sn sub ab col dd k0 k1 k2 k3 k5 nI)) (li : W.Looks (model prog w) hp (typeLookup (.ref C) "__init__") (some (.ref fI)))
    (lb : ∀ self, W.Looks (model prog w) hp (bindSpecial (.ref fI) self) (.ref fI, [self])) (hl : us.length ≤ sizeLine)
    (z : codeAny (model prog w) A (.call (.ref fI) ⟨.ref (hp.objs.size + 1) :: us, []⟩) (fun r s' => match r with | .ok (.ret v) => v = .none ∧ Z (.done (.ret (.ref (hp.objs.size + 1)))) s' | .ok _ => False | .error e => E e s')
      ⟨(hp.push (W.kdv_tup us)).push (HandSPX.excO C hp.objs.size), g, d, t, os⟩) : wpAny (model prog w) A (Builtin.«type.__call__» ⟨.ref C :: us, []⟩) Z E ⟨hp, g, d, t, os⟩ := by
  repeat (first | with_reducible refine wpAny_loadPart_at gC ?_ | with_reducible refine wpAny_madeBy_exc gC ?_ | wp_step)
  refine codeAny_call_builtin_code (Code.quiet_builtin _ F.quiet) (chk_new F H gC ?_)
  refine new_run F H gC hl ?_
  show wpAny _ _ _ _ _ _
  have kk : ∀ b o, hp.get? b = some o → ((hp.push (W.kdv_tup us)).push (HandSPX.excO C hp.objs.size)).get? b = some o := fun b o y => Heap.get?_push_of_some _ (Heap.get?_push_of_some _ y)
  have gC' := kk _ _ gC
  have ge : ((hp.push (W.kdv_tup us)).push (HandSPX.excO C hp.objs.size)).get? (hp.objs.size + 1) = some (HandSPX.excO C hp.objs.size) := by heap_get
  have cc : (Value.ref C :: bm).contains (.ref C) = true := by simp
  have i2 := li.keeps kk
  have b2 := (lb (.ref (hp.objs.size + 1))).keeps kk
  unfold isInstance
  repeat (first | with_reducible refine wpAny_loadPart_at ge ?_ | (with_reducible refine wpAny_isSubtype_exc gC' ?_; rw [cc]) | wp_step)
  show wpAny _ _ (typeLookup (.ref C) _) _ _ _
  refine i2.at ?_
  refine wpAny_holding (wpAny_bind (b2.at ?_))
  refine wpAny_bind (wpAny_call (codeAny_mono z fun r s' y => ?_))
  rcases r with er | (v | _ | _ | _) <;> first | exact y | exact y.elim | skip
  obtain ⟨rfl, y⟩ := y
  first
    | exact wpAny_pure (wpAny_pure y)
    | (wp_walk; exact y)
theorem make_run {nI iI : String} {bmZ : List Value} (F : ExcBaseFacts B nI iI bmZ) (H : NewT B bm) {us : List Value} {fI : Addr}
    (gC : hp.get? C = some (excClassObj nm q C N bs bm hdct sn sub ab col dd k0 k1 k2 k3 k5 nI)) (li : W.Looks (model prog w) hp (typeLookup (.ref C) "__init__") (some (.ref fI)))
    (lb : ∀ self, W.Looks (model prog w) hp (bindSpecial (.ref fI) self) (.ref fI, [self])) (hl : us.length ≤ sizeLine)
    (z : codeAny (model prog w) (A.under (.builtin "type.__call__" ⟨.ref C :: us, []⟩)) (.call (.ref fI) ⟨.ref (hp.objs.size + 1) :: us, []⟩) (W.InitBack (hp.objs.size + 1) R)
      ⟨(hp.push (W.kdv_tup us)).push (HandSPX.excO C hp.objs.size), g, d, t, os⟩) : codeAny (model prog w) A (.call (.ref C) ⟨us, []⟩) R ⟨hp, g, d, t, os⟩ := by
  have l1 := tc_lookup
  have l2 := tc_bind (.ref C)
  have ty : (⟨hp, g, d, t, os⟩ : Shared).TypeIs (.ref C) "type" := ⟨_, gC, rfl⟩
  refine codeAny_of_tree ?_
  show wpAny _ _ (callAny (.ref C) _) _ _ _
  repeat (any_goals (first | assumption | with_reducible refine wpAny_loadPart_at gC ?_ | wp_step))
  refine ⟨rfl, ?_⟩
  refine codeAny_call_builtin_at (Code.quiet_builtin _ (by decide +kernel)) _root_.PySem.entry_typeCall (_root_.PySem.wpAny_check_type_call_sub gC (tcall_run F H gC li lb hl ?_))
  refine codeAny_mono z fun r s' y => ?_
  rcases r with er | (v | _ | _ | _) <;> exact y
end
structure XFacts (B newId initId : String) (bmB : List Value) : Prop where
  fb : ∃ Z iI bmZ, ExcBaseFacts Z newId iI bmZ ∧ NewT Z bmB
  ini : IniF B initId
  kf : W.KxsFacts B initId
  pass : ∀ self : Value, refuseLoop self "__setattr__" bmB = pure ()
  ob : bmB.contains (.type "object") = true
theorem NewT.tail {Z : String} {bmB bm : List Value} (h : NewT Z bmB) (x : W.excTail bmB bm = true) : NewT Z bm := ⟨by rw [W.excTail_contains Z bm x]; exact h.b, by rw [W.excTail_contains _ bm x]; exact h.a, by rw [W.excTail_contains _ bm x]; exact h.n⟩
structure OexT (K : W.Frag) (C : Addr) (newId : String) (bmB : List Value) : Prop where
  cls : ∃ nm q N bs bm sn sub ab col dd k0 k1 k2 k3 k5, K.lookup C = some (excClassObj nm q C N bs bm true sn sub ab col dd k0 k1 k2 k3 k5 newId) ∧ W.excTail bmB bm = true
  st : W.findIn K (.ref C) "__setattr__" = some (some (.builtin "object.__setattr__"))
  bx : W.subIn K (.ref C) (.type "BaseException") = some true
  ty : W.typeIn K (.ref C) = some (.type "type")
  kp : W.keepIn K (.ref C) = true
section
variable {prog : Program} {w : World} {A : Around} {R : Result → Shared → Prop} {hp : Heap} {g : Array GenState} {d : Drawn} {t : Nat} {os : OsState}
open HandSPX Builtin Builtin.ObjectAttr in
theorem osaT {K : W.Frag} {nmF : Str} {tkF : Tok} {val : Value} {ex Cx' : Addr} {fvs : Array Value} {cdt : ClassData} {bmB : List Value} (kIn : K.In hp) (gx : hp.get? ex = some { cls := .ref Cx', data := .fields fvs }) (ccd : W.clsIn K Cx' = some cdt)
    (tl : W.excTail bmB cdt.mro = true) (ps : ∀ self : Value, refuseLoop self "__setattr__" bmB = pure ()) (ob : bmB.contains (.type "object") = true) (dct : cdt.hasDict = true) (no : W.findIn K (.ref Cx') nmF = some none)
    (fin : ∀ h' tk' dx, (∀ b o, b ≠ ex → hp.get? b = some o → h'.get? b = some o) → hp.objs.size ≤ dx → dx ≠ ex → h'.get? ex = some { cls := .ref Cx', dict := some dx, data := .fields fvs } → h'.Ns1 dx (fun y => if y = nmF then some val else none) → R (.ok (.ret .none)) ⟨h', g, d, tk', os⟩) :
    codeAny (model prog w) A (.call (.builtin "object.__setattr__") ⟨[.ref ex, .str nmF tkF, val], []⟩) R ⟨hp, g, d, t, os⟩ := by
  have J : W.InstAt hp ex { cls := .ref Cx', data := .fields fvs } Cx' none := ⟨gx, rfl, rfl, trivial⟩
  have hob : cdt.mro.contains (.type "object") = true := by rw [W.excTail_contains "object" _ tl]; exact ob
  have ne : cdt.mro.isEmpty = false := by
    cases e : cdt.mro with
    | nil => rw [e] at hob; cases hob
    | cons _ _ => rfl
  have nx : ex ≠ hp.objs.size := fun z => absurd (Heap.lt_size gx) (by rw [← z]; exact Nat.lt_irrefl _)
  have ro : W.mroIn K Cx' (.type "object") = some true := by unfold W.mroIn; rw [ccd, Option.bind_some, if_neg (by rw [ne]; decide), hob]
  have SO := F.store_object
  refine codeAny_call_builtin SO.slot.plain SO.entry ?_
  refine (@W.check_slot (model prog w) _ _ ⟨hp, g, d, t, os⟩ "object.__setattr__" "object" "__setattr__" (.ref ex) [.str nmF tkF, val] [] _ SO.kind SO.split (J.type.andThen (W.looks_mroIn kIn ro)) (SO.args (.ref ex) (.str nmF tkF) val) ?_)
  have l1 : W.Looks (model prog w) hp (mroOf (.ref Cx')) cdt.mro := (W.looks_clsIn kIn ccd).andThen .now
  have l2 : W.Looks (model prog w) hp (storeTaker? none) none := .now
  have l3 : W.Looks (model prog w) hp (classData Cx') cdt := W.looks_clsIn kIn ccd
  rw [W.osa_eq, refuse_eq]
  refine wpAny_bind (wpAny_bind (J.type.at (wpAny_bind (l1.at ?_))))
  rw [W.excTail_pass _ (ps _) _ tl]
  refine wpAny_pure (wpAny_bind (J.type.at (wpAny_bind ((W.looks_findIn kIn no).at (wpAny_bind (l2.at ?_))))))
  show wpAny _ _ (storeInOwnDict (.ref ex) (.ref Cx') (.str nmF tkF) nmF val false) _ _ _
  obtain ⟨a1, a2, a3, a4, a5, a6, a7, a8, a9, a10, a11⟩ := cdt
  obtain rfl : a6 = true := dct
  unfold storeInOwnDict ownDictForStores
  repeat (first | with_reducible refine store_in_new ?_ ?_ | with_reducible refine wpAny_loadPart_at gx ?_ | with_reducible refine l3.at ?_ | wp_step)
  · exact ⟨_, #[], _, (Heap.get?_update_ne _ _ _ _ nx.symm).trans (Heap.get?_push_at rfl rfl), rfl, fun e he => absurd he (by simp), fun _ => rfl⟩
  intro h' tk' hn' hs
  have gx1 : (hp.push { cls := .type "dict", data := .dict #[] }).get? ex = some { cls := .ref Cx', data := .fields fvs } := Heap.get?_push_of_some _ gx
  refine fin h' tk' hp.objs.size (fun b o hb ho => ?_) (Nat.le_refl _) nx.symm ?_ hn'
  · exact (hs.2 b fun z => absurd (Heap.lt_size ho) (by rw [z]; exact Nat.lt_irrefl _)).trans ((Heap.get?_update_ne _ _ _ _ hb).trans (Heap.get?_push_of_some _ ho))
  · exact (hs.2 ex nx).trans (Heap.get?_update_self _ gx1 rfl)
end
section
variable {prog : Program} {w : World} {A : Around} {R : Result → Shared → Prop} {hp : Heap} {g : Array GenState} {d : Drawn} {t : Nat} {os : OsState} {K : W.Frag} {mg mb : Str → Option Value}
variable {nm q : Str} {C N fI cda cc a t0 : Addr} {bs bm bmB : List Value} {sn : List Str} {sub : List Value} {ab : Bool} {col : Option Bool} {dd od an cdd cld : Option Addr} {k0 k1 k2 k3 k5 : Option Value} {B newId initId : String}
variable {name qual selfN argN fld file : Str} {params : Arguments} {body : List Stmt} {scope : Scope} {oc kV doc pm ct ccl cl v : Value} {osl ccs csl : Array (Option Value)} {vs : Array Value} {tf : Tok} {ar : Arg} {p0 p1 p2 p3 p4 p5 p6 p7 p8 p9 : Pos}
theorem sup_init (XF : XFacts B newId initId bmB) (X : K.In hp) (hg : hp.Ns mainGlobals mg) (hb : hp.Ns builtinsNs mb) (hbb : ∀ x : Str, x ≠ "__name__" → mb x = bootBuiltins x) (hlim : hp.NoLimit)
    (hC : K.lookup C = some (excClassObj nm q C N bs bm true sn sub ab col dd k0 k1 k2 k3 k5 newId)) (hm : W.excTail bmB bm = true) (sa : W.findIn K (.ref C) "__setattr__" = some (some (.builtin "object.__setattr__"))) (hno : W.findIn K (.ref C) fld = some none)
    (lf : K.lookup fI = some ⟨oc, od, .func (W.ksFn name qual params body scope .none kV doc pm an (.ref cda) ct cc), osl⟩)
    (lcd : K.lookup cda = some ⟨ccl, cdd, .fields vs, ccs⟩) (hvs : vs[2]? = some (.str file tf)) (hfile : ((prog.main.file : Str) == file) = true) (hcdin : W.codeIn K (.ref cda) qual = true)
    (lcc : K.lookup cc = some ⟨cl, cld, .cell (some (.ref C)), csl⟩) (hsup : mg "super" = none) (hks : scope.names.lookup ("super" : Str) = some .globalImplicit) (hkc : scope.names.lookup ("__class__" : Str) = some .free) (hk : scope.kind = .function)
    (hself : scope.names.lookup selfN = some .local) (harg : scope.names.lookup argN = some .local) (hne : argN ≠ selfN) (hds : (selfN == ("__debug__" : Str)) = false) (hda : (argN == ("__debug__" : Str)) = false)
    (hpar : (params.posonlyargs ++ params.args).head? = some ar) (har : ar.arg = selfN) (hcell : ∀ x ∈ scope.names, x.2 ≠ .cell) (hco : scope.isCoroutine = false) (hgen : scope.isGenerator = false)
    (hbind : ∀ s, BindsTo s (W.ksFn name qual params body scope .none kV doc pm an (.ref cda) ct cc) ⟨[.ref a, v], []⟩ [(selfN, .ref a), (argN, v)])
    (htop : (prog.main.scope.names.lookup ("super" : Str)).isSome = false) (hop : W.nsIn K cStatics "thirdparty.any" = some none) (hal : W.ks_superIn K C C "__init__" = some (some (.builtin initId))) (hBs : W.subIn K (.ref C) (.type B) = some true)
    (hbody : body = [.Expr (.Call (.Attribute (.Call (.Name "super" p0) [] [] p1) "__init__" p2) [.Name argN p3] [] p4) p5, .Assign [.Attribute (.Name selfN p6) fld p7] (.Name argN p8) p9]) (hroom : A.depth < recursionLimit)
    (hi : ∀ L, interactive (W.ksEnv qual scope L fI (.ref cda) cc) = false) (hsw1 : ∀ L, swapsWith (.Call (.Attribute (.Call (.Name "super" p0) [] [] p1) "__init__" p2) [.Name argN p3] [] p4) none p5.line (W.ksEnv qual scope L fI (.ref cda) cc) = pure false)
    (hsw2 : ∀ L, swapsWith (.Name argN p8) (some (.Attribute (.Name selfN p6) fld p7)) p9.line (W.ksEnv qual scope L fI (.ref cda) cc) = pure false)
    (pl : Addr → Sem Bool) (hev : ∀ L, eval (.Call (.Attribute (.Call (.Name "super" p0) [] [] p1) "__init__" p2) [.Name argN p3] [] p4) (W.ksEnv qual scope L fI (.ref cda) cc) = (do
      let ov ← attributeBase (.Call (.Name "super" p0) [] [] p1) "__init__" (W.ksEnv qual scope L fI (.ref cda) cc) (eval (.Call (.Name "super" p0) [] [] p1) (W.ksEnv qual scope L fI (.ref cda) cc))
      standAt p2.atName
      let (f, first) ← holding [ov] (getMethod ov "__init__" (pl L))
      callWith p4 f first (backTo p4 (starEach [.Name argN p3] (W.ksEnv qual scope L fI (.ref cda) cc))) []))
    (ha : hp.get? a = some (HandSPX.excO C t0)) (hKa : K.lookup a = none)
    (hq : ∀ h' tk' dx t1, (∀ b o, b ≠ a → hp.get? b = some o → h'.get? b = some o) → hp.objs.size ≤ dx → dx ≠ a → h'.get? a = some { cls := .ref C, dict := some dx, data := .fields #[.ref t1, .none, .none, .none, .bool false, .none] } →
      h'.Ns1 dx (fun y => if y = fld then some v else none) → R (.ok (.ret .none)) ⟨h', g, d, tk', os⟩) :
    codeAny (model prog w) A (.call (.ref fI) ⟨[.ref a, v], []⟩) R ⟨hp, g, d, t, os⟩ := by
  subst hbody
  have FB := XF.ini
  have KF := XF.kf
  have ca : W.clsIn K C = some { name := nm, bases := bs, mro := .ref C :: bm, ns := N, qualname := q, hasDict := true, slotNames := sn, subclasses := sub, abstract := ab, collection := col, hasDel := false } := by unfold W.clsIn; rw [hC] <;> rfl
  refine PySem.ks_codeAny_call_defAt (fd := W.ksFn name qual params _ scope .none kV doc pm an (.ref cda) ct cc) (binds := [(selfN, .ref a), (argN, v)]) hroom (X _ _ lf) rfl hlim (W.codeRec_of X hcdin) rfl (hbind _) hcell ?_ (fun h₁ hns hk₁ => ?_) hco hgen hk
  · intro x hx
    rcases List.mem_cons.mp hx with rfl | hx
    · exact hself
    · rw [List.mem_singleton.mp hx]; exact harg
  have X₁ : K.In h₁ := X.keeps hk₁
  have hs1 : (([(selfN, Value.ref a), (argN, v)] : List (Str × Value)).reverse.lookup selfN) = some (.ref a) := by
    show List.lookup selfN [(argN, v), (selfN, Value.ref a)] = _
    rw [List.lookup_cons, show (selfN == argN) = false from by simpa using Ne.symm hne, List.lookup_cons, beq_self_eq_true]
  have hs2 : (([(selfN, Value.ref a), (argN, v)] : List (Str × Value)).reverse.lookup argN) = some v := by
    show List.lookup argN [(argN, v), (selfN, Value.ref a)] = _
    rw [List.lookup_cons, beq_self_eq_true]
  refine PySem.ks_wpAt_execs_cons ?_
  show _root_.PySem.wpAt _ _ _ (exec _ (W.ksEnv qual scope hp.objs.size fI (.ref cda) cc)) _ _ _
  refine PySem.ks_wpAt_Expr_any (PySem.ks_wpAt_MethodCall (pl := pl hp.objs.size) ?_ (hev _)) (hi _) (hsw1 _)
  have ha₁ : h₁.get? a = some (HandSPX.excO C t0) := hk₁ _ _ ha
  have I₁ : W.InstAt h₁ a (HandSPX.excO C t0) C none := ⟨ha₁, rfl, rfl, trivial⟩
  obtain ⟨hf1, hf2⟩ : (∃ oD, h₁.get? C = some oD ∧ oD.data = .cls { name := nm, bases := bs, mro := .ref C :: bm, ns := N, qualname := q, hasDict := true, slotNames := sn, subclasses := sub, abstract := ab, collection := col, hasDel := false }) ∧ True := ⟨⟨_, X₁ _ _ hC, rfl⟩, trivial⟩
  obtain ⟨oD, hD1, hD2⟩ := hf1
  have hsubC : W.mroIn K C (.ref C) = some true := by
    unfold W.mroIn
    rw [ca]
    simp
  refine PySem.ks_wpAt_super_base (env := W.ksEnv qual scope hp.objs.size fI (.ref cda) cc) hks hkc (by decide) rfl (X₁ _ _ lf) rfl hpar rfl (X₁ _ _ lcd) rfl hvs hfile htop ?_
  refine W.ks_loadName_global hk hks (Calls.loadGlobal_builtin (env := W.ksEnv qual scope hp.objs.size fI (.ref cda) cc) (hg.keeps hk₁) hsup (hb.keeps hk₁) ((hbb _ (by decide +kernel)).trans (by decide +kernel)) ⟨rfl, ?_⟩)
  refine wpAny_loadName_free hk hkc rfl ⟨_, X₁ _ _ lcc, rfl⟩ ?_
  rw [har]
  refine wpAny_loadName_local hk hself hns hs1 ?_
  refine ks_wpAny_isType_cls hD1 hD2 ⟨rfl, ?_⟩
  refine ks_wpAny_call_super hD1 hD2 ha₁ rfl (fun c e => by cases e) (W.looks_mroIn X₁ hsubC) (fun h₂ e₂ k₂ => ?_)
  have X₂ : K.In h₂ := X₁.keeps k₂
  have ha₂ := k₂ _ _ ha₁
  have I₂ : W.InstAt h₂ a (HandSPX.excO C t0) C none := ⟨ha₂, rfl, rfl, trivial⟩
  have hal' := hal
  unfold W.ks_superIn at hal'
  rw [ca] at hal'
  have mroL : ∀ {h : Heap}, K.In h → W.Looks (model prog w) h (mroOf (.ref C)) (.ref C :: bm) := fun Xh => (W.looks_clsIn Xh ca).andThen .now
  refine W.kxs_getMethod KF e₂ (W.looks_opaque X₂ hop) (mroL X₂) rfl X₂ hal' (I₂.type.andThen (W.looks_subIn X₂ hBs)) (W.ks_ne X₂ I₂ ca) rfl ?_
  have k₃ : ∀ y o, h₂.get? y = some o → (h₂.push (W.kxs_mw initId a)).get? y = some o := fun y o e => Heap.get?_push_of_some _ e
  have hu : (h₂.push (W.kxs_mw initId a)).get? h₂.objs.size = some (W.kxs_mw initId a) := Heap.get?_push_at rfl rfl
  have hns₃ := (hns.keeps k₂).keeps k₃
  refine W.kxs_callWith (i := initId) (x := a) (by rfl) (Calls.evalArgs_plain (Calls.spliced_cons (wpAny_Name (wpAny_loadName_local hk harg hns₃ hs2 (Calls.spliced_nil ⟨hu, ?_⟩)) hda)))
  refine call_mwI FB (X₂.keeps k₃ _ _ hC) (k₃ _ _ ha₂) hu (by show 1 ≤ sizeLine; decide) (fun h₄ t1 k₄ ha₄ => ?_)
  have nC : C ≠ a := fun z => by
    have e1 := X _ _ hC
    rw [z, ha] at e1
    cases e1
  have keepAll : ∀ b o, b ≠ a → hp.get? b = some o → h₄.get? b = some o := fun b o nb e => k₄ b o nb (k₃ _ _ (k₂ _ _ (hk₁ _ _ e)))
  have hL : hp.objs.size ≠ a := Ne.symm (Nat.ne_of_lt (Heap.lt_size ha))
  have X₄ : K.In h₄ := fun b o e => keepAll b o (fun z => by rw [z, hKa] at e; cases e) (X _ _ e)
  obtain ⟨oL, esL, epL, hoL, rL⟩ := hns₃
  have hns₄ : h₄.Ns hp.objs.size fun x => ([(selfN, Value.ref a), (argN, v)] : List (Str × Value)).reverse.lookup x := ⟨oL, esL, epL, k₄ _ _ hL hoL, rL⟩
  have sz₄ : hp.objs.size ≤ h₄.objs.size := Nat.le_of_lt (Heap.lt_size (k₄ _ _ hL hoL))
  show _root_.PySem.wpAt _ _ _ (execs _ (W.ksEnv qual scope hp.objs.size fI (.ref cda) cc)) _ _ _
  refine PySem.ks_wpAt_execs_cons (PySem.ks_wpAt_Assign_Attr (wpAt_of_wpAny (wpAny_Name (wpAny_loadName_local hk harg hns₄ hs2 (wpAny_Name (wpAny_loadName_local hk hself hns₄ hs1 ?_) hds)) hda)) (hsw2 _))
  refine W.set_plain X₄ (ox := HandSPX.excO C t1) (od := none) ⟨ha₄, rfl, rfl, trivial⟩ sa ?_
  refine osaT X₄ ha₄ ca (show W.excTail bmB (.ref C :: bm) = true from hm) XF.pass XF.ob rfl hno (fun h' tk' dx k₅ dn dne hx hn => ?_)
  show _root_.PySem.wpAt _ _ _ (execs [] (W.ksEnv qual scope hp.objs.size fI (.ref cda) cc)) _ _ _
  refine wpAt_of_wpAny ?_
  show wpAny _ _ (pure Flow.next) _ _ _
  refine wpAny_pure ?_
  exact hq h' tk' dx t1 (fun b o nb e => k₅ b o nb (keepAll b o nb e)) (Nat.le_trans sz₄ dn) dne hx hn
end
def SupRun (prog : Program) (K : W.Frag) (mg : Str → Option Value) (C fI : Addr) (fld : Str) : Prop :=
  ∀ (w : World) (A : Around) (R : Result → Shared → Prop) (hp : Heap) (g : Array GenState) (d : Drawn) (t : Nat) (os : OsState) (mb : Str → Option Value) (a t0 : Addr) (v : Value),
    K.In hp → hp.Ns mainGlobals mg → hp.Ns builtinsNs mb → (∀ x : Str, x ≠ "__name__" → mb x = bootBuiltins x) → hp.NoLimit → A.depth < recursionLimit → hp.get? a = some (HandSPX.excO C t0) → K.lookup a = none →
    (∀ h' tk' dx t1, (∀ b o, b ≠ a → hp.get? b = some o → h'.get? b = some o) → hp.objs.size ≤ dx → dx ≠ a → h'.get? a = some { cls := .ref C, dict := some dx, data := .fields #[.ref t1, .none, .none, .none, .bool false, .none] } →
      h'.Ns1 dx (fun y => if y = fld then some v else none) → R (.ok (.ret .none)) ⟨h', g, d, tk', os⟩) →
    codeAny (model prog w) A (.call (.ref fI) ⟨[.ref a, v], []⟩) R ⟨hp, g, d, t, os⟩
section
variable {X : Cx} {C fI : Addr} {x fld : Str} {e : Expr} {te : TE} {p pos : Pos} {k : Nat}
theorem roomH_make {k : Nat} {A : Around} (r : L2H.RoomH (k + 1) A) (C : Addr) (us : List Value) (kw : List (Str × Value)) : L2H.RoomH k (A.under (.builtin "type.__call__" ⟨.ref C :: us, kw⟩)) :=
  ⟨by have := r.dp; rw [L2.make_depth]; omega, by have := r.un; rw [L2.make_units]; omega⟩
theorem pmk_sup {B newId initId : String} {bmB : List Value} (XF : XFacts B newId initId bmB) (Tc : OexT X.K C newId bmB) (iC : W.findIn X.K (.ref C) "__init__" = some (some (.ref fI))) (tI : W.typeIn X.K (.ref fI) = some (.type "function")) (S : SupRun X.prog X.K X.mg C fI fld) (hr : L2H.RoomH (k + 1) X.A) (hg : Gl X x) (hm : X.mg x = some (.ref C)) (he : PE X e te)
    (hs : starEach [e] X.env = (false, eval e X.env) :: starEach [] X.env := by rfl) (hdb : (x == ("__debug__" : Str)) = false := by decide) :
    L2H.PMk5 X (.Call (.Name x p) [e] [] pos) (fun σ H Q => te σ H fun y H1 => ∀ dx, H1 dx = none → Q (.ref C) (some dx) (upd H1 dx (.xd [(fld, y)]))) := by
  intro pins s σ H Q I h
  obtain ⟨nm, q, N, bs, bm, sn, sub, ab, col, dd, k0, k1, k2, k3, k5, hC, hbm⟩ := Tc.cls
  obtain ⟨Z, iI, bmZ, FB, NT⟩ := XF.fb
  refine wpAny_Call_Name_kw (ld_glob I hg hm ?_ hdb)
  refine W.callWith_K (h₀ := X.base) I.ok.mod.kin Tc.kp ?_ hs (by rfl)
  rw [hs]
  show wpAny _ _ (spliced ((false, eval e X.env) :: backTo pos (starEach [] X.env))) _ _ s
  refine Calls.spliced_cons (thn (he.run pins s σ H _ I h) fun u s1 ⟨y, H1, I1, ry, q1⟩ => ?_)
  refine Calls.spliced_nil ⟨I1.kIn, ?_⟩
  show wpAny _ _ (call (.ref C) [u]) _ _ _
  obtain ⟨hp, g, dr, tk, os⟩ := s1
  have kk : ∀ b o, hp.get? b = some o → ((hp.push (W.kdv_tup [u])).push (HandSPX.excO C hp.objs.size)).get? b = some o := fun b o e => Heap.get?_push_of_some _ (Heap.get?_push_of_some _ e)
  have hget : ((hp.push (W.kdv_tup [u])).push (HandSPX.excO C hp.objs.size)).get? (hp.objs.size + 1) = some (HandSPX.excO C hp.objs.size) := by heap_get
  have gone : hp.get? (hp.objs.size + 1) = none := by
    cases e1 : hp.get? (hp.objs.size + 1) with
    | none => rfl
    | some o => exact absurd (Heap.lt_size e1) (Nat.not_lt.mpr (Nat.le_succ _))
  have hKa : X.K.lookup (hp.objs.size + 1) = none := by
    cases e1 : X.K.lookup (hp.objs.size + 1) with
    | none => rfl
    | some o =>
      have e2 := I1.kIn _ _ e1
      rw [gone] at e2; cases e2
  obtain ⟨mb, b1, b2⟩ := I1.mod.blt
  refine wpAny_call (make_run FB (NT.tail hbm) (I1.kIn _ _ hC) (W.looks_findIn I1.kIn iC) (fun self => W.bind_fn I1.kIn self tI) (by show 1 ≤ sizeLine; decide) ?_)
  refine S _ _ _ _ _ _ _ _ mb (hp.objs.size + 1) hp.objs.size u (I1.kIn.keeps kk) ((I1.mod.glob.keeps I1.bk).keeps kk) ((b1.keeps I1.bk).keeps kk) b2 ((I1.mod.nolimit.keeps I1.bk).keeps kk) ((roomH_make hr C [u] []).depth) hget hKa (fun h' tk' dx t1 keep sz ne ha' hn => ?_)
  have szdx : hp.objs.size ≤ dx := Nat.le_trans (show hp.objs.size ≤ ((hp.push (W.kdv_tup [u])).push (HandSPX.excO C hp.objs.size)).objs.size by rw [Heap.size_push, Heap.size_push]; exact Nat.le_add_right _ 2) sz
  have ndx : H1 dx = none := I1.hok.fresh szdx
  obtain ⟨G, g1, g2⟩ := restrict h' fun b => decide (b ≠ hp.objs.size + 1)
  have gk : ∀ b, b ≠ hp.objs.size + 1 → G.get? b = h'.get? b := fun b hb => g1 b (decide_eq_true hb)
  have ge : G.get? (hp.objs.size + 1) = none := g2 _ (by simp)
  have gg : ∀ b o, G.get? b = some o → h'.get? b = some o := fun b o e => by
    by_cases hb : b = hp.objs.size + 1
    · rw [hb, ge] at e; cases e
    · rw [← gk b hb]; exact e
  have ka : ∀ b o, hp.get? b = some o → G.get? b = some o := fun b o e => by
    have nb : b ≠ hp.objs.size + 1 := fun z => by rw [z, gone] at e; cases e
    rw [gk b nb]
    exact keep b o nb (kk b o e)
  obtain ⟨oD, esD, epD, hD1, hD2, hD3⟩ := hn
  have I2 : Inv X pins σ (upd H1 dx (.xd [(fld, y)])) ⟨G, g, dr, tk', os⟩ := I1.laid (t' := tk') (a := dx) (o := .xd [(fld, y)]) (h' := G) ka szdx
    ⟨_, ⟨oD, esD, epD, by rw [gk dx ne]; exact hD1, hD2, hD3⟩, relO_put (fs := []) ry fun _ => True.intro⟩
  refine ⟨rfl, ⟨hp.objs.size + 1, _, _, ⟨G, g, dr, tk', os⟩, _, .ref C, some dx, rfl, I2, gg, ge, ha', ⟨rfl, rfl, fun vs e => by cases e; rfl⟩, rfl, rfl, by rw [upd_ne (Ne.symm ne)]; exact I1.hok.fresh (Nat.le_succ _), rfl, I1.bare, raises_own Tc.bx Tc.ty, q1 dx ndx⟩, fun a2 oe2 vs2 e1 e2 e3 => ?_⟩
  cases e1
  have e4 : some oe2 = some _ := e2.symm.trans ha'
  cases e4
  cases e3
  show (4 : Nat) < 6
  decide
end
structure XCls (prog : Program) (K : W.Frag) (mg : Str → Option Value) (C : Addr) (fld : Str) : Prop where
  o : ∃ B newId initId bmB, XFacts B newId initId bmB ∧ OexT K C newId bmB
  ex : ∃ fI, W.findIn K (.ref C) "__init__" = some (some (.ref fI)) ∧ W.typeIn K (.ref fI) = some (.type "function") ∧ SupRun prog K mg C fI fld
section
variable {X : Cx} {T : TX X} {ρ : Rho} {C : Cells} {N : TEnds} {e : Expr} {p pos pos' : Pos} {x fld : Str} {Cl : Addr} {k : Nat}
theorem ws_raise (hx : XCls X.prog X.K X.mg Cl fld) (hr : RoomG (k + 1) X.A) (hg : Gl X x) (hm : X.mg x = some (.ref Cl)) (h : WE T e ρ C fun d C1 => T.XQ (.ref Cl) (some ([fld], [d])) ρ C1)
    (hs : starEach [e] X.env = (false, eval e X.env) :: starEach [] X.env := by rfl) (hdb : (x == ("__debug__" : Str)) = false := by decide) (hc : X.calm = true := by rfl) :
    WS T (.Raise (some (.Call (.Name x p) [e] [] pos)) none pos') ρ C N := by
  obtain ⟨fI, i1, i2, S⟩ := hx.ex
  obtain ⟨B, newId, initId, bmB, XF, Ox⟩ := hx.o
  refine PS.imp (ps_raiseX hc T.tk (pmk_sup XF Ox i1 i2 S (L2H.roomH_of hr.rm) hg hm h hs hdb).pmk) fun Dn σ H ⟨H0, at_, _⟩ => ⟨H0, at_, fun v d C1 H1 H01 p1 c1 r1 q dx hdx => ?_⟩
  obtain ⟨p2, c2⟩ := stp_new (o := .xd [(fld, v)]) c1 hdx
  have a2 := (at_.step p1 c1).step p2 c2
  exact ⟨some ([fld], [d]), ρ, C1, _, a2.a, a2.c, a2.s, a2.l, ⟨[v], upd_same, rfl, Reps.cons (r1.mono p2.base) Reps.nil⟩, q⟩
end
theorem xf_ValueError : XFacts "ValueError" "ValueError.__new__" "ValueError.__init__" [.type "ValueError", .type "Exception", .type "BaseException", .type "object"] := ⟨⟨_, _, _, PySem.F.excBase_ValueError, by decide +kernel, by decide +kernel, by decide +kernel⟩, .of PySem.F.excBase_ValueError.toExcCallFacts, W.kxs_ValueError, fun self => F.store_ValueError.passes self, by decide +kernel⟩
theorem xf_IndexError : XFacts "IndexError" "IndexError.__new__" "IndexError.__init__" [.type "IndexError", .type "LookupError", .type "Exception", .type "BaseException", .type "object"] := ⟨⟨_, _, _, PySem.F.excBase_IndexError, by decide +kernel, by decide +kernel, by decide +kernel⟩, .of PySem.F.excBase_IndexError.toExcCallFacts, W.kxs_IndexError, fun self => PySem.F.store_IndexError.passes self, by decide +kernel⟩
end Tr

set_option maxHeartbeats 4000000
namespace Tr
open PySem L2 PySem.Spec PyProof.Rows

theorem ExcR.step {K : W.Frag} {H0 H H0' H' : Hp} {C C' : Cells} {d : Option Addr} {fs : XF} (h : ExcR K H0 H d fs) (c : CellsR K H0 C H) (p : Stp H0 C H H0' C' H') : ExcR K H0' H' d fs := by
  cases d with
  | none => cases fs with
    | none => exact True.intro
    | some f => exact h
  | some dd => cases fs with
    | none => exact h
    | some f =>
      obtain ⟨ns, ds⟩ := f
      obtain ⟨vs, h1, h2, h3⟩ := h
      refine ⟨vs, p.fr dd _ h1 fun ⟨x, hx⟩ => ?_, h2, h3.mono p.base⟩
      have ok := c.ok dd x hx
      cases x with
      | lst ds => obtain ⟨_, e, _⟩ := ok; rw [h1] at e; cases e
      | dK ks ds => obtain ⟨_, e, _⟩ := ok; rw [h1] at e; cases e
      | ins Cl ns ds => obtain ⟨_, _, e, _⟩ := ok; rw [h1] at e; cases e
section
variable {X : Cx} {T : TX X} {ρ : Rho} {C : Cells} {N : TEnds} {Q : QE} {e : Expr} {pos pos' np : Pos} {x n : Str} {c : Value} {i : Nat} {body suite : List Stmt} {b₀ : Stmt} {XQ' : Value → XF → Rho → Cells → Prop}
def tbT (T : TX X) (XQ' : Value → XF → Rho → Cells → Prop) (ρ : Rho) (C : Cells) (N : TEnds) (W : WX) : TS := fun D σ H => ∃ H0, At T H0 ρ C σ H ∧ Tail X H0 C H N D ∧
  ∀ cls d σ' H' fs ρ' C' H0', Stp H0 C H H0' C' H' → CellsR X.K H0' C' H' → SlotsR X.K H0' ρ' σ' → ρ'.length = σ'.length → ExcR X.K H0' H' d fs → XQ' cls fs ρ' C' → W cls d σ' H'
def tsT (X : Cx) (st : List Stmt) (a : Addr) (cls : Value) (d : Option Addr) : TS := fun D σ H => ∃ (fs : XF) (ρ' : Rho) (C' : Cells) (H0' : Hp) (N' : TEnds), CellsR X.K H0' C' H ∧ SlotsR X.K H0' ρ' σ ∧ ρ'.length = σ.length ∧ ExcR X.K H0' H d fs ∧ Tail X H0' C' H N' D ∧
  ∀ (oe : Obj) (pn : List (Addr × Obj)) (T' : TX (X.suite a ((a, oe) :: pn))), Zc cls d oe → (∃ vs, oe.data = .fields vs) → (∀ H0 C H, T'.A H0 C H → ExcR X.K H0 H d fs) → WSs T' st ρ' C' N'
theorem ws_try (hs : X.stack = X.env :: X.outer) (hf : X.env.frame = some X.env.locals) (hN : X.N.Nodup) (hi : X.N[i]? = some n) (hln : X.env.kindOf n = some .local) (hc : Names X x c) (XQ' : Value → XF → Rho → Cells → Prop)
    (hb : ∀ (pn : List (Addr × Obj)) (xe : Value → Shared → Prop) (T' : TX (X.tr pn xe)), T'.XQ = XQ' → WSs T' body ρ C N)
    (hh : ∀ cls fs ρ' C', XQ' cls fs ρ' C' → ∃ b, W.exmOne X.K cls c = some b ∧ (b = false → T.XQ cls fs ρ' C') ∧
      (b = true → ∀ (a : Addr) (oe : Obj) (d : Option Addr) (pn : List (Addr × Obj)) (T' : TX (X.suite a ((a, oe) :: pn))), Zc cls d oe → (∃ vs, oe.data = .fields vs) → (∀ H0 C H, T'.A H0 C H → ExcR X.K H0 H d fs) →
        WSs T' (b₀ :: suite) (ρ'.set i (some (.raw (.ref a)))) C' { nx := fun ρ C => N.nx (ρ.set i none) C, rt := N.rt, bk := fun ρ C => N.bk (ρ.set i none) C, ct := fun ρ C => N.ct (ρ.set i none) C })) :
    WS T (.Try body [.ExceptHandler (some (.Name x np)) (some n) (b₀ :: suite) pos'] [] [] pos) ρ C N := by
  refine PS.imp (ps_tryX_as (ts := tsT X (b₀ :: suite)) (tb := tbT T XQ' ρ C N) hs hf hN hi hln hc (fun hd => T.pas _ _ (SameStack.mark _ _)) T.tk (fun W pn xe tkW pass pas => ⟨fun pins s σ H D I ⟨H0, at_, k, imp⟩ => ?_⟩) (fun a oe cls d pn xe m ve hz hfl mem tied tkS pasS => pss_lift mem ⟨fun pins s σ H D I ⟨fs, ρ', C', H0', N', cc, sl, l, ex, k, w⟩ => ?_⟩)) fun D σ H ⟨H0, at_, k⟩ => ⟨H0, at_, k, fun cls d σ' H' fs ρ' C' H0' p cc s l ex xq => ?_⟩
  · have T' : TX (X.tr pn xe) := { A := fun H0' C' H' => Stp H0 C H H0' C' H', up := fun a c p _ => a.trans c p, XQ := XQ', tk := tkW.imp fun cls d σ' H' ⟨fs, ρ', C', H0', a, c, s, l, ex, q⟩ => imp cls d σ' H' fs ρ' C' H0' a c s l ex q, pass := pass, pas := pas }
    exact (hb pn xe { A := fun H0' C' H' => Stp H0 C H H0' C' H', up := fun a c p _ => a.trans c p, XQ := XQ', tk := tkW.imp fun cls d σ' H' ⟨fs, ρ', C', H0', a, c, s, l, ex, q⟩ => imp cls d σ' H' fs ρ' C' H0' a c s l ex q, pass := pass, pas := pas } rfl).run pins s σ H D I ⟨H0, ⟨Stp.refl _ _ _, at_.c, at_.s, at_.l⟩, ⟨k.nx, k.rt, k.bk, k.ct⟩⟩
  · exact (w oe pn { A := fun H0 _ H => ExcR X.K H0 H d fs, up := fun h c p _ => h.step c p, XQ := fun _ _ _ _ => False, tk := fun u s' ⟨_, _, _, _, _, _, _, _, _, _, _, _, _, _, _, _, w⟩ => (let ⟨_, _, _, _, _, _, _, _, _, q⟩ := w; q), pass := PassesOwn.never, pas := fun _ _ _ => PassesOwnAt.never } hz ⟨ve, hfl⟩ fun _ _ _ h => h).run pins s σ H D I ⟨H0', ⟨ex, cc, sl, l⟩, ⟨k.nx, k.rt, k.bk, k.ct⟩⟩
  · obtain ⟨b, h1, h2, h3⟩ := hh cls fs ρ' C' xq
    refine ⟨b, h1, fun hb1 a ha => ?_, fun hb0 => ⟨fs, ρ', C', H0', T.up at_.a at_.c p cc, cc, s, l, ex, h2 hb0⟩⟩
    have k' := k.after p cc
    have un : ∀ {Q : QS} {R : L2.St → Hp → Prop}, ContS X H0' C' H' Q R → ContS X H0' C' H' (fun ρ C => Q (ρ.set i none) C) (fun σ H => R (σ.set i none) H) := fun kk ρ1 σ1 C1 H1 H01 p1 c1 s1 l1 q1 =>
      kk _ _ C1 H1 H01 p1 c1 (SlotsR.unset i s1) (by rw [List.length_set, List.length_set]; exact l1) q1
    exact ⟨fs, ρ'.set i (some (.raw (.ref a))), C', H0', { nx := fun ρ C => N.nx (ρ.set i none) C, rt := N.rt, bk := fun ρ C => N.bk (ρ.set i none) C, ct := fun ρ C => N.ct (ρ.set i none) C }, cc, SlotsR.set i s rfl l, by rw [List.length_set, List.length_set]; exact l, ex, ⟨un k'.nx, k'.rt, un k'.bk, un k'.ct⟩, fun oe pn T' hz hfl hA => h3 hb1 a oe d pn T' hz hfl hA⟩
end
section
variable {X : Cx} {a Cl : Addr} {oe : Obj} {d : Option Addr} {pn : List (Addr × Obj)} {T' : TX (X.suite a ((a, oe) :: pn))} {ρ : Rho} {C : Cells} {Q : QE} {e : Expr} {pos : Pos} {n : Str} {ns : List Str} {ds : List D}
theorem we_xf (Tx : XfC X.K Cl) (hno : W.findIn X.K (.ref Cl) n = some none) (hz : Zc (.ref Cl) d oe) (hfl : ∃ vs, oe.data = .fields vs) (hA : ∀ H0 C H, T'.A H0 C H → ExcR X.K H0 H d (some (ns, ds)))
    (h : WE T' e ρ C fun d1 C1 => d1 = .raw (.ref a) ∧ ∃ y, (ns.zip ds).lookup n = some y ∧ Q y C1) (hb : attributeBase e n X.env (eval e X.env) = eval e X.env := by rfl) : WE T' (.Attribute e n pos) ρ C Q :=
  PE.imp (pe_xf Tx hno hz hfl h hb) fun σ H R ⟨H0, at_, k⟩ => ⟨H0, at_, fun v d1 C1 H1 H01 p1 c1 r1 ⟨e1, y, hl, q⟩ => by
    subst e1
    have at1 := at_.step p1 c1
    have ex := hA _ _ _ at1.a
    cases d with
    | none => exact ex.elim
    | some dd =>
      obtain ⟨vs, h1, h2, h3⟩ := ex
      obtain ⟨v', g1, g2⟩ := lookup_zip h3 h2 hl
      exact ⟨r1, rfl, dd, _, v', rfl, h1, g1, k v' y C1 H1 H01 p1 c1 g2 q⟩⟩
end
section
variable {X : Cx} {a Cl : Addr} {oe : Obj} {d : Option Addr} {pn : List (Addr × Obj)} {T' : TX (X.suite a ((a, oe) :: pn))} {ρ : Rho} {C : Cells} {Q : QE} {e c : Expr} {p pos : Pos} {fs : XF}
theorem call_isX (G : ExcC X.K Cl) (hz : Zc (.ref Cl) d oe) (hf : ∃ vs, oe.data = .fields vs) : CallR (X.suite a ((a, oe) :: pn)) (.builtin "isinstance")
    (fun xs H Q => ∃ (c : V) (cv : Value) (b : Bool), xs = [.ref a, c] ∧ ClsV c cv ∧ W.kitOne X.K (.ref Cl) cv = some b ∧ (∀ dd, d = some dd → ∃ gs, H dd = some (.xd gs)) ∧ Q (.bl b) H) := by
  intro pins s σ H xs us Q I r h
  obtain ⟨c, cv, b, rfl, hcv, e, hd, q⟩ := h
  obtain ⟨u1, u2, rfl, r1, r2⟩ := vals2 r
  cases (show u1 = Value.ref a from r1)
  have ec := hcv.eq r2
  subst ec
  obtain ⟨hget, _⟩ := I.pin (a, oe) (List.mem_append.mpr (.inl List.mem_cons_self))
  obtain ⟨vs, hv⟩ := hf
  obtain ⟨oc, od, oda, osl⟩ := oe
  obtain ⟨h1, h2⟩ := hz
  dsimp only at h1 h2 hv
  subst h1 h2 hv
  obtain ⟨ob, J⟩ : ∃ ob, W.InstAt s.heap a ⟨.ref Cl, od, .fields vs, osl⟩ Cl ob := by
    cases od with
    | none => exact ⟨none, hget, rfl, rfl, trivial⟩
    | some dd =>
      obtain ⟨gs, hg⟩ := hd dd rfl
      have hx : ObjOk X.prog X.w H s.heap dd (.xd gs) := I.hok dd _ hg
      obtain ⟨mA, hns, _⟩ := hx
      obtain ⟨ob, ho, _⟩ := lookIn_ns hns
      exact ⟨some ob, hget, rfl, rfl, ho⟩
  exact W.kia_one (W.kitx_exc (by obtain ⟨cd, hc, _⟩ := PySem.W.any_some G.hd; rw [hc]; rfl) G.hg G.hk G.hs G.ha G.hn G.ht G.hm) I.kIn J e (fun z => nomatch z) fun tk => ⟨.bl b, H, I.tok tk, rfl, q⟩
end
end Tr

set_option maxHeartbeats 4000000
namespace Tr
open PySem L2 PySem.Spec PyProof.Rows
section
variable {X : Cx} {T : TX X} {ρ : Rho} {C : Cells} {N : TEnds} {st : Stmt}
theorem kit_tyF {K : W.Frag} {C : Addr} {U : String} {b : Bool} (ss : W.subIn K (.ref C) (.type U) = some b) (m : W.kitMeta U = true) : W.kitOne K (.ref C) (.type U) = some b := by
  unfold W.kitOne
  rw [if_neg (by intro h; cases h)]
  unfold W.kitCls
  simp only [m, ss]
  rfl
theorem cutL_to {α : Type} {l : List α} {k : Int} (h0 : 0 ≤ k) : cutL l none (some k) = l.take k.toNat := by
  obtain ⟨n, rfl⟩ := Int.eq_ofNat_of_zero_le h0
  unfold cutL
  rw [HT.sIx_nat, HT.sIx_none, Int.toNat_natCast]
  simp
theorem cutL_from {α : Type} {l : List α} {k : Int} (h0 : 0 ≤ k) : cutL l (some k) none = l.drop k.toNat := by
  obtain ⟨n, rfl⟩ := Int.eq_ofNat_of_zero_le h0
  unfold cutL
  rw [HT.sIx_nat, HT.sIx_none, Int.toNat_natCast]
  by_cases h : n ≤ l.length
  · rw [Nat.min_eq_left h, List.take_of_length_le (by simp)]
  · rw [Nat.min_eq_right (by omega)]
    simp [List.drop_eq_nil_of_le (show l.length ≤ n by omega)]
end
end Tr

set_option maxHeartbeats 4000000
namespace Tr
open PySem L2 PySem.Spec PyProof.Rows
section
variable {X : Cx} {T : TX X} {ρ : Rho} {C : Cells} {Q : QE} {e a o : Expr} {es rest : List Expr} {pos apos p : Pos} {v1 v2 : Expr}

theorem pi_seq {tg l : Expr} {tl : TE} (hl : PE X l tl) : PI X tg l (fun σ H R => tl σ H fun x H1 => ∃ a xs, x = .ref a ∧ ((SqL X.K H1 a xs ∧ R (Itl X.K a) H1) ∨ (SqT X.K H1 a xs ∧ R (Itt X.K a) H1))) := by
  refine ⟨fun pins s σ H R I h => ?_⟩
  refine thn (hl.run pins s σ H _ I h) fun v s1 ⟨x, H1, I1, r1, a, xs, e, q1⟩ => ?_
  subst e
  cases r1
  have fpk : ∀ b ∈ [s1.heap.objs.size], FpOk X pins H1 b := fun b hb => by
    have e : b = s1.heap.objs.size := by simpa using hb
    subst e
    exact I1.fpOk (Nat.le_refl _) (I1.hok.fresh (Nat.le_refl _))
  rcases q1 with ⟨hq, q⟩ | ⟨hq, q⟩
  · obtain ⟨its, rv, p, hz⟩ := I1.list hq
    refine wpAny_pyIter_list p.isList ?_
    exact ⟨s1.heap.objs.size, [s1.heap.objs.size], _, _, H1, rfl, I1.kept (t' := s1.toks) fun b o e => Heap.get?_push_of_some _ e, turn_list a _, ⟨_, Heap.get?_push_size _ rfl, rfl, rfl⟩, fpk, q⟩
  · obtain ⟨its, rv, p, hz⟩ := I1.tuple hq
    refine wpAny_pyIter_tuple (show s1.heap.IsTuple a its.toArray from p) ?_
    exact ⟨s1.heap.objs.size, [s1.heap.objs.size], _, _, H1, rfl, I1.kept (t' := s1.toks) fun b o e => Heap.get?_push_of_some _ e, turn_tuple a _, ⟨_, Heap.get?_push_size _ rfl, rfl, rfl⟩, fpk, q⟩
def WJ (T : TX X) (es : List Expr) (acc : Str) (ρ : Rho) (C : Cells) (Q : Str → Cells → Prop) : Prop :=
  ∀ pins (s : Shared) σ H H0 (R : Str → Shared → Prop), acc.length ≤ sizeLine → L2.Inv X pins σ H s → At T H0 ρ C σ H →
    (∀ out s1 C1 H1 H01, Stp H0 C H H01 C1 H1 → CellsR X.K H01 C1 H1 → out.length ≤ sizeLine → L2.Inv X pins σ H1 s1 → Q out C1 → R out s1) → Joins (model X.prog X.w) X.A X.xe (evalEach es X.env) acc R s
theorem wj_nil {acc : Str} {Q : Str → Cells → Prop} (q : Q acc C) : WJ T [] acc ρ C Q := by
  intro pins s σ H H0 R hz I at_ k
  have e0 : evalEach [] X.env = [] := by first | rfl | simp [evalEach]
  rw [e0]
  exact k acc s C H H0 (Stp.refl _ _ _) at_.c hz I q
theorem wj_cons {acc : Str} {Q : Str → Cells → Prop} (h : Tr.WE T e ρ C fun d C1 => ∃ y : Str, d = .str y ∧ (acc ++ y).length ≤ 100000 ∧ WJ T es (acc ++ y) ρ C1 Q) : WJ T (e :: es) acc ρ C Q := by
  intro pins s σ H H0 R hz I at_ k
  have e0 : evalEach (e :: es) X.env = eval e X.env :: evalEach es X.env := by first | rfl | simp [evalEach]
  rw [e0]
  refine thn (h.run pins s σ H (fun v H1 => ∃ y C1 H01, v = .str y ∧ (acc ++ y).length ≤ 100000 ∧ WJ T es (acc ++ y) ρ C1 Q ∧ Stp H0 C H H01 C1 H1 ∧ At T H01 ρ C1 σ H1) I ⟨H0, at_, fun v d C1 H1 H01 p1 c1 r1 ⟨y, e1, hl, w⟩ => by
    subst e1; cases r1; exact ⟨y, C1, H01, rfl, hl, w, p1, at_.step p1 c1⟩⟩) fun v s1 hv => ?_
  obtain ⟨x, H1, I1, r1, y, C1, H01, rfl, hy, w, p1, at1⟩ := hv
  obtain ⟨tk, rfl⟩ := r1
  exact ⟨y, tk, rfl, Nat.le_trans hy (show 100000 ≤ sizeLine by decide), w pins s1 σ H1 H01 R (Nat.le_trans hy (show 100000 ≤ sizeLine by decide)) I1 at1 fun out s2 C2 H2 H02 p2 c2 hz2 I2 q2 => k out s2 C2 H2 H02 (p1.trans at1.c p2) c2 hz2 I2 q2⟩
theorem we_joined (h : WJ T (v1 :: v2 :: rest) Str.empty ρ C fun out C1 => Q (.str out) C1) : Tr.WE T (.JoinedStr (v1 :: v2 :: rest) pos) ρ C Q := by
  refine ⟨fun pins s σ H R I ⟨H0, at_, k⟩ => ?_⟩
  exact wpAny_JoinedStr (h pins s σ H H0 _ (Nat.zero_le _) I at_ fun out s1 C1 H1 H01 p1 c1 hz I1 q1 => ⟨hz, .str out, H1, I1.tok _, ⟨_, rfl⟩, k _ (.str out) C1 H1 H01 p1 c1 rfl q1⟩)
theorem we_fmt (h : Tr.WE T e ρ C fun d C1 => (∃ y : Str, d = .str y ∧ y.length ≤ 100000 ∧ Q (.str y) C1) ∨ ∃ i : Int, d = .int i ∧ i.natAbs.log2 < 1920 ∧ Q (.str (toString i)) C1) : Tr.WE T (.FormattedValue e (-1) none pos) ρ C Q :=
  PE.imp (pe_fmt h) fun σ H R ⟨H0, at_, k⟩ => ⟨H0, at_, fun v d C1 H1 H01 p1 c1 r1 q1 => by
    rcases q1 with ⟨y, e1, hl, q⟩ | ⟨i, e1, hl, q⟩
    · subst e1; cases r1
      exact .inl ⟨y, rfl, Nat.le_trans hl (show 100000 ≤ sizeLine by decide), k _ (.str y) C1 H1 H01 p1 c1 rfl q⟩
    · subst e1; cases r1
      exact .inr ⟨i, rfl, hl, k _ (.str _) C1 H1 H01 p1 c1 rfl q⟩⟩

theorem run_TC {k : Nat} {f : Addr} {fd : FuncData} {ps : List Str} {F : FS} {dvs : List V} {dds : List D} {dus : List Value} {pins : List (Addr × Obj)} {σ : L2.St} {H H0 : Hp} {s : Shared} {R : VK} {us : List Value} {vs : List V} {ds : List D} (Fk : FnG X.prog X.w X.K X.mg X.base k f fd ps F) (hr : RoomG k X.A) (hb : Binds X.K fd ps dus) (hd : Vals dvs dus) (hdd : ∀ H, Reps X.K H dds dvs)
    (I : L2.Inv X pins σ H s) (rv : Vals vs us) (at_ : At T H0 ρ C σ H) (r : Reps X.K H0 ds vs) (h : Asks T F ρ (ds ++ dds) C Q) (k : Cont X H0 C H Q R) :
    codeAny (model X.prog X.w) X.A (.call (.ref f) ⟨us, []⟩) (fun r s' => match r with | .ok (.ret v) => EP X pins σ R v s' | .ok _ => False | .error e => X.xe e s') s := by
  have all := asks_sp h at_ (r.append (hdd H0)) k
  have nlen : (us ++ dus).length = ps.length := by
    obtain ⟨_, ds', _, _, _, _, r', h', _⟩ := id all
    rw [← (rv.append hd).length, ← r'.length]
    exact Fk.len _ _ _ _ h'
  have went := Fk.run X.A X.stack s H ⟨us, []⟩ (us ++ dus) (vs ++ dvs) R _ hr I.env0 (hb s us I.kIn nlen) (rv.append hd) all
  refine codeAny_mono went ?_
  rintro (e | (_ | _ | _ | u)) s' hq
  · exact passX T.tk σ pins H s e s' I hq
  · exact False.elim hq
  · exact False.elim hq
  · exact False.elim hq
  · exact I.after hq
def CMetT (K : W.Frag) (C : Addr) (m : Str) (g : Addr) : Prop := ∃ mc p, ClX.CRead K C mc ∧ ClX.CMet K C mc m p g
theorem we_cmeth {pl : Sem Bool} {k : Nat} {g Cl : Addr} {m : Str} {fd : FuncData} {ps : List Str} {F : FS} {dvs : List V} {dds : List D} {dus : List Value} (hc : CMetT X.K Cl m g) (Fk : FnG X.prog X.w X.K X.mg X.base k g fd ps F) (hr : RoomG k X.A) (hb : Binds X.K fd ps dus) (hd : Vals dvs dus) (hdd : ∀ H, Reps X.K H dds dvs)
    (h : Tr.WE T o ρ C fun d C1 => d = .raw (.ref Cl) ∧ WA T (a :: es) ρ C1 fun ds C2 => Asks T F ρ (.raw (.ref Cl) :: (ds ++ dds)) C2 Q)
    (hst : starEach (a :: es) X.env = (false, eval a X.env) :: starEach es X.env := by rfl) (hpl : (backTo pos (starEach es X.env)).any (·.1) = false := by rfl)
    (ht : eval (.Call (.Attribute o m apos) (a :: es) [] pos) X.env = (do
      let ov ← eval o X.env
      standAt apos.atName
      let (f, first) ← holding [ov] (getMethod ov m pl)
      callWith pos f first (backTo pos (starEach (a :: es) X.env)) (backToKw pos (keywordEach [] X.env))) := by rfl) :
    Tr.WE T (.Call (.Attribute o m apos) (a :: es) [] pos) ρ C Q := by
  obtain ⟨mc, pp, r, c⟩ := hc
  refine ⟨fun pins s σ H R I ⟨H0, at_, k⟩ => W.methodCall_KW (pl := pl) ?_ ht⟩
  refine thn (h.run pins s σ H (fun v H1 => ∃ C1 H01, v = .ref Cl ∧ At T H01 ρ C1 σ H1 ∧ Cont X H01 C1 H1 Q R ∧ WA T (a :: es) ρ C1 fun ds C2 => Asks T F ρ (.raw (.ref Cl) :: (ds ++ dds)) C2 Q) I
    ⟨H0, at_, fun v d C1 H1 H01 p1 c1 r1 ⟨e1, q⟩ => by subst e1; cases r1; exact ⟨C1, H01, rfl, at_.step p1 c1, k.after p1 c1 (fun _ _ z => z), q⟩⟩) ?_
  rintro u s1 ⟨v, H1, I1, rv, C1, H01, ev, at1, k1, hw⟩
  subst ev
  obtain rfl : u = Value.ref Cl := rv
  refine ClX.getmethcm_ok I1 r c fun s2 I2 => ?_
  refine ClX.callwith_cm I2 (ClX.base_none I1 (Nat.le_refl _)) c.fi (thn (hw.run pos _ s2 σ H1 (fun vs H2 => ∃ ds C2 H02, At T H02 ρ C2 σ H2 ∧ Cont X H02 C2 H2 Q R ∧ Reps X.K H02 ds vs ∧ Asks T F ρ (.raw (.ref Cl) :: (ds ++ dds)) C2 Q) I2
    ⟨H01, at1, fun vs ds C2 H2 H02 p2 c2 r2 q2 => ⟨ds, C2, H02, at1.step p2 c2, k1.after p2 c2 fun _ _ z => z, r2, q2⟩⟩) ?_) hst hpl
  rintro us s3 ⟨vs, H2, I3, rvs, ds, C2, H02, at2, k2, rds, q2⟩
  refine ⟨⟨ClX.pin_at I3, I3.kIn⟩, ?_⟩
  have z := wpAny_call (PySem.W.method_call (ClX.pin_at I3) (run_TC (us := .ref Cl :: us) (vs := .ref Cl :: vs) (ds := .raw (.ref Cl) :: ds) Fk hr hb hd hdd I3 (.cons rfl rvs) at2 (Reps.cons (d := .raw (.ref Cl)) rfl rds) q2 k2))
  exact thn z fun _ _ y => ClX.unpinE y
end
end Tr

set_option maxHeartbeats 4000000
namespace Tr
open PySem L2 PySem.Spec PyProof.Rows TL

abbrev Wd := List Nat
def NoBl (w : Wd) : Prop := (32 : Nat) ∉ w
abbrev jn (ws : List Wd) : List Nat := joinL [32] ws
theorem jn_cons (p q : Wd) (r : List Wd) : jn (p :: q :: r) = p ++ (32 :: jn (q :: r)) := rfl
def cutW (w : Wd) : List Wd → Option (List Wd × List Wd)
  | [] => none
  | [_] => none
  | q :: q2 :: r => if q = w then some ([], q2 :: r) else (cutW w (q2 :: r)).map fun x => (q :: x.1, x.2)
def sepW (w : Wd) : List Nat := 32 :: (w ++ [32])
theorem word_eq : ∀ {w q : Wd} {a b : List Nat}, NoBl w → NoBl q → w ++ 32 :: a = q ++ 32 :: b → w = q
  | [], [], _, _, _, _, _ => rfl
  | [], c :: q, _, _, _, hq, e => by
    have e1 : (32 : Nat) = c := (List.cons.inj e).1
    exact absurd (by rw [e1]; exact List.mem_cons_self) hq
  | c :: w, [], _, _, hw, _, e => by
    have e1 : c = (32 : Nat) := (List.cons.inj e).1
    exact absurd (by rw [e1]; exact List.mem_cons_self) hw
  | c :: w, d :: q, _, _, hw, hq, e => by
    obtain ⟨e1, e2⟩ := List.cons.inj e
    rw [e1, word_eq (fun h => hw (List.mem_cons_of_mem _ h)) (fun h => hq (List.mem_cons_of_mem _ h)) e2]
theorem pre_iff {S L : List Nat} : pre S L = true ↔ ∃ t, L = S ++ t := by
  unfold pre
  constructor
  · intro h
    have e := eq_of_beq h
    exact ⟨L.drop S.length, by conv => lhs; rw [← List.take_append_drop S.length L, e]⟩
  · rintro ⟨t, rfl⟩
    simp
theorem pre_word {w q : Wd} (hw : NoBl w) (hq : NoBl q) : ∀ r : List Wd, pre (sepW w) (32 :: jn (q :: r)) = (decide (q = w) && !r.isEmpty)
  | [] => by
    rw [Bool.eq_iff_iff, pre_iff]
    constructor
    · rintro ⟨t, e⟩
      have e2 : q = w ++ 32 :: t := by
        have := (List.cons.inj e).2
        have e3 : jn [q] = w ++ 32 :: t := by simpa using this
        exact e3
      exact absurd (by rw [e2]; simp) hq
    · intro h; simp at h
  | q2 :: r => by
    rw [Bool.eq_iff_iff, pre_iff]
    constructor
    · rintro ⟨t, e⟩
      have e2 : w ++ 32 :: t = q ++ 32 :: jn (q2 :: r) := by
        have := (List.cons.inj e).2
        rw [jn_cons] at this
        rw [this]; simp
      rw [word_eq hw hq e2]
      simp
    · intro h
      have e : q = w := by simpa using h
      subst e
      exact ⟨jn (q2 :: r), by rw [jn_cons]; simp [sepW]⟩
theorem free_blank {p : Wd} {w : Wd} {rest : List Nat} (h : NoBl p) : ∀ i, i < p.length → pre (sepW w) ((p ++ rest).drop i) = false := free_of (s := 32) h
theorem par_words {w : Wd} (hw : NoBl w) : ∀ (ws : List Wd) (p : Wd) (acc : List Nat), NoBl p → (∀ q ∈ ws, NoBl q) →
    par (sepW w) acc (jn (p :: ws)) = (cutW w ws).map fun x => (acc ++ jn (p :: x.1), jn x.2)
  | [], p, acc, hp, _ => by
    show par (sepW w) acc p = none
    exact par_none1 hp
  | q :: r, p, acc, hp, hr => by
    have hq := hr q List.mem_cons_self
    have run := par_run (sepW w) (jn (p :: q :: r)) p.length 0 acc (by rw [jn_cons, List.length_append]; omega) (fun k _ k2 => by rw [jn_cons]; exact free_blank hp k (by omega))
    rw [List.drop_zero, Nat.zero_add, jn_cons, List.drop_left, List.take_left] at run
    rw [jn_cons, run]
    have hpre := pre_word hw hq r
    cases r with
    | nil =>
      rw [List.isEmpty_nil, Bool.not_true, Bool.and_false] at hpre
      have ih := par_words hw [] q (acc ++ p ++ [32]) hq (by simp)
      rw [par_miss hpre]
      exact ih
    | cons q2 r =>
      by_cases e : q = w
      · subst e
        have hpre' : pre (sepW q) (32 :: jn (q :: q2 :: r)) = true := by rw [hpre]; simp
        have := par_at (S := sepW q) (L := 32 :: jn (q :: q2 :: r)) (by simp [sepW]) (c := 0) (acc := acc ++ p) (by rw [List.drop_zero]; exact hpre')
        rw [List.drop_zero] at this
        rw [this]
        simp only [cutW, if_pos rfl, Option.map_some]
        congr 2
        rw [Nat.zero_add, jn_cons]
        simp [sepW]
      · have hpre' : pre (sepW w) (32 :: jn (q :: q2 :: r)) = false := by rw [hpre]; simp [e]
        have ih := par_words hw (q2 :: r) q (acc ++ p ++ [32]) hq (fun z hz => hr z (List.mem_cons_of_mem _ hz))
        rw [par_miss hpre', ih]
        show _ = Option.map _ (if q = w then _ else _)
        rw [if_neg e, Option.map_map]
        congr 1
        funext x
        simp [jn_cons]
theorem spl_words {w : Wd} (hw : NoBl w) : ∀ (ws : List Wd) (p : Wd) (acc : List Nat), NoBl p → (∀ q ∈ ws, NoBl q) →
    spl (sepW w) 0 acc (jn (p :: ws)) = match cutW w ws with
      | some x => (acc ++ jn (p :: x.1)) :: spl (sepW w) 0 [] (jn x.2)
      | none => [acc ++ jn (p :: ws)]
  | [], p, acc, hp, _ => by
    show spl (sepW w) 0 acc p = [acc ++ p]
    exact spl_last1 hp
  | q :: r, p, acc, hp, hr => by
    have hq := hr q List.mem_cons_self
    have run := spl_run (sepW w) (jn (p :: q :: r)) p.length 0 acc (by rw [jn_cons, List.length_append]; omega) (fun k _ k2 => by rw [jn_cons]; exact free_blank hp k (by omega))
    rw [List.drop_zero, Nat.zero_add, jn_cons, List.drop_left, List.take_left] at run
    rw [jn_cons, run]
    have hpre := pre_word hw hq r
    cases r with
    | nil =>
      rw [List.isEmpty_nil, Bool.not_true, Bool.and_false] at hpre
      have ih := spl_words hw [] q (acc ++ p ++ [32]) hq (by simp)
      rw [spl_miss hpre]
      rw [ih]
      show [_] = [_]
      simp [cutW, joinL]
    | cons q2 r =>
      by_cases e : q = w
      · subst e
        have hpre' : pre (sepW q) (32 :: jn (q :: q2 :: r)) = true := by rw [hpre]; simp
        have := spl_at (S := sepW q) (L := 32 :: jn (q :: q2 :: r)) (by simp [sepW]) (c := 0) (acc := acc ++ p) (by rw [List.drop_zero]; exact hpre')
        rw [List.drop_zero] at this
        rw [this]
        simp only [cutW, if_pos rfl]
        rw [Nat.zero_add, jn_cons]
        simp [sepW, joinL]
      · have hpre' : pre (sepW w) (32 :: jn (q :: q2 :: r)) = false := by rw [hpre]; simp [e]
        have ih := spl_words hw (q2 :: r) q (acc ++ p ++ [32]) hq (fun z hz => hr z (List.mem_cons_of_mem _ hz))
        rw [spl_miss hpre', ih]
        have ec : cutW w (q :: q2 :: r) = (cutW w (q2 :: r)).map fun x => (q :: x.1, x.2) := by
          show (if q = w then _ else _) = _
          rw [if_neg e]
        rw [ec]
        cases cutW w (q2 :: r) with
        | none => simp [jn_cons]
        | some x => simp [jn_cons]

theorem cutW_app {w : Wd} {b : List Wd} (hb : b ≠ []) : ∀ {a : List Wd}, w ∉ a → cutW w (a ++ w :: b) = some (a, b)
  | [], _ => by
    cases b with
    | nil => exact absurd rfl hb
    | cons q r => simp [cutW]
  | [c], h => by
    have e : ¬ c = w := fun z => h (by rw [z]; exact List.mem_cons_self)
    have ih := cutW_app hb (a := []) (w := w) (by simp)
    show cutW w (c :: w :: b) = _
    unfold cutW
    rw [if_neg e]
    rw [show cutW w (w :: b) = some ([], b) from ih]
    rfl
  | c :: d :: a, h => by
    have e : ¬ c = w := fun z => h (by rw [z]; exact List.mem_cons_self)
    have ih := cutW_app hb (a := d :: a) (w := w) (fun z => h (List.mem_cons_of_mem _ z))
    show cutW w (c :: (d :: a ++ w :: b)) = _
    rw [List.cons_append] at ih ⊢
    unfold cutW
    rw [if_neg e, ih]
    rfl
theorem cutW_none {w : Wd} : ∀ {a : List Wd}, w ∉ a → cutW w a = none
  | [], _ => rfl
  | [_], _ => rfl
  | c :: d :: a, h => by
    have e : ¬ c = w := fun z => h (by rw [z]; exact List.mem_cons_self)
    have ih := cutW_none (a := d :: a) (fun z => h (List.mem_cons_of_mem _ z))
    unfold cutW
    rw [if_neg e, ih]
    rfl
theorem jn_app : ∀ {a b : List Wd}, a ≠ [] → b ≠ [] → jn (a ++ b) = jn a ++ 32 :: jn b
  | [], _, h, _ => absurd rfl h
  | [p], b, _, hb => by
    cases b with
    | nil => exact absurd rfl hb
    | cons q r => rfl
  | p :: q :: r, b, _, hb => by
    have ih := jn_app (a := q :: r) (b := b) (by simp) hb
    show jn (p :: q :: (r ++ b)) = _
    rw [jn_cons, jn_cons]
    rw [show jn (q :: (r ++ b)) = jn (q :: r) ++ 32 :: jn b from ih]
    simp
def inter (w : Wd) : List (List Wd) → List Wd
  | [] => []
  | [p] => p
  | p :: q :: r => p ++ w :: inter w (q :: r)
theorem inter_ne {w : Wd} : ∀ {ps : List (List Wd)}, ps ≠ [] → (∀ p ∈ ps, p ≠ []) → inter w ps ≠ []
  | [], h, _ => absurd rfl h
  | [p], _, hp => hp p List.mem_cons_self
  | p :: q :: r, _, hp => by simp [inter]
theorem jn_inter {w : Wd} : ∀ {ps : List (List Wd)}, (∀ p ∈ ps, p ≠ []) → jn (inter w ps) = joinL (sepW w) (ps.map jn)
  | [], _ => rfl
  | [p], _ => rfl
  | p :: q :: r, hp => by
    have ih := jn_inter (w := w) (ps := q :: r) (fun z hz => hp z (List.mem_cons_of_mem _ hz))
    have hn : inter w (q :: r) ≠ [] := inter_ne (by simp) (fun z hz => hp z (List.mem_cons_of_mem _ hz))
    show jn (p ++ w :: inter w (q :: r)) = jn p ++ (sepW w ++ joinL (sepW w) ((q :: r).map jn))
    rw [jn_app (hp p List.mem_cons_self) (by simp), ← ih]
    cases e : inter w (q :: r) with
    | nil => exact absurd e hn
    | cons a b => rw [jn_cons]; simp [sepW]
theorem mem_inter {w z : Wd} : ∀ {ps : List (List Wd)}, z ∈ inter w ps → z = w ∨ ∃ p ∈ ps, z ∈ p
  | [], h => by cases h
  | [p], h => .inr ⟨p, List.mem_cons_self, h⟩
  | p :: q :: r, h => by
    rcases List.mem_append.mp h with h | h
    · exact .inr ⟨p, List.mem_cons_self, h⟩
    · rcases List.mem_cons.mp h with h | h
      · exact .inl h
      · rcases mem_inter h with h | ⟨p', h1, h2⟩
        · exact .inl h
        · exact .inr ⟨p', List.mem_cons_of_mem _ h1, h2⟩
theorem spl_inter {w : Wd} (hw : NoBl w) : ∀ {ps : List (List Wd)}, ps ≠ [] → (∀ p ∈ ps, p ≠ [] ∧ w ∉ p ∧ ∀ q ∈ p, NoBl q) → spl (sepW w) 0 [] (jn (inter w ps)) = ps.map jn
  | [], h, _ => absurd rfl h
  | [p], _, hp => by
    obtain ⟨h1, h2, h3⟩ := hp p List.mem_cons_self
    cases p with
    | nil => exact absurd rfl h1
    | cons c a =>
      show spl (sepW w) 0 [] (jn (c :: a)) = [jn (c :: a)]
      rw [spl_words hw a c [] (h3 c List.mem_cons_self) (fun q hq => h3 q (List.mem_cons_of_mem _ hq)), cutW_none fun z => h2 (List.mem_cons_of_mem _ z)]
      rfl
  | p :: p2 :: r, _, hp => by
    obtain ⟨h1, h2, h3⟩ := hp p List.mem_cons_self
    have ih := spl_inter hw (ps := p2 :: r) (by simp) (fun z hz => hp z (List.mem_cons_of_mem _ hz))
    have hn : inter w (p2 :: r) ≠ [] := inter_ne (by simp) (fun z hz => (hp z (List.mem_cons_of_mem _ hz)).1)
    have hb : ∀ q ∈ inter w (p2 :: r), NoBl q := fun q hq => by
      rcases mem_inter hq with h | ⟨p', h4, h5⟩
      · rw [h]; exact hw
      · exact (hp p' (List.mem_cons_of_mem _ h4)).2.2 q h5
    cases p with
    | nil => exact absurd rfl h1
    | cons c a =>
      show spl (sepW w) 0 [] (jn (c :: (a ++ w :: inter w (p2 :: r)))) = jn (c :: a) :: (p2 :: r).map jn
      rw [spl_words hw _ c [] (h3 c List.mem_cons_self) (fun q hq => by
        rcases List.mem_append.mp hq with h | h
        · exact h3 q (List.mem_cons_of_mem _ h)
        · rcases List.mem_cons.mp h with h | h
          · rw [h]; exact hw
          · exact hb q h), cutW_app hn fun z => h2 (List.mem_cons_of_mem _ z)]
      show ([] ++ jn (c :: a)) :: spl (sepW w) 0 [] (jn (inter w (p2 :: r))) = _
      rw [ih]; rfl
def ofL (l : List Nat) : Str := ⟨l.toArray⟩
theorem tl_ofL (l : List Nat) : tl (ofL l) = l := by simp [ofL, tl]
theorem ofL_tl (x : Str) : ofL (tl x) = x := by simp [ofL, tl]
theorem part_found {x y : Str} {w p : Wd} {a b : List Wd} (hy : tl y = sepW w) (hw : NoBl w) (hx : tl x = jn (p :: (a ++ w :: b))) (hp : NoBl p) (ha : ∀ q ∈ a, NoBl q) (hb : ∀ q ∈ b, NoBl q) (hwa : w ∉ a) (hbn : b ≠ []) :
    Txt.partition x y = (ofL (jn (p :: a)), y, ofL (jn b)) := by
  rw [partition_par x y (by rw [hy]; simp [sepW]), hx, hy, par_words hw _ p [] hp (fun q hq => by
    rcases List.mem_append.mp hq with h | h
    · exact ha q h
    · rcases List.mem_cons.mp h with h | h
      · rw [h]; exact hw
      · exact hb q h), cutW_app hbn hwa]
  rfl
theorem part_not {x y : Str} {w p : Wd} {a : List Wd} (hy : tl y = sepW w) (hw : NoBl w) (hx : tl x = jn (p :: a)) (hp : NoBl p) (ha : ∀ q ∈ a, NoBl q) (hwa : w ∉ a) : Txt.partition x y = (x, Str.empty, Str.empty) := by
  rw [partition_par x y (by rw [hy]; simp [sepW]), hx, hy, par_words hw _ p [] hp ha, cutW_none hwa]
  rfl
theorem split_words {x y : Str} {w : Wd} {ps : List (List Wd)} (hy : tl y = sepW w) (hw : NoBl w) (hk : y.cps.all (· < 256) = true) (hx : tl x = jn (inter w ps)) (hn : ps ≠ []) (hp : ∀ p ∈ ps, p ≠ [] ∧ w ∉ p ∧ ∀ q ∈ p, NoBl q) :
    Txt.split x y = ps.map fun p => ofL (jn p) := by
  refine map_tl_inj ?_
  rw [split_spl x y (by rw [hy]; simp [sepW]) (kind_ok hk), hx, hy, spl_inter hw hn hp, List.map_map]
  exact List.map_congr_left fun p _ => (tl_ofL _).symm

section
variable {X : Cx} {T : TX X} {ρ : Rho} {C : Cells} {N : TEnds}
end
end Tr

set_option maxHeartbeats 4000000
namespace Tr
open PySem L2 PySem.Spec PyProof.Rows

abbrev ME := Cells → QE → Prop
abbrev MA := Cells → QA → Prop
abbrev MT := Cells → QT → Prop
abbrev MI := Cells → QI → Prop
abbrev MB := Cells → Prop
def up (F : FS) : FS := fun ds C Q Qx => ∃ Q' Qx', F ds C Q' Qx' ∧ (∀ d C', Q' d C' → Q d C') ∧ ∀ cls fs C', Qx' cls fs C' → Qx cls fs C'
theorem FnG.up {P : Program} {w : World} {K : W.Frag} {mg : Str → Option Value} {base : Heap} {k : Nat} {f : Addr} {fd : FuncData} {ps : List Str} {F : FS} (h : FnG P w K mg base k f fd ps F) : FnG P w K mg base k f fd ps (up F) :=
  ⟨fun ds C Q Qx ⟨Q', Qx', z, _, _⟩ => h.len _ _ _ _ z, fun A outer s H args us vs R E hr e0 hb rv ⟨H0, ds, C, Q, Qx, c, r, ⟨Q', Qx', z, i1, i2⟩, k1, k2⟩ => h.run A outer s H args us vs R E hr e0 hb rv
    ⟨H0, ds, C, Q', Qx', c, r, z, fun v d C' H' H0' p c' r' q => k1 v d C' H' H0' p c' r' (i1 _ _ q), fun cls dd fs C' H' H0' p c' x q => k2 cls dd fs C' H' H0' p c' x (i2 _ _ _ q)⟩⟩

section
variable {X : Cx}
def SE (T : TX X) (e : Expr) (ρ : Rho) (A : ME) : Prop := ∀ C Q, A C Q → Tr.WE T e ρ C Q
def SA (T : TX X) (es : List Expr) (ρ : Rho) (A : MA) : Prop := ∀ C Q, A C Q → WA T es ρ C Q
def ST (T : TX X) (e : Expr) (ρ : Rho) (A : MT) : Prop := ∀ C Q, A C Q → WT T e ρ C Q
def SP (T : TX X) (e : Expr) (ρ : Rho) (A : MT) : Prop := ∀ C Q, A C Q → WP T e ρ C Q
def SI (T : TX X) (tg e : Expr) (ρ : Rho) (A : MI) : Prop := ∀ C Q, A C Q → WI T tg e ρ C Q
def SB (T : TX X) (st : List Stmt) (ρ : Rho) (m : MB) (N : TEnds) : Prop := ∀ C, m C → WSs T st ρ C N
def SG (T : TX X) (tg : Expr) (d : D) (ρ : Rho) (st : List Stmt) (m : MB) (N : TEnds) : Prop := ∀ C, m C → WG T tg d ρ C fun ρ1 C1 => WSs T st ρ1 C1 N
variable {T : TX X} {ρ ρ' : Rho} {C : Cells} {N : TEnds} {e a b c o : Expr} {pos pos' p p2 apos : Pos} {es tgs : List Expr} {st : Stmt} {rest body : List Stmt} {x m : Str} {A B A' : ME} {AS : MA} {mt mf : MB}
theorem WA.mono {Q Q' : QA} (h : WA T es ρ C Q) (i : ∀ d C', Q d C' → Q' d C') : WA T es ρ C Q' :=
  PA.imp h fun σ H R ⟨H0, a, k⟩ => ⟨H0, a, fun vs ds C' H' H0' p c r q => k vs ds C' H' H0' p c r (i ds C' q)⟩
theorem WP.mono {Q Q' : QT} (h : WP T e ρ C Q) (i : ∀ d C', Q d C' → Q' d C') : WP T e ρ C Q' :=
  PW.imp h fun σ H R ⟨H0, a, k⟩ => ⟨H0, a, fun v C' H' H0' p c q => k v C' H' H0' p c (i v C' q)⟩
theorem WI.mono {tg : Expr} {Q Q' : QI} (h : WI T tg e ρ C Q) (i : ∀ ds P C', Q ds P C' → Q' ds P C') : WI T tg e ρ C Q' :=
  PI.imp h fun σ H R ⟨H0, a, k⟩ => ⟨H0, a, fun J ds P C' H' H0' p c y q => k J ds P C' H' H0' p c y (i ds P C' q)⟩
theorem OW.mono {f : Value → Value → Sem Value} {d1 d2 : D} {Q Q' : QE} (h : OW T f d1 d2 C Q) (i : ∀ d C', Q d C' → Q' d C') : OW T f d1 d2 C Q' :=
  OpR.imp h fun x y H R ⟨H0, c, r1, r2, k⟩ => ⟨H0, c, r1, r2, fun v d C' H' H0' p c r q => k v d C' H' H0' p c r (i d C' q)⟩
theorem CW.mono {f : Value} {ds : List D} {Q Q' : QE} (h : CW T f ds C Q) (i : ∀ d C', Q d C' → Q' d C') : CW T f ds C Q' :=
  CallR.imp h fun xs H R ⟨H0, c, r1, k⟩ => ⟨H0, c, r1, fun v d C' H' H0' p c r q => k v d C' H' H0' p c r (i d C' q)⟩

structure LeR (ρ ρ' : Rho) : Prop where
  l : ρ.length = ρ'.length
  s : ∀ (i : Nat) (d : D), ρ[i]? = some (some d) → ρ'[i]? = some (some d)
theorem LeR.refl (ρ : Rho) : LeR ρ ρ := ⟨rfl, fun _ _ h => h⟩
theorem LeR.nil : LeR [] [] := .refl _
theorem LeR.keep {x : Option D} (h : LeR ρ ρ') : LeR (x :: ρ) (x :: ρ') := ⟨by simp [h.l], fun i d q => by
  cases i with
  | zero => exact q
  | succ i => exact h.s i d q⟩
theorem LeR.drop {x : Option D} (h : LeR ρ ρ') : LeR (none :: ρ) (x :: ρ') := ⟨by simp [h.l], fun i d q => by
  cases i with
  | zero => cases q
  | succ i => exact h.s i d q⟩
theorem LeR.trans {ρ1 ρ2 ρ3 : Rho} (h : LeR ρ1 ρ2) (g : LeR ρ2 ρ3) : LeR ρ1 ρ3 := ⟨h.l.trans g.l, fun i d q => g.s i d (h.s i d q)⟩
theorem At.forget {H0 : Hp} {σ : L2.St} {H : Hp} (l : LeR ρ ρ') (h : At T H0 ρ' C σ H) : At T H0 ρ C σ H := ⟨h.a, h.c, fun i d q => h.s i d (l.s i d q), l.l.trans h.l⟩
theorem wss_forget (l : LeR ρ ρ') (h : WSs T rest ρ C N) : WSs T rest ρ' C N := PSs.imp h fun Dn σ H ⟨H0, at_, k⟩ => ⟨H0, at_.forget l, k⟩
theorem wg_forget {d : D} {tg : Expr} {Q : QS} (l : LeR ρ ρ') (h : WG T tg d ρ C Q) : WG T tg d ρ' C Q := PG.imp h fun v σ H R ⟨H0, at_, r, k⟩ => ⟨H0, at_.forget l, r, k⟩

abbrev eVal (d : D) : ME := fun C Q => Q d C
abbrev eBin (A B : ME) (O : D → D → ME) : ME := fun C Q => A C fun x C1 => B C1 fun y C2 => O x y C2 Q
abbrev eApp (A : ME) (O : D → ME) : ME := fun C Q => A C fun x C1 => O x C1 Q
abbrev aNil : MA := fun C Q => Q [] C
abbrev aCons (A : ME) (B : MA) : MA := fun C Q => A C fun d C1 => B C1 fun ds C2 => Q (d :: ds) C2
abbrev eArgs (A : MA) (O : List D → ME) : ME := fun C Q => A C fun ds C1 => O ds C1 Q
def pTup (ds : List D) : ME := fun C Q => ds.length ≤ 100000 ∧ Q (.tup ds) C
def pLst (ds : List D) : ME := fun C Q => ds.length ≤ 100000 ∧ Q (.lst ds) C
def pLstC (ds : List D) : ME := fun C Q => ds.length ≤ 100000 ∧ ∀ p, Q (.raw (.ref p)) ((p, .lst ds) :: C)
def pTru : D → MT
  | .bl k => fun C Q => Q k C
  | _ => fun _ _ => False
abbrev tVal (A : ME) : MT := fun C Q => A C fun d C1 => pTru d C1 Q
abbrev tNot (A : MT) : MT := fun C Q => A C fun k C1 => Q (!k) C1
abbrev tAnd (A B : MT) : MT := fun C Q => A C fun k C1 => if k = true then B C1 Q else Q false C1
abbrev tOr (A B : MT) : MT := fun C Q => A C fun k C1 => if k = true then Q true C1 else B C1 Q
abbrev tBin (A B : ME) (O : D → D → ME) : MT := fun C Q => A C fun x C1 => B C1 fun y C2 => O x y C2 fun d C3 => pTru d C3 Q
abbrev eIf (c : MT) (A B : ME) : ME := fun C Q => c C fun k C1 => if k = true then A C1 Q else B C1 Q
abbrev eAnd (A B : ME) : ME := fun C Q => A C fun d C1 => pTru d C1 fun k C2 => if k = true then B C2 Q else Q (.bl false) C2
abbrev eOr (A B : ME) : ME := fun C Q => A C fun d C1 => pTru d C1 fun k C2 => if k = true then Q (.bl true) C2 else B C2 Q
def pNeg : D → ME
  | .int i => fun C Q => Q (.int (-i)) C
  | _ => fun _ _ => False
theorem pTru_ex {d : D} {Q : QT} (h : pTru d C Q) : ∃ k, d = .bl k ∧ Q k C := by
  cases d with
  | bl k => exact ⟨k, rfl, h⟩
  | _ => exact False.elim h

theorem se_var {d : D} (i : Nat) (hd : ρ[i]? = some (some d)) (h : PE X (.Name x pos) (tVar i)) : SE T (.Name x pos) ρ (eVal d) := fun C Q q => we_var i hd q h
theorem se_glob {v : V} {d : D} (h : PE X (.Name x pos) (tC v)) (r : ∀ H0 : Hp, Rep X.K H0 d v) : SE T (.Name x pos) ρ (eVal d) := fun C Q q => we_glob h r q
theorem se_ty {n : String} (hg : Gl X x) (hm : X.mg x = none) (hv : bootBuiltins x = some (.type n)) (hn : x ≠ "__name__" := by decide) (hd : (x == ("__debug__" : Str)) = false := by decide) : SE T (.Name x pos) ρ (eVal (.raw (.ty n))) :=
  fun C Q q => we_ty hg hm hv q hn hd
theorem se_int {i j} : SE T (.Constant (.int i) j pos) ρ (eVal (.int i)) := fun C Q q => we_int q
theorem se_str {i j} : SE T (.Constant (.str i) j pos) ρ (eVal (.str i)) := fun C Q q => we_str q
theorem se_bl {i j} : SE T (.Constant (.bool i) j pos) ρ (eVal (.bl i)) := fun C Q q => we_bl q
theorem se_bin {op : Operator} {O : D → D → ME} (ha : SE T a ρ A) (hb : SE T b ρ B) (ho : ∀ x y C Q, O x y C Q → OW T (binaryOp op) x y C Q) : SE T (.BinOp a op b pos) ρ (eBin A B O) :=
  fun C Q h => we_bin ((ha C _ h).mono fun x C1 h1 => (hb C1 _ h1).mono fun y C2 h2 => ho x y C2 Q h2)
theorem se_cmp {op : CmpOp} {O : D → D → ME} (ha : SE T a ρ A) (hb : SE T b ρ B) (ho : ∀ x y C Q, O x y C Q → OW T (compareOp op) x y C Q) (hm : behindInMarks op b = false := by rfl) : SE T (.Compare a [op] [b] pos) ρ (eBin A B O) :=
  fun C Q h => we_cmp ((ha C _ h).mono fun x C1 h1 => (hb C1 _ h1).mono fun y C2 h2 => ho x y C2 Q h2) hm
theorem st_cmp {op : CmpOp} {O : D → D → ME} (ha : SE T a ρ A) (hb : SE T b ρ B) (ho : ∀ x y C Q, O x y C Q → OW T (compareOp op) x y C Q) (hm : behindInMarks op b = false := by rfl) : ST T (.Compare a [op] [b] pos) ρ (tBin A B O) :=
  fun C Q h => wt_cmp ((ha C _ h).mono fun x C1 h1 => (hb C1 _ h1).mono fun y C2 h2 => (ho x y C2 _ h2).mono fun d C3 h3 => pTru_ex h3) hm
theorem st_val (h : SE T e ρ A) (he : ∀ whole, isTrue e X.env whole = (do let v ← whole; standAt e.pos; holding [v] (truthy v)) := by intro _; rfl) : ST T e ρ (tVal A) :=
  fun C Q q => wt_val ((h C _ q).mono fun d C1 h1 => pTru_ex h1) he
theorem st_not {t : MT} (h : ST T a ρ t) : ST T (.UnaryOp .Not a pos) ρ (tNot t) := fun C Q q => wt_not (h C _ q)
theorem st_p {t : MT} (h : SP T a ρ t) : ST T a ρ t := fun C Q q => wt_p (h C Q q)
theorem sp_and1 {t : MT} (h : ST T a ρ t) : SP T (.BoolOp .And [a] pos) ρ t := fun C Q q => wp_and1 (h C Q q)
theorem sp_or1 {t : MT} (h : ST T a ρ t) : SP T (.BoolOp .Or [a] pos) ρ t := fun C Q q => wp_or1 (h C Q q)
theorem sp_and {t u : MT} (h : ST T a ρ t) (g : SP T (.BoolOp .And (b :: es) pos) ρ u) : SP T (.BoolOp .And (a :: b :: es) pos) ρ (tAnd t u) :=
  fun C Q q => wp_and ((h C _ q).mono fun k C1 h1 => by
    cases k with
    | true => exact g C1 Q h1
    | false => exact h1)
theorem sp_or {t u : MT} (h : ST T a ρ t) (g : SP T (.BoolOp .Or (b :: es) pos) ρ u) : SP T (.BoolOp .Or (a :: b :: es) pos) ρ (tOr t u) :=
  fun C Q q => wp_or ((h C _ q).mono fun k C1 h1 => by
    cases k with
    | true => exact h1
    | false => exact g C1 Q h1)
theorem se_one {op} (h : SE T a ρ A) : SE T (.BoolOp op [a] pos) ρ A := fun C Q q => we_one (h C Q q)
theorem se_and (h : SE T a ρ A) (g : SE T (.BoolOp .And (b :: es) pos) ρ B) : SE T (.BoolOp .And (a :: b :: es) pos) ρ (eAnd A B) :=
  fun C Q q => we_and ((h C _ q).mono fun d C1 h1 => by
    obtain ⟨k, e, h4⟩ := pTru_ex h1
    refine ⟨k, e, ?_⟩
    cases k with
    | false => exact h4
    | true => exact g C1 Q h4)
theorem se_or (h : SE T a ρ A) (g : SE T (.BoolOp .Or (b :: es) pos) ρ B) : SE T (.BoolOp .Or (a :: b :: es) pos) ρ (eOr A B) :=
  fun C Q q => we_or ((h C _ q).mono fun d C1 h1 => by
    obtain ⟨k, e, h4⟩ := pTru_ex h1
    refine ⟨k, e, ?_⟩
    cases k with
    | true => exact h4
    | false => exact g C1 Q h4)
theorem se_neg (h : SE T a ρ A) : SE T (.UnaryOp .USub a pos) ρ (eApp A pNeg) := fun C Q q => we_neg (i := 0) ((h C _ q).mono fun d C1 h1 => by
  cases d with
  | int i => exact ⟨i, rfl, h1⟩
  | _ => exact False.elim h1)
theorem se_if {t : MT} (h : ST T c ρ t) (ha : SE T a ρ A) (hb : SE T b ρ B) : SE T (.IfExp c a b pos) ρ (eIf t A B) :=
  fun C Q q => we_ifExp ((h C _ q).mono fun k C1 h1 => by
    cases k with
    | true => exact ha C1 Q h1
    | false => exact hb C1 Q h1)
theorem sa_nil : SA T [] ρ aNil := fun C Q q => wa_nil q
theorem sa_cons (h : SE T e ρ A) (g : SA T es ρ AS) (hs : starEach (e :: es) X.env = (false, eval e X.env) :: starEach es X.env := by rfl) : SA T (e :: es) ρ (aCons A AS) :=
  fun C Q q => wa_cons ((h C _ q).mono fun d C1 h1 => (g C1 _ h1)) hs
theorem se_tup {k} (h : SA T es ρ AS) : SE T (.Tuple es k pos) ρ (eArgs AS pTup) := fun C Q q => we_tup (h C _ q)
theorem se_lst (h : SA T es ρ AS) : SE T (.List es pos) ρ (eArgs AS pLst) := fun C Q q => we_lst (h C _ q)
theorem se_lstC (h : SA T es ρ AS) : SE T (.List es pos) ρ (eArgs AS pLstC) := fun C Q q => we_lstC (h C _ q)
theorem se_callB {q : Pos} {id : String} {O : List D → ME} (hg : Gl X x) (hm : X.mg x = none) (hv : bootBuiltins x = some (.builtin id)) (h : SA T (a :: es) ρ AS) (ho : ∀ ds C Q, O ds C Q → CW T (.builtin id) ds C Q)
    (hn : x ≠ "__name__" := by decide) (hdb : (x == ("__debug__" : Str)) = false := by decide) (he : starEach (a :: es) X.env = (false, eval a X.env) :: starEach es X.env := by rfl) (hpl : (backTo pos (starEach es X.env)).any (·.1) = false := by rfl) :
    SE T (.Call (.Name x q) (a :: es) [] pos) ρ (eArgs AS O) := fun C Q z => we_callB hg hm hv ((h C _ z).mono fun ds C1 h1 => ho ds C1 Q h1) hn hdb he hpl
theorem se_callTy {q : Pos} {id : String} {O : List D → ME} (hg : Gl X x) (hm : X.mg x = none) (hv : bootBuiltins x = some (.type id)) (h : SA T (a :: es) ρ AS) (ho : ∀ ds C Q, O ds C Q → CW T (.type id) ds C Q)
    (hn : x ≠ "__name__" := by decide) (hdb : (x == ("__debug__" : Str)) = false := by decide) (he : starEach (a :: es) X.env = (false, eval a X.env) :: starEach es X.env := by rfl) (hpl : (backTo pos (starEach es X.env)).any (·.1) = false := by rfl) :
    SE T (.Call (.Name x q) (a :: es) [] pos) ρ (eArgs AS O) := fun C Q z => we_callTy hg hm hv ((h C _ z).mono fun ds C1 h1 => ho ds C1 Q h1) hn hdb he hpl

def callW (F : FS) (Xq : QX) (ds : List D) : ME := fun C Q => ∃ μ r, C.Perm (μ ++ r) ∧ F ds μ (fun d μ' => Q d (μ' ++ r)) fun cls fs μ' => Xq cls fs (μ' ++ r)
theorem call_all {F : FS} {Xq : QX} {ds : List D} {Q : QE} (h : F ds C Q Xq) : callW F Xq ds C Q := ⟨C, [], by simp, by simpa using h⟩
theorem call_none {F : FS} {Xq : QX} {ds : List D} {Q : QE} (h : F ds [] (fun d μ' => Q d (μ' ++ C)) fun cls fs μ' => Xq cls fs (μ' ++ C)) : callW F Xq ds C Q := ⟨[], C, by simp, h⟩
theorem callW.asks {F : FS} {Xq : QX} {ds : List D} {Q : QE} (h : callW F Xq ds C Q) (hX : ∀ cls fs C, Xq cls fs C → T.XQ cls fs ρ C) : Asks T (up F) ρ ds C Q :=
  let ⟨μ, r, pm, z⟩ := h
  ⟨μ, r, pm, _, _, z, fun _ _ q => q, fun cls fs C' q => hX cls fs _ q⟩
variable {k : Nat} {f Cl : Addr} {fd : FuncData} {ps : List Str} {F : FS} {dvs : List V} {dds : List D} {dus : List Value} {Xq : QX}
theorem se_call {q : Pos} (Fk : FnG X.prog X.w X.K X.mg X.base k f fd ps F) (hr : RoomG k X.A) (hg : Gl X x) (hm : X.mg x = some (.ref f)) (hk : W.keepIn X.K (.ref f) = true) (hb : Binds X.K fd ps dus) (hd : Vals dvs dus) (hdd : ∀ H, Reps X.K H dds dvs)
    (hX : ∀ cls fs C, Xq cls fs C → T.XQ cls fs ρ C) (h : SA T (a :: es) ρ AS) (hdb : (x == ("__debug__" : Str)) = false := by decide) (he : starEach (a :: es) X.env = (false, eval a X.env) :: starEach es X.env := by rfl) (hpl : (backTo pos (starEach es X.env)).any (·.1) = false := by rfl) :
    SE T (.Call (.Name x q) (a :: es) [] pos) ρ (eArgs AS fun ds => callW F Xq (ds ++ dds)) :=
  fun C Q z => we_call Fk.up hr hg hm hk hb hd hdd ((h C _ z).mono fun ds C1 h1 => h1.asks hX) hdb he hpl
def makeW (F : FS) (Xq : QX) (Cl : Addr) (ds : List D) : ME := fun C Q => ∃ μ r, C.Perm (μ ++ r) ∧ ∀ z, F (.raw (.ref z) :: ds) ((z, .ins Cl [] []) :: μ) (fun d μ' => d = .non ∧ Q (.raw (.ref z)) (μ' ++ r)) fun cls fs μ' => Xq cls fs (μ' ++ r)
abbrev pFrz (A : ME) : ME := fun C Q => A C fun d C1 => ∃ (i : Nat) (z Cl : Addr) (ns : List Str) (ds : List D), d = .raw (.ref z) ∧ C1[i]? = some (z, .ins Cl ns ds) ∧ Q (.ins Cl ns ds) (C1.eraseIdx i)
theorem se_frz (h : SE T e ρ A) : SE T e ρ (pFrz A) := fun C Q q => we_frzI (h C _ q)
theorem makeW.asks {ds : List D} {Q : QE} (h : makeW F Xq Cl ds C Q) (hX : ∀ cls fs C, Xq cls fs C → T.XQ cls fs ρ C) : AsksM T (up F) Cl ρ ds C Q :=
  let ⟨μ, r, pm, w⟩ := h
  ⟨μ, r, pm, fun z => ⟨_, _, w z, fun _ _ q => q, fun cls fs C' q => hX cls fs _ q⟩⟩
theorem se_make {q : Pos} (M : Mk X.K Cl f) (Fk : FnG X.prog X.w X.K X.mg X.base k f fd ps F) (hr : RoomG (k + 1) X.A) (hg : Gl X x) (hm : X.mg x = some (.ref Cl)) (hb : Binds X.K fd ps dus) (hd : Vals dvs dus) (hdd : ∀ H, Reps X.K H dds dvs)
    (hX : ∀ cls fs C, Xq cls fs C → T.XQ cls fs ρ C) (h : SA T (a :: es) ρ AS) (hdb : (x == ("__debug__" : Str)) = false := by decide) (he : starEach (a :: es) X.env = (false, eval a X.env) :: starEach es X.env := by rfl) (hpl : (backTo pos (starEach es X.env)).any (·.1) = false := by rfl) :
    SE T (.Call (.Name x q) (a :: es) [] pos) ρ (eArgs AS fun ds => makeW F Xq Cl (ds ++ dds)) :=
  fun C Q z => we_make M Fk.up hr hg hm hb hd hdd ((h C _ z).mono fun ds C1 h1 => h1.asks hX) hdb he hpl
theorem se_make0 {q : Pos} (M : Mk X.K Cl f) (Fk : FnG X.prog X.w X.K X.mg X.base k f fd ps F) (hr : RoomG (k + 1) X.A) (hg : Gl X x) (hm : X.mg x = some (.ref Cl)) (hb : Binds X.K fd ps dus) (hd : Vals dvs dus) (hdd : ∀ H, Reps X.K H dds dvs)
    (hX : ∀ cls fs C, Xq cls fs C → T.XQ cls fs ρ C) (hdb : (x == ("__debug__" : Str)) = false := by decide) :
    SE T (.Call (.Name x q) [] [] pos) ρ (makeW F Xq Cl dds) := fun C Q z => we_make0 M Fk.up hr hg hm hb hd hdd (z.asks hX) hdb
end
end Tr

set_option maxHeartbeats 4000000
namespace Tr
open PySem L2 PySem.Spec PyProof.Rows
section
variable {X : Cx} {T : TX X} {ρ ρ' : Rho} {C : Cells} {N : TEnds} {e a b c o i elt : Expr} {pos pos' p p2 apos spos : Pos} {es tgs : List Expr} {st : Stmt} {rest body tb fb : List Stmt} {x m : Str} {A B A' : ME} {AS : MA} {mt mf mm : MB} {scope : Scope} {tg : Expr}

def pFld (K : W.Frag) (m : Str) (d : D) : ME := fun C Q => ∃ Cl ns ds d', InsD C d Cl ns ds ∧ Cls K Cl ∧ NoAttr K Cl m ∧ (ns.zip ds).lookup m = some d' ∧ Q d' C
theorem se_fld (h : SE T e ρ A) (hb : attributeBase e m X.env (eval e X.env) = eval e X.env := by rfl) : SE T (.Attribute e m pos) ρ (eApp A (pFld X.K m)) :=
  fun C Q q => we_fld hb ((h C _ q).mono fun d C1 ⟨Cl, ns, ds, d', h1, h2, h3, h4, h5⟩ => ⟨Cl, ns, ds, d', h1, h2, h3, h4, h5⟩)
variable {k : Nat} {f Cl g : Addr} {fd : FuncData} {ps : List Str} {F : FS} {dvs : List V} {dds : List D} {dus : List Value} {Xq : QX}
theorem se_cmeth {pl : Sem Bool} (hc : CMetT X.K Cl m g) (Fk : FnG X.prog X.w X.K X.mg X.base k g fd ps F) (hr : RoomG k X.A) (hb : Binds X.K fd ps dus) (hd : Vals dvs dus) (hdd : ∀ H, Reps X.K H dds dvs)
    (hX : ∀ cls fs C, Xq cls fs C → T.XQ cls fs ρ C) (h : SE T o ρ (eVal (.raw (.ref Cl)))) (hs : SA T (a :: es) ρ AS)
    (hst : starEach (a :: es) X.env = (false, eval a X.env) :: starEach es X.env := by rfl) (hpl : (backTo pos (starEach es X.env)).any (·.1) = false := by rfl)
    (ht : eval (.Call (.Attribute o m apos) (a :: es) [] pos) X.env = (do
      let ov ← eval o X.env
      standAt apos.atName
      let (f, first) ← holding [ov] (getMethod ov m pl)
      callWith pos f first (backTo pos (starEach (a :: es) X.env)) (backToKw pos (keywordEach [] X.env))) := by rfl) :
    SE T (.Call (.Attribute o m apos) (a :: es) [] pos) ρ (eArgs AS fun ds => callW F Xq (.raw (.ref Cl) :: (ds ++ dds))) :=
  fun C Q z => we_cmeth (pl := pl) hc Fk.up hr hb hd hdd (h C _ ⟨rfl, (hs C _ z).mono fun ds C2 h4 => h4.asks hX⟩) hst hpl ht

def pIx : D → D → ME
  | .tup ds, .int i => fun C Q => ∃ d, atI ds i = some d ∧ Q d C
  | .lst ds, .int i => fun C Q => ∃ d, atI ds i = some d ∧ Q d C
  | .str s, .int i => fun C Q => s.length ≤ 100000 ∧ ∃ c, atI s.cps.toList i = some c ∧ Q (.str ⟨#[c]⟩) C
  | d, .int i => fun C Q => ∃ ds d', LstD C d ds ∧ atI ds i = some d' ∧ Q d' C
  | _, _ => fun _ _ => False
theorem pIx_iw {x y : D} {Q : QE} (h : pIx x y C Q) : IW T x y C Q := by
  cases y with
  | int i =>
    cases x with
    | tup ds => obtain ⟨d, h1, h2⟩ := h; exact iw_tup h1 h2
    | lst ds => obtain ⟨d, h1, h2⟩ := h; exact iw_lst .l h1 h2
    | str s => obtain ⟨h0, c, h1, h2⟩ := h; exact iw_str h0 h1 h2
    | _ => obtain ⟨ds, d', h1, h2, h3⟩ := h; exact iw_lst h1 h2 h3
  | _ => cases x <;> exact False.elim h
theorem se_ix (ha : SE T a ρ A) (hb : SE T b ρ B) (hs : PlainIx b := by intro _ _; rfl) : SE T (.Subscript a b pos) ρ (eBin A B pIx) :=
  fun C Q h => we_ix ((ha C _ h).mono fun x C1 h1 => (hb C1 _ h1).mono fun y C2 h2 => pIx_iw h2) hs
abbrev MO := Cells → (Option Int → Cells → Prop) → Prop
def SO (T : TX X) (e : Option Expr) (ρ : Rho) (A : MO) : Prop := ∀ C Q, A C Q → WO T e ρ C Q
abbrev oNone : MO := fun C Q => Q none C
def pOI : D → MO
  | .int i => fun C Q => Q (some i) C
  | _ => fun _ _ => False
abbrev oSome (A : ME) : MO := fun C Q => A C fun d C1 => pOI d C1 Q
theorem so_none : SO T none ρ oNone := fun C Q q => wo_none q
theorem so_some (h : SE T e ρ A) : SO T (some e) ρ (oSome A) := fun C Q q => wo_some ((h C _ q).mono fun d C1 h1 => by
  cases d with
  | int i => exact ⟨i, rfl, h1⟩
  | _ => exact False.elim h1)
def pSl (d : D) (l u : Option Int) : ME := match d with
  | .tup ds => fun C Q => Q (.tup (cutD ds l u)) C
  | .lst ds => fun C Q => Q (.lst (cutD ds l u)) C
  | .str s => fun C Q => s.length ≤ 100000 ∧ Q (.str (cutS s l u)) C
  | d => fun C Q => ∃ ds, LstD C d ds ∧ Q (.lst (cutD ds l u)) C
abbrev eSl (A : ME) (L U : MO) : ME := fun C Q => A C fun d C1 => L C1 fun l C2 => U C2 fun u C3 => pSl d l u C3 Q
theorem WO.mono {e : Option Expr} {Q Q' : Option Int → Cells → Prop} (h : WO T e ρ C Q) (i : ∀ d C', Q d C' → Q' d C') : WO T e ρ C Q' :=
  PO.imp h fun σ H R ⟨H0, a, k⟩ => ⟨H0, a, fun j C' H' H0' p c q => k j C' H' H0' p c (i j C' q)⟩
theorem se_slice {lo hi : Option Expr} {L U : MO} (h : SE T e ρ A) (hl : SO T lo ρ L) (hu : SO T hi ρ U) : SE T (.Subscript e (.Slice lo hi none p2) pos) ρ (eSl A L U) :=
  fun C Q q => we_slice ((h C _ q).mono fun d C1 h1 => (hl C1 _ h1).mono fun l C2 h2 => (hu C2 _ h2).mono fun u C3 h3 => by
    cases d with
    | tup ds => exact sw_tup h3
    | lst ds => exact sw_lst .l h3
    | str s => exact sw_str h3.1 h3.2
    | _ => obtain ⟨ds, h4, h5⟩ := h3; exact sw_lst h4 h5)
def pRev (d : D) : ME := fun C Q => ∃ ds, LstD C d ds ∧ Q (.lst ds.reverse) C
def pRevC (d : D) : ME := fun C Q => ∃ ds, LstD C d ds ∧ ∀ p, Q (.raw (.ref p)) ((p, .lst ds.reverse) :: C)
theorem se_revC {k : Nat} {p1 p2 p3 : Pos} (h : SE T e ρ A) : SE T (.Subscript e (.Slice none none (some (.UnaryOp .USub (.Constant (.int 1) k p1) p2)) p3) pos) ρ (eApp A pRevC) := fun C Q q => we_revC (h C _ q)

def pIter (d : D) : MI := match d with
  | .lst ds => fun C Q => Q ds (fun _ => True) C
  | .tup ds => fun C Q => Q ds (fun _ => True) C
  | d => fun C Q => ∃ ds, SeqD C d ds ∧ Q ds (fun C' => SeqD C' d ds) C
abbrev iApp (A : ME) (O : D → MI) : MI := fun C Q => A C fun d C1 => O d C1 Q
theorem wi_iter {Q : QI} (h : Tr.WE T e ρ C fun d C1 => pIter d C1 Q) : WI T tg e ρ C Q := by
  refine PI.imp (pi_seq h) fun σ H R ⟨H0, at_, k⟩ => ⟨H0, at_, fun v d C1 H1 H01 p1 c1 r1 q => ?_⟩
  have gen : ∀ {d : D}, Rep X.K H01 d v → (∃ ds, SeqD C1 d ds ∧ Q ds (fun C' => SeqD C' d ds) C1) → ∃ a xs, v = .ref a ∧ ((SqL X.K H1 a xs ∧ R (Itl X.K a) H1) ∨ (SqT X.K H1 a xs ∧ R (Itt X.K a) H1)) := by
    rintro d r1 ⟨ds, hq, q⟩
    rcases hq with (e1 | ⟨z, e1, hz⟩) | e1
    · subst e1
      obtain ⟨a, vs, e2, g1, g2⟩ := r1
      subst e2
      exact ⟨a, vs, rfl, .inl ⟨Same.sqL c1.same g1, k _ _ _ C1 H1 H01 p1 c1 ((yields_list g1 g2).weak fun _ _ => trivial) q⟩⟩
    · subst e1
      obtain rfl : v = .ref z := r1
      obtain ⟨vs, g1, g2⟩ := c1.ok z _ hz
      refine ⟨z, vs, rfl, .inl ⟨.inl (.inl g1), k _ _ _ C1 H1 H01 p1 c1 (yields_cell.weak fun C' h => ?_) q⟩⟩
      rcases h with (h | ⟨z', h, hm⟩) | h
      · cases h
      · cases h; exact hm
      · cases h
    · subst e1
      obtain ⟨a, vs, e2, g1, g2⟩ := r1
      subst e2
      exact ⟨a, vs, rfl, .inr ⟨Same.sqT c1.same g1, k _ _ _ C1 H1 H01 p1 c1 ((yields_tup g1 g2).weak fun _ _ => trivial) q⟩⟩
  cases d with
  | lst ds =>
    obtain ⟨a, vs, e2, g1, g2⟩ := r1
    subst e2
    exact ⟨a, vs, rfl, .inl ⟨Same.sqL c1.same g1, k _ _ _ C1 H1 H01 p1 c1 (yields_list g1 g2) q⟩⟩
  | tup ds =>
    obtain ⟨a, vs, e2, g1, g2⟩ := r1
    subst e2
    exact ⟨a, vs, rfl, .inr ⟨Same.sqT c1.same g1, k _ _ _ C1 H1 H01 p1 c1 (yields_tup g1 g2) q⟩⟩
  | _ => exact gen r1 q
theorem si_iter (h : SE T e ρ A) : SI T tg e ρ (iApp A pIter) := fun C Q q => wi_iter (h C _ q)
def pIterS (d : D) : MI := match d with
  | .str s => fun C Q => Q (signsD s) (fun _ => True) C
  | _ => fun _ _ => False
def pRange1 : D → MI
  | .int j => fun C Q => (-(2 ^ 62) ≤ j ∧ j < 2 ^ 62) ∧ Q (rangeD 0 j.toNat) (fun _ => True) C
  | _ => fun _ _ => False
def pRange2 : D → D → MI
  | .int i, .int j => fun C Q => (-(2 ^ 62) ≤ i ∧ i < 2 ^ 62 ∧ -(2 ^ 62) ≤ j ∧ j < 2 ^ 62) ∧ Q (rangeD i (j - i).toNat) (fun _ => True) C
  | _, _ => fun _ _ => False
theorem si_range1 (hg : Gl X "range") (hm : X.mg "range" = none) (h : SE T a ρ A) (hs : starEach [a] X.env = [(false, eval a X.env)] := by rfl) (hs2 : starEach [a] X.env = (false, eval a X.env) :: starEach [] X.env := by rfl) : SI T tg (.Call (.Name "range" p) [a] [] pos) ρ (iApp A pRange1) :=
  fun C Q q => wi_range1 hg hm ((h C _ q).mono fun d C1 h1 => by
    cases d with
    | int j => exact ⟨j, rfl, h1.1.1, h1.1.2, h1.2⟩
    | _ => exact False.elim h1) hs hs2
def pEnum (d : D) : MI := match d with
  | .lst ds => fun C Q => Q (enumD 0 ds) (fun _ => True) C
  | .tup ds => fun C Q => Q (enumD 0 ds) (fun _ => True) C
  | d => fun C Q => ∃ ds, SeqD C d ds ∧ Q (enumD 0 ds) (fun C' => SeqD C' d ds) C
theorem wi_enumI {Q : QI} {elts : List Expr} {kk : Nat} {tpos : Pos} (hg : Gl X "enumerate") (hm : X.mg "enumerate" = none) (h : Tr.WE T e ρ C fun d C1 => pEnum d C1 Q)
    (hs : starEach [e] X.env = [(false, eval e X.env)] := by rfl) (hs2 : starEach [e] X.env = (false, eval e X.env) :: starEach [] X.env := by rfl) : WI T (.Tuple elts kk tpos) (.Call (.Name "enumerate" p) [e] [] pos) ρ C Q :=
  wi_enum hg hm (h.mono fun d C1 h1 => by
    have gen : ∀ {d : D}, (∃ ds, SeqD C1 d ds ∧ Q (enumD 0 ds) (fun C' => SeqD C' d ds) C1) → (∀ ds, d ≠ .lst ds) → (∀ ds, d ≠ .tup ds) → ∃ ds, ((d = .lst ds ∨ d = .tup ds) ∧ Q (enumD 0 ds) (fun _ => True) C1) ∨ (∃ z, d = .raw (.ref z) ∧ (z, Cell.lst ds) ∈ C1 ∧ Q (enumD 0 ds) (fun C => (z, Cell.lst ds) ∈ C) C1) := by
      rintro d ⟨ds, hq, q⟩ n1 n2
      rcases hq with (e1 | ⟨z, e1, hz⟩) | e1
      · exact absurd e1 (n1 _)
      · refine ⟨ds, .inr ⟨z, e1, hz, ?_⟩⟩
        have : (fun C' => SeqD C' d ds) = fun C => (z, Cell.lst ds) ∈ C := by
          subst e1
          funext C'
          refine propext ⟨fun h => ?_, fun h => .inl (.inr ⟨z, rfl, h⟩)⟩
          rcases h with (h | ⟨z', h, hm⟩) | h
          · cases h
          · cases h; exact hm
          · cases h
        rw [← this]; exact q
      · exact absurd e1 (n2 _)
    cases d with
    | lst ds => exact ⟨ds, .inl ⟨.inl rfl, h1⟩⟩
    | tup ds => exact ⟨ds, .inl ⟨.inr rfl, h1⟩⟩
    | _ => exact gen h1 (fun _ h => by cases h) (fun _ h => by cases h)) hs hs2
theorem si_enum {elts : List Expr} {kk : Nat} {tpos : Pos} (hg : Gl X "enumerate") (hm : X.mg "enumerate" = none) (h : SE T e ρ A)
    (hs : starEach [e] X.env = [(false, eval e X.env)] := by rfl) (hs2 : starEach [e] X.env = (false, eval e X.env) :: starEach [] X.env := by rfl) : SI T (.Tuple elts kk tpos) (.Call (.Name "enumerate" p) [e] [] pos) ρ (iApp A pEnum) :=
  fun C Q q => wi_enumI hg hm (h C _ q) hs hs2

def lcB (P : Cells → Prop) (f : D → ME) (Q : QE) : List D → List D → Cells → Prop
  | [], acc, C => P C ∧ Q (.lst acc) C
  | d :: r, acc, C => P C ∧ f d C fun y C2 => acc.length < 100000 ∧ lcB P f Q r (acc ++ [y]) C2
def lcB1 (P : Cells → Prop) (t : D → MT) (f : D → ME) (Q : QE) : List D → List D → Cells → Prop
  | [], acc, C => P C ∧ Q (.lst acc) C
  | d :: r, acc, C => P C ∧ t d C fun k C1 => if k = true then f d C1 fun y C2 => acc.length < 100000 ∧ lcB1 P t f Q r (acc ++ [y]) C2 else lcB1 P t f Q r acc C1
abbrev eLc (I : MI) (f : D → ME) : ME := fun C Q => I C fun ds P C1 => lcB P f Q ds [] C1
abbrev eLc1 (I : MI) (t : D → MT) (f : D → ME) : ME := fun C Q => I C fun ds P C1 => lcB1 P t f Q ds [] C1
abbrev SEb (T : TX X) (scope : Scope) (e : Expr) (ρ : Rho) (A : ME) : Prop := ∀ (s : Shared) (H : Hp) (Ca : Addr) (cl : List (Str × Addr)) (fp : List Addr), SE (T.blk s H scope (compEnvC scope cl Ca X.env) fp) e ρ A
abbrev STb (T : TX X) (scope : Scope) (e : Expr) (ρ : Rho) (A : MT) : Prop := ∀ (s : Shared) (H : Hp) (Ca : Addr) (cl : List (Str × Addr)) (fp : List Addr), ST (T.blk s H scope (compEnvC scope cl Ca X.env) fp) e ρ A
structure BdOk (bd : Bind) (ρ : Rho) (T : TX X) (scope : Scope) (e : Expr) (f : D → ME) : Prop where
  run : ∀ d C Q, f d C Q → ∃ ρ', bd.to d ρ = some ρ' ∧ ∀ (s : Shared) (H : Hp) (Ca : Addr) (cl : List (Str × Addr)) (fp : List Addr), Tr.WE (T.blk s H scope (compEnvC scope cl Ca X.env) fp) e ρ' C Q
structure BdOkT (bd : Bind) (ρ : Rho) (T : TX X) (scope : Scope) (e : Expr) (f : D → MT) : Prop where
  run : ∀ d C Q, f d C Q → ∃ ρ', bd.to d ρ = some ρ' ∧ ∀ (s : Shared) (H : Hp) (Ca : Addr) (cl : List (Str × Addr)) (fp : List Addr), WT (T.blk s H scope (compEnvC scope cl Ca X.env) fp) e ρ' C Q
theorem bd_one {j : Nat} {f : D → ME} {r : D → Rho} (hr : ∀ d, ρ.set j (some d) = r d) (h : ∀ d, SEb T scope e (r d) (f d)) : BdOk (.one j) ρ T scope e f :=
  ⟨fun d C Q q => ⟨_, rfl, fun s H Ca cl fp => by rw [hr d]; exact h d s H Ca cl fp C Q q⟩⟩
theorem bdT_one {j : Nat} {f : D → MT} {r : D → Rho} (hr : ∀ d, ρ.set j (some d) = r d) (h : ∀ d, STb T scope e (r d) (f d)) : BdOkT (.one j) ρ T scope e f :=
  ⟨fun d C Q q => ⟨_, rfl, fun s H Ca cl fp => by rw [hr d]; exact h d s H Ca cl fp C Q q⟩⟩
def un2 {β : Sort _} (d : D) (f : D → D → Cells → β → Prop) : Cells → β → Prop := match d with
  | .tup [x, y] => f x y
  | _ => fun _ _ => False
def un3 {β : Sort _} (d : D) (f : D → D → D → Cells → β → Prop) : Cells → β → Prop := match d with
  | .tup [x, y, z] => f x y z
  | _ => fun _ _ => False
theorem lc_mirror {bd : Bind} {vs : List Nat} {P : Cells → Prop} {Q Q' : QE} {f : D → ME} (hb : BdOk bd (wipeR ρ vs) T scope elt f) (i : ∀ d C, Q d C → Q' d C) : ∀ {ds acc : List D} {C : Cells}, lcB P f Q ds acc C → LcW T scope bd elt vs ρ P Q' ds acc C
  | [], acc, C, h => ⟨h.1, i _ _ h.2⟩
  | d :: r, acc, C, ⟨hp, h⟩ => by
    obtain ⟨ρ', e1, h1⟩ := hb.run d C _ h
    exact ⟨hp, ρ', e1, fun s H Ca cl fp => (h1 s H Ca cl fp).mono fun y C2 ⟨hl, q⟩ => ⟨hl, lc_mirror hb i q⟩⟩
theorem lc1_mirror {bd : Bind} {vs : List Nat} {P : Cells → Prop} {Q Q' : QE} {t : D → MT} {f : D → ME} (ht : BdOkT bd (wipeR ρ vs) T scope i t) (hb : BdOk bd (wipeR ρ vs) T scope elt f) (im : ∀ d C, Q d C → Q' d C) : ∀ {ds acc : List D} {C : Cells}, lcB1 P t f Q ds acc C → LcW1 T scope bd i elt vs ρ P Q' ds acc C
  | [], acc, C, h => ⟨h.1, im _ _ h.2⟩
  | d :: r, acc, C, ⟨hp, h⟩ => by
    obtain ⟨ρ', e1, h1⟩ := ht.run d C _ h
    refine ⟨hp, ρ', e1, fun s H Ca cl fp => (h1 s H Ca cl fp).mono fun k C1 q => ?_⟩
    cases k with
    | false => exact lc1_mirror ht hb im q
    | true =>
      obtain ⟨ρ2, e2, h2⟩ := hb.run d C1 _ q
      rw [e1] at e2; cases e2
      exact fun s H Ca cl fp => (h2 s H Ca cl fp).mono fun y C2 ⟨hl, q⟩ => ⟨hl, lc1_mirror ht hb im q⟩
theorem se_lc {iter : Expr} {I : MI} {f : D → ME} (own : List (Str × Nat)) (bd : Bind) (hc : X.calm = true) (hN : X.N.Nodup) (ok : BlkOk X.N X.env.scope scope own)
    (hg : ∀ (s : Shared) (H : Hp) (Ca : Addr) (cl : List (Str × Addr)) (fp : List Addr), PG (X.blk s H scope (compEnvC scope cl Ca X.env) fp) tg (bd.g X.K)) (hv : ∀ i ∈ bd.slots, i ∈ own.map (·.2))
    (hI : SI T tg iter ρ I) (hb : BdOk bd (wipeR ρ (own.map (·.2))) T scope elt f) (hs : ∀ x, foldedSetIterable iter X.env x = pure x := by intro _; rfl) : SE T (.ListComp elt [⟨tg, iter, [], 0⟩] scope pos) ρ (eLc I f) :=
  fun C Q q => we_lc own bd hc hN ok hg hv ((hI C _ q).mono fun ds P C1 h => lc_mirror hb (fun _ _ q => q) h) hs
theorem se_lc1 {iter : Expr} {I : MI} {t : D → MT} {f : D → ME} (own : List (Str × Nat)) (bd : Bind) (hc : X.calm = true) (hN : X.N.Nodup) (ok : BlkOk X.N X.env.scope scope own)
    (hg : ∀ (s : Shared) (H : Hp) (Ca : Addr) (cl : List (Str × Addr)) (fp : List Addr), PG (X.blk s H scope (compEnvC scope cl Ca X.env) fp) tg (bd.g X.K)) (hv : ∀ i ∈ bd.slots, i ∈ own.map (·.2))
    (hI : SI T tg iter ρ I) (ht : BdOkT bd (wipeR ρ (own.map (·.2))) T scope i t) (hb : BdOk bd (wipeR ρ (own.map (·.2))) T scope elt f) (hs : ∀ x, foldedSetIterable iter X.env x = pure x := by intro _; rfl) : SE T (.ListComp elt [⟨tg, iter, [i], 0⟩] scope pos) ρ (eLc1 I t f) :=
  fun C Q q => we_lc1 own bd hc hN ok hg hv ((hI C _ q).mono fun ds P C1 h => lc1_mirror ht hb (fun _ _ q => q) h) hs

abbrev mSet (A : ME) (k : D → MB) : MB := fun C => A C fun d C1 => k d C1
abbrev mExp (A : ME) (m : MB) : MB := fun C => A C fun _ C1 => m C1
abbrev mRet (A : ME) (Q : QE) : MB := fun C => A C Q
abbrev mIf (t : MT) (m1 m2 : MB) : MB := fun C => t C fun k C1 => if k = true then m1 C1 else m2 C1
theorem sb_nil (h : ∀ C, mm C → N.nx ρ C) : SB T [] ρ mm N := fun C q => wss_nil (h C q)
theorem sb_more {mm : MB} (h : SB T rest ρ mm N) : SB T [] ρ mm { N with nx := fun ρ1 C1 => WSs T rest ρ1 C1 N } := fun C q => wss_nil (h C q)
theorem sb_le {α : Type} {enc : α → Rho} {J : α → MB} {W : QS} {V B' : QS} {R : QE} {s : α} (hJ : ∀ a ρ' C, LeR (enc a) ρ' → J a C → W ρ' C) (l : LeR (enc s) ρ) : SB T [] ρ (J s) { nx := W, rt := R, bk := V, ct := B' } := fun C q => wss_nil (hJ s _ C l q)
theorem sb_set {kk : D → MB} {r : D → Rho} (j : Nat) (hN : X.N.Nodup) (hi : X.N[j]? = some x) (hx : Loc X.env.scope x) (hr : ∀ d, ρ.set j (some d) = r d) (h : SE T e ρ A) (hk : ∀ d, SB T rest (r d) (kk d) N)
    (hs : swapsWith e (some (.Name x pos')) pos.line X.env = pure false := by rfl) (hf : X.fn x = true ∨ X.env.scope.names.lookup x = some .local := by first | exact .inl rfl | exact .inr rfl | assumption) :
    SB T (.Assign [.Name x pos'] e pos :: rest) ρ (mSet A kk) N :=
  fun C q => wss_cons (ws_set j hN hi hx ((h C _ q).mono fun d C1 h1 => by show WSs T rest (ρ.set j (some d)) C1 N; rw [hr]; exact hk d C1 h1) hs hf)
theorem sb_setLc {iter : Expr} {I : MI} {f : D → ME} {kk : D → MB} {r : D → Rho} {py : Pos} (own : List (Str × Nat)) (bd : Bind) (j : Nat) (hc : X.calm = true) (hN : X.N.Nodup) (hy : X.N[j]? = some x) (hyl : X.env.scope.names.lookup x = some .local)
    (hsw : swapsWith (.ListComp elt [⟨tg, iter, [], 0⟩] scope pos) (some (.Name x py)) spos.line X.env = pure true) (ok : BlkOk X.N X.env.scope scope own)
    (hg : ∀ (s : Shared) (H : Hp) (Ca : Addr) (cl : List (Str × Addr)) (fp : List Addr), PG (X.blk s H scope (compEnvC scope cl Ca X.env) fp) tg (bd.g X.K)) (hv : ∀ i ∈ bd.slots, i ∈ own.map (·.2))
    (hI : SI T tg iter ρ I) (hb : BdOk bd (wipeR ρ (own.map (·.2))) T scope elt f) (hr : ∀ d, ρ.set j (some d) = r d) (hk : ∀ d, SB T rest (r d) (kk d) N) (hs : ∀ x, foldedSetIterable iter X.env x = pure x := by intro _; rfl) :
    SB T (.Assign [.Name x py] (.ListComp elt [⟨tg, iter, [], 0⟩] scope pos) spos :: rest) ρ (mSet (eLc I f) kk) N :=
  fun C q => wss_cons (ws_setLc own bd j hc hN hy hyl hsw ok hg hv ((hI C _ q).mono fun ds P C1 h => lc_mirror hb (fun d C2 h => by show WSs T rest (ρ.set j (some d)) C2 N; rw [hr]; exact hk d C2 h) h) hs)
theorem sb_ret {Q : QE} (h : SE T e ρ A) (hQ : ∀ d C, Q d C → N.rt d C) : SB T (.Return (some e) pos :: rest) ρ (mRet A Q) N := fun C q => wss_cons (ws_ret ((h C _ q).mono hQ))
theorem sb_exp {m1 : MB} (h : SE T e ρ A) (hk : SB T rest ρ m1 N) (hs : swapsWith e none pos.line X.env = pure false := by rfl) : SB T (.Expr e pos :: rest) ρ (mExp A m1) N :=
  fun C q => wss_cons (ws_expr ((h C _ q).mono fun d C1 h1 => hk C1 h1) hs)
theorem sb_if {t : MT} (h : ST T c ρ t) (ht : SB T tb ρ mt { N with nx := fun ρ1 C1 => WSs T rest ρ1 C1 N }) (hf : SB T fb ρ mf { N with nx := fun ρ1 C1 => WSs T rest ρ1 C1 N }) : SB T (.If c tb fb pos :: rest) ρ (mIf t mt mf) N :=
  fun C q => wss_cons (ws_if ((h C _ q).mono fun k C1 h1 => by
    cases k with
    | true => exact ht C1 h1
    | false => exact hf C1 h1))
theorem sb_ifJ {α : Type} {t : MT} (enc : α → Rho) (J : α → MB) (h : ST T c ρ t) (hJ : ∀ a, SB T rest (enc a) (J a) N)
    (ht : ∀ W : QS, (∀ a ρ' C, LeR (enc a) ρ' → J a C → W ρ' C) → SB T tb ρ mt { N with nx := W }) (hf : ∀ W : QS, (∀ a ρ' C, LeR (enc a) ρ' → J a C → W ρ' C) → SB T fb ρ mf { N with nx := W }) : SB T (.If c tb fb pos :: rest) ρ (mIf t mt mf) N :=
  have hw : ∀ a ρ' C, LeR (enc a) ρ' → J a C → WSs T rest ρ' C N := fun a ρ' C l q => wss_forget l (hJ a C q)
  fun C q => wss_cons (ws_if ((h C _ q).mono fun k C1 h1 => by
    cases k with
    | true => exact ht _ hw C1 h1
    | false => exact hf _ hw C1 h1))
def mLoop {α : Type} (f : D → α → (α → MB) → (α → MB) → MB) (after : α → MB) (P : Cells → Prop) : List D → α → MB
  | [], s => fun C => P C ∧ after s C
  | d :: r, s => fun C => P C ∧ f d s (fun s' => mLoop f after P r s') after C
abbrev mFor {α : Type} (I : MI) (f : D → α → (α → MB) → (α → MB) → MB) (s0 : α) (after : α → MB) : MB := fun C => I C fun ds P C1 => mLoop f after P ds s0 C1
theorem loop_mirror {α : Type} {f : D → α → (α → MB) → (α → MB) → MB} {after : α → MB} {P : Cells → Prop} {enc : α → Rho}
    (hb : ∀ d s (nx bk : α → MB) (W V : QS), (∀ a ρ' C, LeR (enc a) ρ' → nx a C → W ρ' C) → (∀ a ρ' C, LeR (enc a) ρ' → bk a C → V ρ' C) → SG T tg d (enc s) body (f d s nx bk) { nx := W, rt := N.rt, bk := V, ct := W })
    (ha : ∀ a ρ' C, LeR (enc a) ρ' → after a C → N.nx ρ' C) : ∀ {ds : List D} {s : α} {ρ : Rho} {C : Cells}, LeR (enc s) ρ → mLoop f after P ds s C → ForW T tg body P N ds ρ C
  | [], s, ρ, C, l, ⟨hp, h⟩ => ⟨hp, ha s ρ C l h⟩
  | d :: r, s, ρ, C, l, ⟨hp, h⟩ => ⟨hp, wg_forget l (hb d s (fun s' => mLoop f after P r s') after (ForW T tg body P N r) N.nx (fun a ρ' C l h => loop_mirror hb ha l h) ha C h)⟩
theorem sb_for {α : Type} {f : D → α → (α → MB) → (α → MB) → MB} {iter : Expr} {I : MI} {s0 : α} {after : α → MB} (enc : α → Rho) (hc : X.calm = true) (hI : SI T tg iter ρ I) (h0 : LeR (enc s0) ρ)
    (hb : ∀ d s (nx bk : α → MB) (W V : QS), (∀ a ρ' C, LeR (enc a) ρ' → nx a C → W ρ' C) → (∀ a ρ' C, LeR (enc a) ρ' → bk a C → V ρ' C) → SG T tg d (enc s) body (f d s nx bk) { nx := W, rt := N.rt, bk := V, ct := W })
    (ha : ∀ s, SB T rest (enc s) (after s) N) (hs : ∀ x, foldedSetIterable iter X.env x = pure x := by intro _; rfl) : SB T (.For tg iter body [] pos :: rest) ρ (mFor I f s0 after) N :=
  fun C q => wss_cons (ws_for hc ((hI C _ q).mono fun ds P C1 h => loop_mirror (N := { N with nx := fun ρ1 C1 => WSs T rest ρ1 C1 N }) hb (fun a ρ' C l h => wss_forget l (ha a C h)) h0 h) hs)
theorem sg_name {d : D} {r : Rho} (j : Nat) (hr : ρ.set j (some d) = r) (h : SB T body r mm N) (hg : PG X (.Name x pos) (gName j)) : SG T (.Name x pos) d ρ body mm N :=
  fun C q => wg_name j (by rw [hr]; exact h C q) hg
def mUn2 (d : D) (f : D → D → MB) : MB := match d with
  | .tup [x, y] => f x y
  | _ => fun _ => False
def mUn3 (d : D) (f : D → D → D → MB) : MB := match d with
  | .tup [x, y, z] => f x y z
  | _ => fun _ => False
def mUn4 (d : D) (f : D → D → D → D → MB) : MB := match d with
  | .tup [x, y, z, u] => f x y z u
  | _ => fun _ => False
def mUn5 (d : D) (f : D → D → D → D → D → MB) : MB := match d with
  | .tup [x, y, z, u, v] => f x y z u v
  | _ => fun _ => False
theorem mUn2_ex {d : D} {f : D → D → MB} (h : mUn2 d f C) : ∃ x y, d = .tup [x, y] ∧ f x y C := by
  unfold mUn2 at h
  split at h
  · exact ⟨_, _, rfl, h⟩
  · exact False.elim h
theorem mUn3_ex {d : D} {f : D → D → D → MB} (h : mUn3 d f C) : ∃ x y z, d = .tup [x, y, z] ∧ f x y z C := by
  unfold mUn3 at h
  split at h
  · exact ⟨_, _, _, rfl, h⟩
  · exact False.elim h
def GsOk (T : TX X) (tgs : List Expr) (ds : List D) (ρ r : Rho) : Prop := ∀ (C : Cells) (Q : QS), Q r C → WGs T tgs ds ρ C Q
theorem gs_nil : GsOk T [] [] ρ ρ := fun C Q q => wgs_nil q
theorem gs_cons {d : D} {ds : List D} {r : Rho} (j : Nat) (hg : PG X (.Name x pos) (gName j)) (h : GsOk T tgs ds (ρ.set j (some d)) r)
    (hs : (assignEach (.Name x pos :: tgs) X.env).map (·.2) = assign (.Name x pos) X.env :: (assignEach tgs X.env).map (·.2) := by rfl) : GsOk T (.Name x pos :: tgs) (d :: ds) ρ r :=
  fun C Q q => wgs_cons (wg_name j (h C Q q) hg) hs
theorem wg_tupG {tgs : List Expr} {kk : Nat} {ds : List D} {Q : QS} {r : Rho} (hc : X.calm = true) (h : GsOk T tgs ds ρ r) (q : Q r C) (hn : (assignEach tgs X.env).length = ds.length) (hst : (assignEach tgs X.env).findIdx? (·.1) = none := by rfl) : WG T (.Tuple tgs kk pos) (.tup ds) ρ C Q :=
  wg_tup hc (h C Q q) rfl hn hst
theorem sg_two {d : D} {kk : Nat} {f : D → D → MB} {r : D → D → Rho} (hc : X.calm = true) (h : ∀ x y, GsOk T tgs [x, y] ρ (r x y)) (hb : ∀ x y, SB T body (r x y) (f x y) N) (hn : (assignEach tgs X.env).length = 2 := by rfl) (hst : (assignEach tgs X.env).findIdx? (·.1) = none := by rfl) : SG T (.Tuple tgs kk pos) d ρ body (mUn2 d f) N :=
  fun C q => by
    obtain ⟨x, y, e, q⟩ := mUn2_ex q
    subst e
    exact wg_tupG hc (h x y) (hb x y C q) hn hst
theorem sg_three {d : D} {kk : Nat} {f : D → D → D → MB} {r : D → D → D → Rho} (hc : X.calm = true) (h : ∀ x y z, GsOk T tgs [x, y, z] ρ (r x y z)) (hb : ∀ x y z, SB T body (r x y z) (f x y z) N) (hn : (assignEach tgs X.env).length = 3 := by rfl) (hst : (assignEach tgs X.env).findIdx? (·.1) = none := by rfl) : SG T (.Tuple tgs kk pos) d ρ body (mUn3 d f) N :=
  fun C q => by
    obtain ⟨x, y, z, e, q⟩ := mUn3_ex q
    subst e
    exact wg_tupG hc (h x y z) (hb x y z C q) hn hst
theorem sb_asg {kk : D → MB} (h : SE T e ρ A) (hk : ∀ d, SG T tg d ρ rest (kk d) N) (hs : swapsWithSole [tg] e pos.line X.env = pure false := by rfl) (hw : swappedStores [tg] e X.env = pure none := by rfl)
    (h1 : (assignEach [tg] X.env).map (·.2) = [assign tg X.env] := by rfl) : SB T (.Assign [tg] e pos :: rest) ρ (mSet A kk) N :=
  fun C q => wss_cons (ws_asg ((h C _ q).mono fun d C1 h1 => hk d C1 h1) hs hw h1)
theorem sb_par {kk : D → D → MB} {r : D → D → Rho} {px py pt pt2 : Pos} {y : Str} {kt k2 : Nat} (i j : Nat) (hN : X.N.Nodup) (hi : X.N[i]? = some x) (hj : X.N[j]? = some y) (hij : i ≠ j) (hx : X.env.scope.names.lookup x = some .local) (hy : X.env.scope.names.lookup y = some .local)
    (hw : swappedStores [.Tuple [.Name x px, .Name y py] kt pt] (.Tuple [a, b] k2 pt2) X.env = pure (some [x, y])) (ha : SE T a ρ A) (hb : SE T b ρ B) (hr : ∀ d d2, (ρ.set i (some d)).set j (some d2) = r d d2) (hk : ∀ d d2, SB T rest (r d d2) (kk d d2) N)
    (hs : swapsWithSole [.Tuple [.Name x px, .Name y py] kt pt] (.Tuple [a, b] k2 pt2) pos.line X.env = pure false := by rfl) (hc : X.calm = true := by rfl)
    (hst : starEach [a, b] X.env = (false, eval a X.env) :: starEach [b] X.env := by rfl) (hst2 : starEach [b] X.env = (false, eval b X.env) :: starEach [] X.env := by rfl) :
    SB T (.Assign [.Tuple [.Name x px, .Name y py] kt pt] (.Tuple [a, b] k2 pt2) pos :: rest) ρ (mSet A fun d => mSet B fun d2 => kk d d2) N :=
  fun C q => wss_cons (ws_par i j hN hi hj hij hx hy hw (wa_cons ((ha C _ q).mono fun d C1 h1 => wa_cons ((hb C1 _ h1).mono fun d2 C2 h2 => wa_nil ⟨d, d2, rfl, by show WSs T rest _ C2 N; rw [hr]; exact hk d d2 C2 h2⟩) hst2) hst) hs hc)
end
end Tr

set_option maxHeartbeats 4000000
namespace Tr
open PySem L2 PySem.Spec PyProof.Rows
section
variable {X : Cx} {T : TX X} {ρ ρ' : Rho} {C : Cells} {N : TEnds} {e a b c o i elt : Expr} {pos pos' p p2 apos cpos : Pos} {es tgs : List Expr} {st : Stmt} {rest body tb fb : List Stmt} {x m : Str} {A B A' : ME} {AS : MA} {mt mf mm : MB} {Q : QE}

def oAdd : D → D → ME
  | .int i, .int j => fun C Q => Q (.int (i + j)) C
  | .str x, .str y => fun C Q => x.length + y.length ≤ 100000 ∧ Q (.str (x ++ y)) C
  | .tup xs, .tup ys => fun C Q => xs.length + ys.length ≤ 100000 ∧ Q (.tup (xs ++ ys)) C
  | .lst xs, .lst ys => fun C Q => xs.length + ys.length ≤ 100000 ∧ Q (.lst (xs ++ ys)) C
  | x, y => fun C Q => ∃ xs ys, LstD C x xs ∧ LstD C y ys ∧ xs.length + ys.length ≤ 100000 ∧ Q (.lst (xs ++ ys)) C
theorem oAdd_ok (x y : D) (C : Cells) (Q : QE) (h : oAdd x y C Q) : OW T (binaryOp .Add) x y C Q := by
  unfold oAdd at h
  split at h
  · exact ow_add h
  · exact ow_add_str h.1 h.2
  · exact ow_catT h.1 h.2
  · exact ow_cat .l .l h.1 h.2
  · obtain ⟨xs, ys, h1, h2, h3, h4⟩ := h; exact ow_cat h1 h2 h3 h4
def oSub : D → D → ME
  | .int i, .int j => fun C Q => Q (.int (i - j)) C
  | _, _ => fun _ _ => False
def oMul : D → D → ME
  | .int i, .int j => fun C Q => CMul i j ∧ Q (.int (i * j)) C
  | _, _ => fun _ _ => False
theorem oMul_ok (x y : D) (C : Cells) (Q : QE) (h : oMul x y C Q) : OW T (binaryOp .Mult) x y C Q := by
  unfold oMul at h; split at h
  · exact ow_mul h.1 h.2
  · exact h.elim
def oFdiv : D → D → ME
  | .int i, .int j => fun C Q => (0 < j ∧ j < 1073741824) ∧ Q (.int (i / j)) C
  | _, _ => fun _ _ => False
theorem oFdiv_ok (x y : D) (C : Cells) (Q : QE) (h : oFdiv x y C Q) : OW T (binaryOp .FloorDiv) x y C Q := by
  unfold oFdiv at h; split at h
  · exact ow_fdiv h.1 h.2
  · exact h.elim
def oMod : D → D → ME
  | .int i, .int j => fun C Q => 0 < j ∧ Q (.int (i % j)) C
  | _, _ => fun _ _ => False
theorem oMod_ok (x y : D) (C : Cells) (Q : QE) (h : oMod x y C Q) : OW T (binaryOp .Mod) x y C Q := by
  unfold oMod at h; split at h
  · exact ow_mod h.1 h.2
  · exact h.elim
def oPow : D → D → ME
  | .int i, .int j => fun C Q => CPow i j ∧ Q (.int (i ^ j.toNat)) C
  | _, _ => fun _ _ => False
theorem oPow_ok (x y : D) (C : Cells) (Q : QE) (h : oPow x y C Q) : OW T (binaryOp .Pow) x y C Q := by
  unfold oPow at h; split at h
  · exact ow_pow h.1 h.2
  · exact h.elim
def oLt : D → D → ME
  | .int i, .int j => fun C Q => Q (.bl (decide (i < j))) C
  | .str x, .str y => fun C Q => Q (.bl (decide (x.cps.toList < y.cps.toList))) C
  | _, _ => fun _ _ => False
def oLe : D → D → ME
  | .int i, .int j => fun C Q => Q (.bl (decide (i ≤ j))) C
  | .str x, .str y => fun C Q => Q (.bl (!decide (y.cps.toList < x.cps.toList))) C
  | _, _ => fun _ _ => False
def oGt : D → D → ME
  | .int i, .int j => fun C Q => Q (.bl (decide (j < i))) C
  | _, _ => fun _ _ => False
theorem oGt_ok (x y : D) (C : Cells) (Q : QE) (h : oGt x y C Q) : OW T (compareOp .Gt) x y C Q := by
  unfold oGt at h; split at h
  · exact ow_gt h
  · exact h.elim
def oGe : D → D → ME
  | .int i, .int j => fun C Q => Q (.bl (decide (j ≤ i))) C
  | _, _ => fun _ _ => False
theorem oGe_ok (x y : D) (C : Cells) (Q : QE) (h : oGe x y C Q) : OW T (compareOp .GtE) x y C Q := by
  unfold oGe at h; split at h
  · exact ow_ge h
  · exact h.elim
def oEq (own : D → D → ME) : D → D → ME
  | .int i, .int j => fun C Q => Q (.bl (decide (i = j))) C
  | .str x, .str y => fun C Q => Q (.bl (decide (x = y))) C
  | .bl x, .bl y => fun C Q => Q (.bl (x == y)) C
  | x, y => fun C Q => (∃ p1 p2, PyR C x p1 ∧ PyR C y p2 ∧ SeqAt.shaped p1 = true ∧ SeqAt.shaped p2 = true ∧ Q (.bl (PyData.eqv p1 p2)) C) ∨ own x y C Q
theorem oEq_ok {own : D → D → ME} (hu : X.A.units + 64 < cLine) (ho : ∀ x y C Q, own x y C Q → OW T (compareOp .Eq) x y C Q) (x y : D) (C : Cells) (Q : QE) (h : oEq own x y C Q) : OW T (compareOp .Eq) x y C Q := by
  unfold oEq at h; split at h
  · exact ow_eq_int h
  · exact ow_eq_str h
  · exact ow_eq_bl h
  · rcases h with ⟨p1, p2, h1, h2, h3, h4, h5⟩ | h
    · exact ow_eq hu h1 h2 h3 h4 h5
    · exact ho _ _ _ _ h
def oNe (own : D → D → ME) : D → D → ME
  | .int i, .int j => fun C Q => Q (.bl (!decide (i = j))) C
  | .str x, .str y => fun C Q => Q (.bl (!decide (x = y))) C
  | .bl x, .bl y => fun C Q => Q (.bl (x != y)) C
  | x, y => fun C Q => (∃ p1 p2, PyR C x p1 ∧ PyR C y p2 ∧ SeqAt.shaped p1 = true ∧ SeqAt.shaped p2 = true ∧ Q (.bl (!PyData.eqv p1 p2)) C) ∨ own x y C Q
theorem oNe_ok {own : D → D → ME} (hu : X.A.units + 64 < cLine) (ho : ∀ x y C Q, own x y C Q → OW T (compareOp .NotEq) x y C Q) (x y : D) (C : Cells) (Q : QE) (h : oNe own x y C Q) : OW T (compareOp .NotEq) x y C Q := by
  unfold oNe at h; split at h
  · exact ow_ne_int h
  · exact ow_ne_str h
  · exact ow_ne_bl h
  · rcases h with ⟨p1, p2, h1, h2, h3, h4, h5⟩ | h
    · exact ow_ne hu h1 h2 h3 h4 h5
    · exact ho _ _ _ _ h
abbrev noOwn : D → D → ME := fun _ _ _ _ => False
theorem noOwn_ok {f : Value → Value → Sem Value} (x y : D) (C : Cells) (Q : QE) (h : noOwn x y C Q) : OW T f x y C Q := h.elim
def oIs : D → D → ME
  | .bl x, .bl y => fun C Q => Q (.bl (decide (x = y))) C
  | .raw (.ref _), .non => fun C Q => Q (.bl false) C
  | d, .non => fun C Q => (∀ w, d ≠ .raw w) ∧ Q (.bl (isNon d)) C
  | _, _ => fun _ _ => False
def oIsNot : D → D → ME
  | .bl x, .bl y => fun C Q => Q (.bl (!decide (x = y))) C
  | .raw (.ref _), .non => fun C Q => Q (.bl true) C
  | d, .non => fun C Q => (∀ w, d ≠ .raw w) ∧ Q (.bl (!isNon d)) C
  | _, _ => fun _ _ => False
def oIn (x y : D) : ME := fun C Q => (∃ ds, SeqD C y ds ∧ flatD x = true ∧ ds.all flatD = true ∧ Q (.bl (inD x ds)) C) ∨ (∃ n z, x = .str ⟨#[n]⟩ ∧ y = .str z ∧ Q (.bl (decide (n ∈ z.cps.toList))) C)
theorem oIn_ok (x y : D) (C : Cells) (Q : QE) (h : oIn x y C Q) : OW T (compareOp .In) x y C Q := by
  rcases h with ⟨ds, h1, h2, h3, h4⟩ | ⟨n, z, rfl, rfl, h⟩
  · exact ow_in h1 h2 h3 h4
  · exact ow_inSign h
def oNotIn (x y : D) : ME := fun C Q => ∃ ds, SeqD C y ds ∧ flatD x = true ∧ ds.all flatD = true ∧ Q (.bl (!inD x ds)) C
theorem oNotIn_ok (x y : D) (C : Cells) (Q : QE) (h : oNotIn x y C Q) : OW T (compareOp .NotIn) x y C Q := by
  obtain ⟨ds, h1, h2, h3, h4⟩ := h
  exact ow_notIn h1 h2 h3 h4

abbrev no1 : D → ME := fun _ _ _ => False
def pLen1 (own : D → ME) : D → ME
  | .lst ds => fun C Q => Q (.int ds.length) C
  | .tup ds => fun C Q => Q (.int ds.length) C
  | .str s => fun C Q => s.length ≤ 100000 ∧ Q (.int s.length) C
  | d => fun C Q => (∃ ds, LstD C d ds ∧ Q (.int ds.length) C) ∨ own d C Q
def on1 (P : D → ME) : List D → ME
  | [d] => P d
  | _ => fun _ _ => False
def on2 (P : D → D → ME) : List D → ME
  | [d, d2] => P d d2
  | _ => fun _ _ => False
theorem on1_ok {P : D → ME} {f : Value} (h : ∀ d C Q, P d C Q → CW T f [d] C Q) (ds : List D) (C : Cells) (Q : QE) (q : on1 P ds C Q) : CW T f ds C Q := by
  unfold on1 at q; split at q
  · exact h _ _ _ q
  · exact q.elim
theorem on2_ok {P : D → D → ME} {f : Value} (h : ∀ d d2 C Q, P d d2 C Q → CW T f [d, d2] C Q) (ds : List D) (C : Cells) (Q : QE) (q : on2 P ds C Q) : CW T f ds C Q := by
  unfold on2 at q; split at q
  · exact h _ _ _ _ q
  · exact q.elim
theorem no1_ok {f : Value} (d : D) (C : Cells) (Q : QE) (q : no1 d C Q) : CW T f [d] C Q := q.elim
theorem pLen_ok {own : D → ME} (ho : ∀ d C Q, own d C Q → CW T (.builtin "len") [d] C Q) (ds : List D) (C : Cells) (Q : QE) (h : on1 (pLen1 own) ds C Q) : CW T (.builtin "len") ds C Q :=
  on1_ok (fun d C Q h => by
    unfold pLen1 at h; split at h
    · exact cw_len .l h
    · exact cw_len .t h
    · exact cw_len_str h.1 h.2
    · rcases h with ⟨ds, h1, h2⟩ | h
      · exact cw_len (.inl h1) h2
      · exact ho _ _ _ h) ds C Q h
def pStr1 (own : D → ME) : D → ME
  | .str s => fun C Q => Q (.str s) C
  | .int i => fun C Q => i.natAbs.log2 < 1920 ∧ Q (.str (toString i)) C
  | d => own d
theorem pStr_ok {own : D → ME} (ho : ∀ d C Q, own d C Q → CW T (.type "str") [d] C Q) (ds : List D) (C : Cells) (Q : QE) (h : on1 (pStr1 own) ds C Q) : CW T (.type "str") ds C Q :=
  on1_ok (fun d C Q h => by
    unfold pStr1 at h; split at h
    · exact cw_str_str h
    · exact cw_str_int h.1 h.2
    · exact ho _ _ _ h) ds C Q h
def pInt1 : D → ME
  | .int i => fun C Q => Q (.int i) C
  | .bl k => fun C Q => Q (.int (if k then 1 else 0)) C
  | .str s => fun C Q => s.length ≤ 640 ∧ ∃ n, intText? s = some n ∧ Q (.int n) C
  | _ => fun _ _ => False
theorem pInt_ok (ds : List D) (C : Cells) (Q : QE) (h : on1 pInt1 ds C Q) : CW T (.type "int") ds C Q :=
  on1_ok (fun d C Q h => by
    unfold pInt1 at h; split at h
    · exact cw_int h
    · exact cw_int_bl h
    · obtain ⟨h1, n, h2, h3⟩ := h; exact cw_int_str h2 h1 h3
    · exact h.elim) ds C Q h
def pList1 : D → ME
  | .lst ds => fun C Q => Q (.lst ds) C
  | .tup ds => fun C Q => Q (.lst ds) C
  | d => fun C Q => ∃ ds, SeqD C d ds ∧ Q (.lst ds) C
def pListC1 : D → ME
  | .lst ds => fun C Q => ∀ p, Q (.raw (.ref p)) ((p, .lst ds) :: C)
  | .tup ds => fun C Q => ∀ p, Q (.raw (.ref p)) ((p, .lst ds) :: C)
  | d => fun C Q => ∃ ds, SeqD C d ds ∧ ∀ p, Q (.raw (.ref p)) ((p, .lst ds) :: C)
def pTuple1 : D → ME
  | .lst ds => fun C Q => Q (.tup ds) C
  | .tup ds => fun C Q => Q (.tup ds) C
  | d => fun C Q => ∃ ds, SeqD C d ds ∧ Q (.tup ds) C
theorem pTuple_ok (ds : List D) (C : Cells) (Q : QE) (h : on1 pTuple1 ds C Q) : CW T (.type "tuple") ds C Q :=
  on1_ok (fun d C Q h => by
    unfold pTuple1 at h; split at h
    · exact cw_tuple .l h
    · exact cw_tuple .t h
    · obtain ⟨ds, h1, h2⟩ := h; exact cw_tuple h1 h2) ds C Q h
def pAll1 (d : D) : ME := fun C Q => ∃ bs : List Bool, d = .lst (bs.map D.bl) ∧ Q (.bl (bs.all id)) C
def pAny1 (d : D) : ME := fun C Q => ∃ bs : List Bool, d = .lst (bs.map D.bl) ∧ Q (.bl (bs.any id)) C
theorem pAll_ok (hc : X.calm = true) (ds : List D) (C : Cells) (Q : QE) (h : on1 pAll1 ds C Q) : CW T (.builtin "all") ds C Q :=
  on1_ok (fun d C Q ⟨bs, h1, h2⟩ => by subst h1; exact cw_all hc h2) ds C Q h
def pAbs1 : D → ME
  | .int i => fun C Q => Q (.int (if i < 0 then -i else i)) C
  | _ => fun _ _ => False
theorem pAbs_ok (ds : List D) (C : Cells) (Q : QE) (h : on1 pAbs1 ds C Q) : CW T (.builtin "abs") ds C Q :=
  on1_ok (fun d C Q h => by
    unfold pAbs1 at h; split at h
    · exact cw_abs h
    · exact h.elim) ds C Q h
def pMax2 : D → D → ME
  | .int i, .int j => fun C Q => Q (.int (if j > i then j else i)) C
  | _, _ => fun _ _ => False
def pIsI (K : W.Frag) (x y : D) : ME := fun C Q => (∃ t u b, ClsD y u ∧ TyD K C x t ∧ W.kitOne K t u = some b ∧ Q (.bl b) C) ∨ (∃ ds t us b, y = .tup ds ∧ Paired ClsD ds us ∧ TyD K C x t ∧ W.kitAny K t us = some b ∧ Q (.bl b) C)
theorem pIsI_ok {K : W.Frag} (hK : X.K = K := by rfl) (ds : List D) (C : Cells) (Q : QE) (h : on2 (pIsI K) ds C Q) : CW T (.builtin "isinstance") ds C Q := by
  subst hK
  exact on2_ok (fun d d2 C Q h => by
    rcases h with ⟨t, u, b, h1, h2, h3, h4⟩ | ⟨es, t, us, b, rfl, h1, h2, h3, h4⟩
    · exact cw_isi h1 h2 h3 h4
    · exact cw_isiT h1 h2 h3 h4) ds C Q h
structure ShowOk (p : PyData) : Prop where
  lay : p.canLay0 = true
  sh : p.showable = true
  nd : p.hasDict = false
  shi : p.intsShort 12 = true
structure ShowsOk (ps : List PyData) : Prop where
  lay : PyData.canLayAll0 ps = true
  sh : PyData.showableAll ps = true
  nd : PyData.hasDictAll ps = false
  shi : PyData.intsShortAll 12 ps = true
theorem ShowsOk.nil : ShowsOk [] := ⟨rfl, rfl, rfl, rfl⟩
theorem ShowsOk.cons {p : PyData} {ps : List PyData} (h : ShowOk p) (t : ShowsOk ps) : ShowsOk (p :: ps) :=
  ⟨by rw [PyData.canLayAll0, h.lay, t.lay]; rfl, by rw [PyData.showableAll, h.sh, t.sh]; rfl, by rw [PyData.hasDictAll, h.nd, t.nd]; rfl, by rw [PyData.intsShortAll, h.shi, t.shi]; rfl⟩
theorem ShowOk.tup {ps : List PyData} (t : ShowsOk ps) : ShowOk (.tuple ps) := ⟨by rw [PyData.canLay0]; exact t.lay, by rw [PyData.showable]; exact t.sh, by rw [PyData.hasDict]; exact t.nd, by rw [PyData.intsShort]; exact t.shi⟩
theorem ShowOk.lst {ps : List PyData} (t : ShowsOk ps) : ShowOk (.list ps) := ⟨by rw [PyData.canLay0]; exact t.lay, by rw [PyData.showable]; exact t.sh, by rw [PyData.hasDict]; exact t.nd, by rw [PyData.intsShort]; exact t.shi⟩
theorem shorts : ∀ xs : List Str, PyData.intsShortAll 12 (toPys (xs.map D.str)) = true
  | [] => rfl
  | x :: xs => by
    show PyData.intsShortAll 12 (toPy (.str x) :: toPys (xs.map D.str)) = true
    rw [PyData.intsShortAll, shorts xs]; rfl
theorem ShowsOk.strs {xs : List Str} (h : ∀ x ∈ xs, PyData.strOk x = true) : ShowsOk (toPys (xs.map D.str)) := ⟨(lay_strs h).1, (show_strs h).1, (show_strs h).2.1, shorts xs⟩
theorem ShowOk.str {x : Str} (h : PyData.strOk x = true) : ShowOk (.str x) := by
  have z := ShowsOk.strs (xs := [x]) (by simpa using h)
  obtain ⟨a, b, c, d⟩ := z
  simp only [List.map, toPys, toPy, PyData.canLayAll0, PyData.showableAll, PyData.hasDictAll, PyData.intsShortAll, Bool.and_true, Bool.or_false] at a b c d
  exact ⟨a, b, c, d⟩

variable {k : Nat} {f Cl : Addr} {fd : FuncData} {ps : List Str} {F : FS} {Xq : QX}
def callN (F : FS) (ds : List D) : ME := fun C Q => ∃ μ r, C.Perm (μ ++ r) ∧ F ds μ (fun d μ' => Q d (μ' ++ r)) fun _ _ _ => False
theorem callN.asks {ds : List D} (h : callN F ds C Q) : AsksN (up F) ds C Q := let ⟨μ, r, pm, z⟩ := h; ⟨μ, r, pm, _, _, z, fun _ _ q => q, fun _ _ _ q => q⟩
theorem AsksN.mono {ds : List D} {Q' : QE} (h : AsksN (up F) ds C Q) (i : ∀ d C, Q d C → Q' d C) : AsksN (up F) ds C Q' :=
  let ⟨μ, r, pm, Q1, Qx1, z, i1, i2⟩ := h; ⟨μ, r, pm, Q1, Qx1, z, fun d C' q => i _ _ (i1 d C' q), i2⟩
def ownB (K : W.Frag) (Cl : Addr) (F : FS) (neg : Bool) (x y : D) : ME := fun C Q => ∃ ns ds t, InsD C x Cl ns ds ∧ TyD K C y t ∧ W.notFirst K Cl t = true ∧ callN F [x, y] C fun d C' => pTru d C' fun j C'' => Q (.bl (if neg then !j else j)) C''
theorem ownEq_ok {K : W.Frag} (hs : W.findIn K (.ref Cl) "__eq__" = some (some (.ref f))) (hf : W.isFn K (.ref f) = true) (Fk : FnG X.prog X.w K X.mg X.base k f fd ps F) (hr : RoomG k X.A) (hb : Binds K fd ps []) (hK : X.K = K := by rfl)
    (x y : D) (C : Cells) (Q : QE) (h : ownB K Cl F false x y C Q) : OW T (compareOp .Eq) x y C Q := by
  subst hK
  obtain ⟨ns, ds, t, h1, h2, h3, h4⟩ := h
  exact ow_own (fun _ _ => rfl) hs hf h3 Fk.up hr hb h1 h2 (AsksN.mono h4.asks fun d C q => pTru_ex q)
theorem ownNe_ok {K : W.Frag} (hne : W.findIn K (.ref Cl) "__ne__" = some (some (.builtin "object.__ne__"))) (ho : W.mroIn K Cl (.type "object") = some true) (hs : W.findIn K (.ref Cl) "__eq__" = some (some (.ref f))) (hf : W.isFn K (.ref f) = true) (Fk : FnG X.prog X.w K X.mg X.base k f fd ps F) (hr : RoomG (k + 1) X.A) (hb : Binds K fd ps []) (hK : X.K = K := by rfl)
    (x y : D) (C : Cells) (Q : QE) (h : ownB K Cl F true x y C Q) : OW T (compareOp .NotEq) x y C Q := by
  subst hK
  obtain ⟨ns, ds, t, h1, h2, h3, h4⟩ := h
  exact ow_neOwn hne hs hf h3 ho Fk.up hr hb h1 h2 (AsksN.mono h4.asks fun d C q => pTru_ex q)
def ownLen (Cl : Addr) (F : FS) (x : D) : ME := fun C Q => ∃ ns ds, InsD C x Cl ns ds ∧ callN F [x] C fun d C' => ∃ n : Nat, d = .int n ∧ n ≤ 1000000 ∧ Q (.int n) C'
theorem ownLen_ok {K : W.Frag} (hs : W.findIn K (.ref Cl) "__len__" = some (some (.ref f))) (hf : W.isFn K (.ref f) = true) (Fk : FnG X.prog X.w K X.mg X.base k f fd ps F) (hr : RoomG (k + 1) X.A) (hb : Binds K fd ps []) (hK : X.K = K := by rfl)
    (x : D) (C : Cells) (Q : QE) (h : ownLen Cl F x C Q) : CW T (.builtin "len") [x] C Q := by
  subst hK
  obtain ⟨ns, ds, h1, h2⟩ := h
  exact cw_lenOwn hs hf Fk.up hr hb h1 h2.asks
def ownStr (Cl : Addr) (F : FS) (x : D) : ME := fun C Q => ∃ ns ds, InsD C x Cl ns ds ∧ callN F [x] C fun d C' => ∃ z : Str, d = .str z ∧ Q (.str z) C'
theorem ownStr_ok {K : W.Frag} (hs : W.findIn K (.ref Cl) "__str__" = some (some (.ref f))) (hf : W.isFn K (.ref f) = true) (Fk : FnG X.prog X.w K X.mg X.base k f fd ps F) (hr : RoomG (k + 2) X.A) (hb : Binds K fd ps []) (hK : X.K = K := by rfl)
    (x : D) (C : Cells) (Q : QE) (h : ownStr Cl F x C Q) : CW T (.type "str") [x] C Q := by
  subst hK
  obtain ⟨ns, ds, h1, h2⟩ := h
  exact cw_strOwn hs hf Fk.up hr hb h1 h2.asks
def onStr {β : Sort _} (d : D) (k : Str → Cells → β → Prop) : Cells → β → Prop := match d with
  | .str s => k s
  | _ => fun _ _ => False
theorem onStr_ex {β : Sort _} {d : D} {k : Str → Cells → β → Prop} {q : β} (h : onStr d k C q) : ∃ s, d = .str s ∧ k s C q := by
  cases d with
  | str s => exact ⟨s, rfl, h⟩
  | _ => exact h.elim
abbrev eStr1 (A B : ME) (O : Str → D → ME) : ME := fun C Q => A C fun d C1 => onStr d (fun s C1 Q => B C1 fun y C2 => O s y C2 Q) C1 Q
def pSplit (s : Str) (y : D) : ME := onStr y fun t C Q => (t.length == 0) = false ∧ s.length ≤ 100000 ∧ Q (.lst ((Txt.split s t).map D.str)) C
def pPart (s : Str) (y : D) : ME := onStr y fun t C Q => (t.length == 0) = false ∧ s.length ≤ 100000 ∧ Q (.tup [.str (Txt.partition s t).1, .str (Txt.partition s t).2.1, .str (Txt.partition s t).2.2]) C
def pStarts (s : Str) (y : D) : ME := onStr y fun t C Q => Q (.bl (Txt.startswith s t)) C
def pJoin (s : Str) (y : D) : ME := fun C Q => ∃ ys : List Str, SeqD C y (ys.map D.str) ∧ (ys.map (·.length)).sum + ys.length * s.length ≤ 100000 ∧ Q (.str (Txt.join s ys)) C
theorem se_split (ho : SE T o ρ A) (he : SE T e ρ B) (hs : starEach [e] X.env = [(false, eval e X.env)] := by rfl) (hbase : attributeBase o "split" X.env (eval o X.env) = eval o X.env := by rfl) (hline : (apos.endLine == pos.line) = true := by rfl) : SE T (.Call (.Attribute o "split" apos) [e] [] pos) ρ (eStr1 A B pSplit) :=
  fun C Q q => we_split ((ho C _ q).mono fun d C1 h1 => by
    obtain ⟨s, e1, h1⟩ := onStr_ex h1
    exact ⟨s, e1, (he C1 _ h1).mono fun y C2 h2 => by obtain ⟨t, e2, h2⟩ := onStr_ex h2; exact ⟨t, e2, h2⟩⟩) hs hbase hline
theorem se_partition (ho : SE T o ρ A) (he : SE T e ρ B) (hs : starEach [e] X.env = [(false, eval e X.env)] := by rfl) (hbase : attributeBase o "partition" X.env (eval o X.env) = eval o X.env := by rfl) (hline : (apos.endLine == pos.line) = true := by rfl) : SE T (.Call (.Attribute o "partition" apos) [e] [] pos) ρ (eStr1 A B pPart) :=
  fun C Q q => we_partition ((ho C _ q).mono fun d C1 h1 => by
    obtain ⟨s, e1, h1⟩ := onStr_ex h1
    exact ⟨s, e1, (he C1 _ h1).mono fun y C2 h2 => by obtain ⟨t, e2, h2⟩ := onStr_ex h2; exact ⟨t, e2, h2⟩⟩) hs hbase hline
theorem se_startswith (ho : SE T o ρ A) (he : SE T e ρ B) (hs : starEach [e] X.env = [(false, eval e X.env)] := by rfl) (hbase : attributeBase o "startswith" X.env (eval o X.env) = eval o X.env := by rfl) (hline : (apos.endLine == pos.line) = true := by rfl) : SE T (.Call (.Attribute o "startswith" apos) [e] [] pos) ρ (eStr1 A B pStarts) :=
  fun C Q q => we_startswith ((ho C _ q).mono fun d C1 h1 => by
    obtain ⟨s, e1, h1⟩ := onStr_ex h1
    exact ⟨s, e1, (he C1 _ h1).mono fun y C2 h2 => by obtain ⟨t, e2, h2⟩ := onStr_ex h2; exact ⟨t, e2, h2⟩⟩) hs hbase hline
theorem se_join (ho : SE T o ρ A) (he : SE T e ρ B) (hs : starEach [e] X.env = [(false, eval e X.env)] := by rfl) (hbase : attributeBase o "join" X.env (eval o X.env) = eval o X.env := by rfl) (hline : (apos.endLine == pos.line) = true := by rfl) : SE T (.Call (.Attribute o "join" apos) [e] [] pos) ρ (eStr1 A B pJoin) :=
  fun C Q q => we_join ((ho C _ q).mono fun d C1 h1 => by
    obtain ⟨s, e1, h1⟩ := onStr_ex h1
    exact ⟨s, e1, (he C1 _ h1).mono fun y C2 ⟨ys, h3, h4, h5⟩ => ⟨ys, h3, h4, h5⟩⟩) hs hbase hline

abbrev MJ := Str → Cells → (Str → Cells → Prop) → Prop
def SJ (T : TX X) (es : List Expr) (ρ : Rho) (J : MJ) : Prop := ∀ acc C Q, J acc C Q → WJ T es acc ρ C Q
abbrev jNil : MJ := fun acc C Q => Q acc C
abbrev jCons (A : ME) (J : MJ) : MJ := fun acc C Q => A C fun d C1 => onStr d (fun y C1 Q => (acc ++ y).length ≤ 100000 ∧ J (acc ++ y) C1 Q) C1 Q
theorem sj_nil : SJ T [] ρ jNil := fun acc C Q q => wj_nil q
theorem sj_cons {J : MJ} (h : SE T e ρ A) (hj : SJ T es ρ J) : SJ T (e :: es) ρ (jCons A J) := fun acc C Q q => wj_cons ((h C _ q).mono fun d C1 h1 => by
  obtain ⟨y, e1, h2, h3⟩ := onStr_ex h1
  exact ⟨y, e1, h2, hj _ _ _ h3⟩)
abbrev eJoin (J : MJ) : ME := fun C Q => J Str.empty C fun out C1 => Q (.str out) C1
theorem se_joined {J : MJ} {v1 v2 : Expr} {r : List Expr} (h : SJ T (v1 :: v2 :: r) ρ J) : SE T (.JoinedStr (v1 :: v2 :: r) pos) ρ (eJoin J) := fun C Q q => we_joined (h _ _ _ q)
def pFmt : D → ME
  | .str y => fun C Q => y.length ≤ 100000 ∧ Q (.str y) C
  | .int i => fun C Q => i.natAbs.log2 < 1920 ∧ Q (.str (toString i)) C
  | _ => fun _ _ => False
theorem se_fmt (h : SE T e ρ A) : SE T (.FormattedValue e (-1) none pos) ρ (eApp A pFmt) := fun C Q q => we_fmt ((h C _ q).mono fun d C1 h1 => by
  cases d with
  | str y => exact .inl ⟨y, rfl, h1⟩
  | int i => exact .inr ⟨i, rfl, h1⟩
  | _ => exact h1.elim)

def isL (d : D) (C : Cells) : Prop := ∃ z ds, d = .raw (.ref z) ∧ (z, Cell.lst ds) ∈ C
def pApp (od d : D) : ME := fun C Q => ∃ (i : Nat) (z : Addr) (ds : List D), od = .raw (.ref z) ∧ C[i]? = some (z, .lst ds) ∧ ds.length < 100000 ∧ Q .non (C.set i (z, .lst (ds ++ [d])))
abbrev eL1 (A B : ME) (O : D → D → ME) : ME := fun C Q => A C fun od C1 => isL od C1 ∧ B C1 fun d C2 => O od d C2 Q
theorem se_append (ho : SE T o ρ A) (ha : SE T a ρ B)
    (hbase : attributeBase o "append" X.env (eval o X.env) = eval o X.env := by rfl) (hline : (apos.endLine == cpos.line) = true := by rfl) (hs : starEach [a] X.env = (false, eval a X.env) :: starEach [] X.env := by rfl)
    (hfew : ((backTo cpos (starEach [a] X.env)).all (fun x => !x.1) && (backToKw cpos (keywordEach [] X.env)).all (fun x => x.1.isSome)
      && decide (([a] : List Expr).length + ([] : List Keyword).length + (if ([] : List Keyword).isEmpty then 0 else 1) < 30)) = true := by rfl) (hplain : (backTo cpos (starEach [] X.env)).any (·.1) = false := by rfl) :
    SE T (.Call (.Attribute o "append" apos) [a] [] cpos) ρ (eL1 A B pApp) := fun C Q q => by
  have h : Tr.WE T o ρ C fun od C1 => isL od C1 ∧ Tr.WE T a ρ C1 fun d C2 => pApp od d C2 Q := (ho C _ q).mono fun od C1 ⟨h1, h2⟩ => ⟨h1, ha C1 _ h2⟩
  refine PE.imp (pe_bm F.plainAttrs_list F.slot_list_append F.type_list_append mt_append h (pa_cons (pe_some T ρ a) pa_nil hs) hbase hfew hline hs hplain) fun σ H R ⟨H0, at_, k⟩ => ⟨H0, at_, fun v od C1 H1 H01 p1 c1 r1 ⟨⟨z, ds, e1, hz⟩, hw⟩ => ?_⟩
  subst e1
  obtain rfl : v = .ref z := r1
  obtain ⟨vs, g1, g2⟩ := c1.ok z _ hz
  refine ⟨.inl ⟨rfl, vs, .inl (.inl g1)⟩, C1, _, hw, H01, at_.step p1 c1, fun v2 d C2 H2 H02 p2 c2 r2 ⟨i, z2, ds2, ez, hi2, hl, q⟩ => ?_⟩
  cases ez
  obtain ⟨vs2, f1, f2⟩ := c2.ok z _ (List.mem_iff_getElem?.mpr ⟨i, hi2⟩)
  refine ⟨z, vs2, v2, rfl, rfl, f1, ?_, ?_⟩
  · rw [← f2.length]; exact Nat.lt_trans hl (by decide)
  · obtain ⟨p3, c3⟩ := stp_write (o := .lst (vs2 ++ [v2])) c2 hi2 (c' := .lst (ds2 ++ [d])) ⟨_, upd_same, f2.append (Reps.cons r2 Reps.nil)⟩
    exact k _ .non _ _ _ ((p1.trans c1 p2).trans c2 p3) c3 rfl q
def pPop (od : D) : ME := fun C Q => ∃ (i : Nat) (z : Addr) (ds : List D) (d : D), od = .raw (.ref z) ∧ C[i]? = some (z, .lst (ds ++ [d])) ∧ Q d (C.set i (z, .lst ds))
theorem se_pop (ho : SE T o ρ A) (hbase : attributeBase o "pop" X.env (eval o X.env) = eval o X.env := by rfl) (hline : (apos.endLine == cpos.line) = true := by rfl) :
    SE T (.Call (.Attribute o "pop" apos) [] [] cpos) ρ (eApp A pPop) := fun C Q q => by
  refine PE.imp (pe_bm0 F.plainAttrs_list F.slot_list_pop F.type_list_pop mt_pop (ho C _ q) hbase hline) fun σ H R ⟨H0, at_, k⟩ => ⟨H0, at_, fun v od C1 H1 H01 p1 c1 r1 ⟨i, z, ds, d, e1, hi, q⟩ => ?_⟩
  subst e1
  obtain rfl : v = .ref z := r1
  obtain ⟨vs, g1, g2⟩ := c1.ok z _ (List.mem_iff_getElem?.mpr ⟨i, hi⟩)
  obtain ⟨vs1, vs2, e2, f1, f2⟩ := g2.split
  obtain ⟨v2, e3, f3⟩ := f2.one
  subst e3; subst e2
  refine ⟨.inl ⟨rfl, _, .inl (.inl g1)⟩, z, _, v2, rfl, rfl, g1, by simp, ?_⟩
  obtain ⟨p3, c3⟩ := stp_write (o := .lst vs1) c1 hi (c' := .lst ds) ⟨_, upd_same, f1⟩
  rw [List.dropLast_concat]
  exact k v2 d _ _ _ (p1.trans c1 p3) c3 f3 q
abbrev mSub (A B : ME) (d : D) (mm : MB) : MB := fun C => A C fun od C1 => B C1 fun id C2 => ∃ (j : Nat) (z : Addr) (ds : List D) (k : Int) (n : Nat), od = .raw (.ref z) ∧ id = .int k ∧ C2[j]? = some (z, .lst ds) ∧ ixN ds.length k = some n ∧ mm (C2.set j (z, .lst (ds.set n d)))
theorem sg_sub {d : D} (ho : SE T o ρ A) (hb : SE T b ρ B) (h : SB T body ρ mm N)
    (ha : ∀ v, assign (.Subscript o b pos) X.env v = (do
      let ov ← holding [v] (eval o X.env)
      let iv ← holding [v, ov] (eval b X.env)
      standAt pos
      holding [v, ov, iv] (setItem ov iv v)
      release [v, ov, iv] []) := by intro _; rfl) : SG T (.Subscript o b pos) d ρ body (mSub A B d mm) N := fun C q => by
  refine PG.imp (pg_sub (ho C _ q) (pe_some T ρ b) set_list ha) fun v σ H R ⟨H0, at_, r, k⟩ => ⟨H0, at_, fun v1 od C1 H1 H01 p1 c1 r1 q1 => ⟨C1, _, hb C1 _ q1, H01, at_.step p1 c1, fun v2 id C2 H2 H02 p2 c2 r2 ⟨j, z, ds, kk, n, e1, e2, hi, hn, q⟩ => ?_⟩⟩
  subst e1; subst e2
  obtain rfl : v1 = .ref z := r1
  cases r2
  obtain ⟨vs, g1, g2⟩ := c2.ok z _ (List.mem_iff_getElem?.mpr ⟨j, hi⟩)
  obtain ⟨p3, c3⟩ := stp_write (o := .lst (vs.set n v)) c2 hi (c' := .lst (ds.set n d)) ⟨_, upd_same, Reps.set ((r.mono p1.base).mono p2.base) n g2⟩
  have at3 := ((at_.step p1 c1).step p2 c2).step p3 c3
  exact ⟨z, vs, kk, n, rfl, rfl, g1, by rw [← g2.length]; exact hn, k _ _ _ _ _ ((p1.trans c1 p2).trans c2 p3) c3 at3.s at3.l (h _ q)⟩
abbrev mFld (K : W.Frag) (A B : ME) (m : Str) (mm : MB) : MB := fun C => A C fun d C1 => B C1 fun od C2 => ∃ (i : Nat) (z Cl : Addr) (ns : List Str) (ds : List D), od = .raw (.ref z) ∧ C2[i]? = some (z, .ins Cl ns ds) ∧ Cls K Cl ∧ NoAttr K Cl m ∧ ns.length < 1000 ∧ mm (C2.set i (z, .ins Cl (putN m d ns ds).1 (putN m d ns ds).2))
theorem sb_fld {pos' : Pos} (h : SE T e ρ A) (ho : SE T o ρ B) (hk : SB T rest ρ mm N) (hs : swapsWith e (some (.Attribute o m pos')) pos.line X.env = pure false := by rfl) : SB T (.Assign [.Attribute o m pos'] e pos :: rest) ρ (mFld X.K A B m mm) N :=
  fun C q => wss_cons (PS.imp (ps_fld (pe_some T ρ o) (h C _ q) hs) fun Dn σ H ⟨H0, at_, k⟩ => ⟨H0, at_, fun v d C1 H1 H01 p1 c1 r1 q1 => ⟨C1, _, ho C1 _ q1, H01, at_.step p1 c1, fun v2 od C2 H2 H02 p2 c2 r2 ⟨i, z, Cl, ns, ds, e1, hi, hc, hn, hl, q⟩ => by
    subst e1
    obtain rfl : v2 = .ref z := r2
    obtain ⟨dx, vs, g1, g2, g3⟩ := c2.ok z _ (List.mem_iff_getElem?.mpr ⟨i, hi⟩)
    obtain ⟨vs', f1, f2, f3⟩ := reps_put (f := m) (r1.mono p2.base) g3 g2
    obtain ⟨p3, c3⟩ := stp_write (o := .ins Cl dx (putF m v (ns.zip vs))) c2 hi (c' := .ins Cl (putN m d ns ds).1 (putN m d ns ds).2) ⟨dx, vs', by rw [upd_same, f1], f2, f3⟩
    have at3 := ((at_.step p1 c1).step p2 c2).step p3 c3
    refine ⟨z, Cl, dx, _, rfl, g1, hc, hn, ?_, ContS.here (((k.after p1 c1).after p2 c2).after p3 c3).nx at3 (hk _ q)⟩
    rw [List.length_zip, ← g2]; omega⟩⟩)

abbrev mRaise (A : ME) (Cl : Addr) (fld : Str) (Xq : QX) : MB := fun C => A C fun d C1 => Xq (.ref Cl) (some ([fld], [d])) C1
theorem sb_raise {fld : Str} {pos' : Pos} (hx : XCls X.prog X.K X.mg Cl fld) (hr : RoomG (k + 1) X.A) (hg : Gl X x) (hm : X.mg x = some (.ref Cl)) (h : SE T e ρ A) (hX : ∀ cls fs C, Xq cls fs C → T.XQ cls fs ρ C)
    (hs : starEach [e] X.env = (false, eval e X.env) :: starEach [] X.env := by rfl) (hdb : (x == ("__debug__" : Str)) = false := by decide) (hc : X.calm = true := by rfl) : SB T (.Raise (some (.Call (.Name x p) [e] [] pos)) none pos' :: rest) ρ (mRaise A Cl fld Xq) N :=
  fun C q => wss_cons (ws_raise hx hr hg hm ((h C _ q).mono fun d C1 h1 => hX _ _ _ h1) hs hdb hc)
def mPart (m : MB) : MB := fun C => ∃ C' r, C.Perm (C' ++ r) ∧ m C'
theorem sb_part (h : SB T rest ρ mm N) : SB T rest ρ (mPart mm) N := fun C ⟨C', r, pm, q⟩ => wss_part pm (h C' q)
theorem part_id {m : MB} (h : m C) : mPart m C := ⟨C, [], by simp, h⟩
def mWhile {α : Type} (t : α → MT) (f : α → (α → MB) → (α → MB) → MB) (s0 : α) (after : α → MB) : MB := fun C => ∃ I : Nat → α → Cells → Prop, (∃ n, I n s0 C) ∧ ∀ n s C, I n s C → t s C fun k C1 => if k = true then f s (fun s' C' => ∃ n', n' < n ∧ I n' s' C') after C1 else after s C1
theorem sb_while {α : Type} {t : α → MT} {f : α → (α → MB) → (α → MB) → MB} {s0 : α} {after : α → MB} {cond : Expr} (enc : α → Rho) (h0 : LeR (enc s0) ρ) (ht : ∀ s, ST T cond (enc s) (t s))
    (hb : ∀ s (nx bk : α → MB) (W V : QS), (∀ a ρ' C, LeR (enc a) ρ' → nx a C → W ρ' C) → (∀ a ρ' C, LeR (enc a) ρ' → bk a C → V ρ' C) → SB T body (enc s) (f s nx bk) { nx := W, rt := N.rt, bk := V, ct := W })
    (ha : ∀ s, SB T rest (enc s) (after s) N) : SB T (.While cond body [] pos :: rest) ρ (mWhile t f s0 after) N := fun C ⟨I, ⟨n0, i0⟩, hI⟩ => by
  refine wss_cons (ws_while (fun n ρ C => ∃ s, LeR (enc s) ρ ∧ I n s C) n0 ⟨s0, h0, i0⟩ fun n ρ C ⟨s, l, i⟩ => ?_)
  refine PT.imp (show PT X cond _ from (ht s C _ (hI n s C i)).mono (Q' := fun k C1 => if k = true then WSs T body (enc s) C1 { nx := fun ρ' C' => ∃ m', m' < n ∧ ∃ s, LeR (enc s) ρ' ∧ I m' s C', ct := fun ρ' C' => ∃ m', m' < n ∧ ∃ s, LeR (enc s) ρ' ∧ I m' s C', bk := fun ρ' C' => WSs T rest ρ' C' N, rt := N.rt } else WSs T rest (enc s) C1 N) fun k C1 h1 => ?_) fun σ H R ⟨H0, at_, kk⟩ => ⟨H0, at_.forget l, fun b C' H' H0' p c q => kk b C' H' H0' p c ?_⟩
  · cases k with
    | true => exact hb s _ _ _ _ (fun a ρ' C l ⟨n', h1, h2⟩ => ⟨n', h1, a, l, h2⟩) (fun a ρ' C l h => wss_forget l (ha a C h)) C1 h1
    | false => exact ha s C1 h1
  · cases b with
    | true => exact wss_forget l q
    | false => exact wss_forget l q
abbrev mTry (K : W.Frag) (c : Value) (body : QX → MB) (suite : XF → Value → MB) (Xq : QX) : MB := body fun cls fs C' => ∃ b, W.exmOne K cls c = some b ∧ if b = true then suite fs cls C' else Xq cls fs C'
end
end Tr

set_option maxHeartbeats 4000000
namespace Tr
open PySem L2 PySem.Spec PyProof.Rows
section
variable {X : Cx} {T : TX X} {ρ ρ' : Rho} {C : Cells} {N : TEnds} {e a b c o i elt : Expr} {pos pos' p p2 apos cpos np : Pos} {es tgs : List Expr} {st b₀ : Stmt} {rest body tb fb suite : List Stmt} {x m n : Str} {A B A' : ME} {AS : MA} {mt mf mm : MB} {Q : QE}
def mFrz (v : D) (k : D → MB) : MB := fun C => ∃ (i : Nat) (z : Addr) (c : Cell), v = .raw (.ref z) ∧ C[i]? = some (z, c) ∧ k c.toD (C.eraseIdx i)
theorem sb_frz {v : D} {k : D → MB} {r : D → Rho} (j : Nat) (hj : ρ[j]? = some (some v)) (hr : ∀ d, ρ.set j (some d) = r d) (h : ∀ d, SB T rest (r d) (k d) N) : SB T rest ρ (mFrz v k) N := fun C ⟨i, z, c, e, hi, q⟩ => by
  subst e
  refine wss_frz j i hj hi ?_
  rw [hr]
  exact h _ _ q
def eXf (K : W.Frag) (n : Str) (cls : Value) (fs : XF) : ME := fun C Q => ∃ Cl ns ds y, cls = .ref Cl ∧ fs = some (ns, ds) ∧ XfC K Cl ∧ W.findIn K (.ref Cl) n = some none ∧ (ns.zip ds).lookup n = some y ∧ Q y C
abbrev eIsX (K : W.Frag) (cls : Value) (D2 : ME) : ME := fun C Q => ∃ Cl, cls = .ref Cl ∧ ExcC K Cl ∧ D2 C fun d2 C1 => ∃ b u, ClsD d2 u ∧ W.kitOne K (.ref Cl) u = some b ∧ Q (.bl b) C1
theorem se_xf {a : Addr} {oe : Obj} {d : Option Addr} {cls : Value} {fs : XF} {pn : List (Addr × Obj)} {T' : TX (X.suite a ((a, oe) :: pn))} (hz : Zc cls d oe) (hfl : ∃ vs, oe.data = .fields vs) (hA : ∀ H0 C H, T'.A H0 C H → ExcR X.K H0 H d fs)
    (h : SE T' e ρ (eVal (.raw (.ref a)))) (hb : attributeBase e n (X.suite a ((a, oe) :: pn)).env (eval e (X.suite a ((a, oe) :: pn)).env) = eval e (X.suite a ((a, oe) :: pn)).env := by rfl) : SE T' (.Attribute e n pos) ρ (eXf X.K n cls fs) := fun C Q q => by
  obtain ⟨Cl, ns, ds, y, rfl, rfl, h1, h2, h3, h4⟩ := q
  exact we_xf h1 h2 hz hfl hA ((h C _ (show _ ∧ _ from ⟨rfl, y, h3, h4⟩))) hb
theorem se_isX {a : Addr} {oe : Obj} {d : Option Addr} {cls : Value} {fs : XF} {pn : List (Addr × Obj)} {T' : TX (X.suite a ((a, oe) :: pn))} (hz : Zc cls d oe) (hfl : ∃ vs, oe.data = .fields vs) (hA : ∀ H0 C H, T'.A H0 C H → ExcR X.K H0 H d fs) (hg : Gl X "isinstance") (hm : X.mg "isinstance" = none)
    (h : SE T' e ρ (eVal (.raw (.ref a)))) (h2 : SE T' c ρ A)
    (he : starEach [e, c] (X.suite a ((a, oe) :: pn)).env = (false, eval e (X.suite a ((a, oe) :: pn)).env) :: starEach [c] (X.suite a ((a, oe) :: pn)).env := by rfl) (hpl : (backTo pos (starEach [c] (X.suite a ((a, oe) :: pn)).env)).any (·.1) = false := by rfl)
    (he2 : starEach [c] (X.suite a ((a, oe) :: pn)).env = (false, eval c (X.suite a ((a, oe) :: pn)).env) :: starEach [] (X.suite a ((a, oe) :: pn)).env := by rfl) : SE T' (.Call (.Name "isinstance" p) [e, c] [] pos) ρ (eIsX X.K cls A) := fun C Q q => by
  obtain ⟨Cl, rfl, G, q⟩ := q
  have hw : WA T' [e, c] ρ C fun ds C1 => ∃ d2 u b, ds = [.raw (.ref a), d2] ∧ ClsD d2 u ∧ W.kitOne X.K (.ref Cl) u = some b ∧ Q (.bl b) C1 :=
    wa_cons (h C _ (wa_cons ((h2 C _ q).mono fun d2 C1 ⟨b, u, h3, h4, h5⟩ => wa_nil ⟨d2, u, b, rfl, h3, h4, h5⟩) he2)) he
  exact PE.imp (pe_callB (call_isX G hz hfl) hg hm (by rfl) hw (by decide) (by decide) he hpl) fun σ H R ⟨H0, at_, k⟩ => ⟨H0, at_, fun vs ds C1 H1 H01 p1 c1 r1 q1 => by
    obtain ⟨d2, u, b, e1, hc, hk, q⟩ := q1
    subst e1
    have at1 := at_.step p1 c1
    have ex := hA _ _ _ at1.a
    obtain ⟨v, w, e1, r2, r3⟩ := r1.two
    subst e1
    cases r2
    refine ⟨w, u, b, rfl, cls_at r3 hc, hk, fun dd hd => ?_, k (.bl b) (.bl b) C1 H1 H01 p1 c1 rfl q⟩
    subst hd
    cases fs with
    | none => exact ex.elim
    | some f => obtain ⟨vs, h1, _⟩ := ex; exact ⟨_, h1⟩⟩
theorem LeR.set {v : Option D} {j : Nat} (h : LeR ρ ρ') : LeR (ρ.set j v) (ρ'.set j v) := ⟨by simp [h.l], fun i d q => by
  rw [List.getElem?_set] at q ⊢
  split at q
  · rename_i e; subst e
    split at q
    · rename_i hl; rw [if_pos rfl, if_pos (by rw [← h.l]; exact hl)]; exact q
    · cases q
  · rename_i e; rw [if_neg e]; exact h.s i d q⟩
theorem LeR.unset {j : Nat} (h : LeR ρ ρ') (hn : ∀ d, ρ[j]? ≠ some (some d)) : LeR ρ (ρ'.set j none) := ⟨by simp [h.l], fun i d q => by
  rw [List.getElem?_set]
  split
  · rename_i e; subst e; exact absurd q (hn d)
  · exact h.s i d q⟩
theorem sb_try {α : Type} {i : Nat} {cv : Value} {mb : QX → MB} {ms : XF → Value → MB} {Xq : QX} (enc : α → Rho) (J : α → MB) (ρe : Rho) (hs : X.stack = X.env :: X.outer) (hf : X.env.frame = some X.env.locals) (hN : X.N.Nodup) (hi : X.N[i]? = some n) (hln : X.env.kindOf n = some .local) (hc : Names X x cv)
    (hX : ∀ ρ' cls fs C, Xq cls fs C → T.XQ cls fs ρ' C) (hJ : ∀ a, SB T rest (enc a) (J a) N) (hn : ∀ a d, (enc a)[i]? ≠ some (some d))
    (hb : ∀ (pn : List (Addr × Obj)) (xe : Value → Shared → Prop) (T' : TX (X.tr pn xe)) (X' : QX), (∀ ρ', LeR ρe ρ' → ∀ cls fs C, X' cls fs C → T'.XQ cls fs ρ' C) → ∀ W : QS, (∀ a ρ' C, LeR (enc a) ρ' → J a C → W ρ' C) → SB T' body ρ (mb X') { N with nx := W })
    (hh : ∀ (cls : Value) (fs : XF) (a : Addr) (oe : Obj) (d : Option Addr) (pn : List (Addr × Obj)) (T' : TX (X.suite a ((a, oe) :: pn))), Zc cls d oe → (∃ vs, oe.data = .fields vs) → (∀ H0 C H, T'.A H0 C H → ExcR X.K H0 H d fs) → ∀ W V B' : QS, (∀ a ρ' C, LeR (enc a) ρ' → J a C → W ρ' C) →
      SB T' (b₀ :: suite) (ρe.set i (some (.raw (.ref a)))) (ms fs cls) { nx := W, rt := N.rt, bk := V, ct := B' }) :
    SB T (.Try body [.ExceptHandler (some (.Name x np)) (some n) (b₀ :: suite) pos'] [] [] pos :: rest) ρ (mTry X.K cv mb ms Xq) N := fun C q => by
  have hw : ∀ a ρ' C, LeR (enc a) ρ' → J a C → WSs T rest ρ' C N := fun a ρ' C l q => wss_forget l (hJ a C q)
  refine wss_cons (ws_try hs hf hN hi hln hc (fun cls fs ρ' C' => LeR ρe ρ' ∧ ∃ b, W.exmOne X.K cls cv = some b ∧ if b = true then ms fs cls C' else Xq cls fs C') (fun pn xe T' eX => hb pn xe T' _ (fun ρ' l cls fs C' h => by rw [eX]; exact ⟨l, h⟩) _ hw C q) ?_)
  rintro cls fs ρ' C' ⟨l, b, h1, h2⟩
  refine ⟨b, h1, fun hb0 => ?_, fun hb1 a oe d pn T' hz hfl hA => ?_⟩
  · subst hb0; exact hX _ _ _ _ h2
  · subst hb1
    exact wss_forget l.set (hh cls fs a oe d pn T' hz hfl hA _ _ _ (fun a ρ' C l q => hw a _ C (l.unset (hn a)) q) C' h2)

abbrev eDrop (A : ME) : ME := fun C Q => A C fun d C1 => ∃ C' r, C1.Perm (C' ++ r) ∧ Q d C'
theorem se_drop (h : SE T e ρ A) : SE T e ρ (eDrop A) := fun C Q q => PE.imp (h C _ q) fun σ H R ⟨H0, at_, k⟩ => ⟨H0, at_, fun v d C1 H1 H01 p1 c1 r1 ⟨C', r, pm, q⟩ =>
  let ⟨p2, c2⟩ := stp_part c1 pm
  k v d C' H1 H01 (p1.trans c1 p2) c2 r1 q⟩
variable {k : Nat} {f Cl : Addr} {fd : FuncData} {ps : List Str} {F : FS} {dvs : List V} {dds : List D} {Xq : QX}
theorem se_make0D {q : Pos} (M : Mk X.K Cl f) (Fk : FnG X.prog X.w X.K X.mg X.base k f fd ps F) (hr : RoomG (k + 1) X.A) (hg : Gl X x) (hm : X.mg x = some (.ref Cl)) (hb : ∃ ds, Vals dvs ds ∧ Binds X.K fd ps ds) (hdd : ∀ H, Reps X.K H dds dvs)
    (hX : ∀ cls fs C, Xq cls fs C → T.XQ cls fs ρ C) (hdb : (x == ("__debug__" : Str)) = false := by decide) :
    SE T (.Call (.Name x q) [] [] pos) ρ (makeW F Xq Cl dds) := by
  obtain ⟨ds, hd, hb⟩ := hb
  exact se_make0 M Fk hr hg hm hb hd hdd hX hdb

theorem loop_inv {α : Type} {f : D → α → (α → MB) → (α → MB) → MB} {after : α → MB} {P : Cells → Prop} {ds : List D} {s : α} (I : Nat → α → Cells → Prop) (h0 : I 0 s C)
    (step : ∀ i d s C (nx : α → MB), ds[i]? = some d → I i s C → (∀ s' C', I (i + 1) s' C' → nx s' C') → P C ∧ f d s nx after C) (last : ∀ s C, I ds.length s C → P C ∧ after s C) : mLoop f after P ds s C := by
  have go : ∀ (r : List D) (j : Nat), j + r.length = ds.length → (∀ i, r[i]? = ds[j + i]?) → ∀ s C, I j s C → mLoop f after P r s C := by
    intro r
    induction r with
    | nil => intro j hj _ s C h; have : j = ds.length := by simpa using hj
             subst this; exact last s C h
    | cons d r ih =>
      intro j hj hg s C h
      refine step j d s C _ (by rw [← Nat.add_zero j, ← hg 0]; rfl) h fun s' C' h' => ?_
      exact ih (j + 1) (by simp at hj; omega) (fun i => by rw [Nat.add_assoc, Nat.add_comm 1 i, ← hg (i + 1)]; rfl) s' C' h'
  exact go ds 0 (by simp) (fun i => by simp) s C h0
theorem lcB_inv {P : Cells → Prop} {f : D → ME} {Q : QE} {ds : List D} (J : Nat → List D → Cells → Prop) (h0 : J 0 [] C)
    (step : ∀ i d acc C (k : QE), ds[i]? = some d → J i acc C → (∀ y C', J (i + 1) (acc ++ [y]) C' → k y C') → P C ∧ f d C k) (last : ∀ acc C, J ds.length acc C → P C ∧ Q (.lst acc) C) (hl : ds.length ≤ 100000) (hlen : ∀ i acc C, J i acc C → acc.length ≤ i) : lcB P f Q ds [] C := by
  have go : ∀ (r : List D) (j : Nat), j + r.length = ds.length → (∀ i, r[i]? = ds[j + i]?) → ∀ acc C, J j acc C → lcB P f Q r acc C := by
    intro r
    induction r with
    | nil => intro j hj _ s C h; have : j = ds.length := by simpa using hj
             subst this; exact last s C h
    | cons d r ih =>
      intro j hj hg acc C h
      refine step j d acc C _ (by rw [← Nat.add_zero j, ← hg 0]; rfl) h fun y C' h' => ⟨?_, ih (j + 1) (by simp at hj; omega) (fun i => by rw [Nat.add_assoc, Nat.add_comm 1 i, ← hg (i + 1)]; rfl) _ C' h'⟩
      have := hlen j acc C h
      simp at hj; omega
  exact go ds 0 (by simp) (fun i => by simp) [] C h0
theorem lcB_map {α : Type} {P : Cells → Prop} {f : D → ME} {Q : QE} {l : List α} (g h : α → D) (hp : P C) (hf : ∀ a ∈ l, ∀ k : QE, k (h a) C → f (g a) C k) (hl : l.length ≤ 100000) (q : Q (.lst (l.map h)) C) : lcB P f Q (l.map g) [] C := by
  have go : ∀ (r : List α) (acc : List D), (∀ a ∈ r, a ∈ l) → acc.length + r.length ≤ 100000 → Q (.lst (acc ++ r.map h)) C → lcB P f Q (r.map g) acc C := by
    intro r
    induction r with
    | nil => intro acc _ _ q; exact ⟨hp, by simpa using q⟩
    | cons a r ih =>
      intro acc hm hl q
      refine ⟨hp, hf a (hm a List.mem_cons_self) _ ⟨by simp at hl; omega, ih _ (fun b hb => hm b (List.mem_cons_of_mem _ hb)) (by simp at hl ⊢; omega) (by simpa using q)⟩⟩
  exact go l [] (fun _ h => h) (by simpa using hl) (by simpa using q)
theorem lcB1_map {α : Type} {P : Cells → Prop} {f : D → ME} {t : D → MT} {Q : QE} {l : List α} (g h : α → D) (b : α → Bool) (hp : P C) (ht : ∀ a ∈ l, ∀ k : QT, k (b a) C → t (g a) C k) (hf : ∀ a ∈ l, b a = true → ∀ k : QE, k (h a) C → f (g a) C k) (hl : l.length ≤ 100000) (q : Q (.lst ((l.filter b).map h)) C) : lcB1 P t f Q (l.map g) [] C := by
  have go : ∀ (r : List α) (acc : List D), (∀ a ∈ r, a ∈ l) → acc.length + r.length ≤ 100000 → Q (.lst (acc ++ (r.filter b).map h)) C → lcB1 P t f Q (r.map g) acc C := by
    intro r
    induction r with
    | nil => intro acc _ _ q; exact ⟨hp, by simpa using q⟩
    | cons a r ih =>
      intro acc hm hl q
      refine ⟨hp, ht a (hm a List.mem_cons_self) _ ?_⟩
      have hm' : ∀ b ∈ r, b ∈ l := fun b hb => hm b (List.mem_cons_of_mem _ hb)
      have hl' : acc.length + 1 + r.length ≤ 100000 := by simp at hl; omega
      cases e : b a with
      | true =>
        rw [if_pos rfl]
        rw [List.filter_cons_of_pos e] at q
        exact hf a (hm a List.mem_cons_self) e _ ⟨by omega, ih _ hm' (by simp; omega) (by simpa using q)⟩
      | false =>
        rw [if_neg (by decide)]
        rw [List.filter_cons_of_neg (by simp [e])] at q
        exact ih _ hm' (by omega) q
  exact go l [] (fun _ h => h) (by simpa using hl) (by simpa using q)
end
end Tr
namespace Tr
open PySem L2 PySem.Spec PyProof.Rows
def pMkF (F : FS) (Xq : QX) (Cl : Addr) (ds : List D) : ME := pFrz (makeW F Xq Cl ds)
theorem se_mkF {X : Cx} {T : TX X} {ρ : Rho} {e : Expr} {AS : MA} {F : FS} {Xq : QX} {Cl : Addr} {dds : List D} (h : SE T e ρ (eArgs AS fun ds => makeW F Xq Cl (ds ++ dds))) : SE T e ρ (eArgs AS fun ds => pMkF F Xq Cl (ds ++ dds)) := fun C Q q => se_frz h C Q q
theorem se_mkF0 {X : Cx} {T : TX X} {ρ : Rho} {e : Expr} {F : FS} {Xq : QX} {Cl : Addr} {dds : List D} (h : SE T e ρ (makeW F Xq Cl dds)) : SE T e ρ (pMkF F Xq Cl dds) := fun C Q q => se_frz h C Q q
theorem mkF_of {F : FS} {Xq : QX} {Cl : Addr} {ds fs : List D} {ns : List Str} {C : Cells} {Q : QE} (h : ∀ z, F (.raw (.ref z) :: ds) ((z, .ins Cl [] []) :: C) (fun d C' => d = .non ∧ ∃ (i : Nat) (z' Cl' : Addr) (ns : List Str) (ds : List D), D.raw (.ref z) = .raw (.ref z') ∧ C'[i]? = some (z', .ins Cl' ns ds) ∧ Q (.ins Cl' ns ds) (C'.eraseIdx i)) Xq) : pMkF F Xq Cl ds C Q :=
  ⟨C, [], by simp, fun z => by simpa using h z⟩
end Tr
namespace Tr
open PySem L2 PySem.Spec PyProof.Rows
section
variable {X : Cx} {T : TX X} {ρ : Rho} {C : Cells} {N : TEnds} {rest : List Stmt} {p pos pos' : Pos} {x : Str} {Cl : Addr} {Xq : QX}
theorem pmk_own0 {bmB : List Value} {B newId initId : String} (F : ExcBaseFacts B newId initId bmB) (q : PySem.W.excIn X.K Cl bmB newId = true) (gC : X.mg x = some (.ref Cl)) (kC : PySem.W.keepIn X.K (.ref Cl) = true) (r : Raises X (.ref Cl)) (hg : Gl X x)
    (hdb : (x == ("__debug__" : Str)) = false := by decide) : L2N.PMk X (.Call (.Name x p) [] [] pos) (fun _ H Q => Q (.ref Cl) none H) := by
  intro pins s σ H Q I h
  refine wpAny_Call_Name_kw (ld_glob I hg gC ?_ hdb)
  refine PySem.W.callWith_K0 (first := []) I.kIn kC ?_
  show wpAny _ _ (call (.ref Cl) []) _ _ _
  obtain ⟨bm, N, nm, qn, bs, hdct, sn, sub, ab, col, dd, k0, k1, k2, k3, k5, mN, hC, hN, hni, T⟩ := exc_obj I.kIn q
  refine wpAny_call_exc_subT F T hC hN hni (fun h' e hm => ?_) (Nat.zero_le _)
  exact L2N.mk_of I hm r h (I.hok.gone hm.new)
structure X0 (K : W.Frag) (C : Addr) : Prop where
  q : PySem.W.excIn K C [.type "ValueError", .type "Exception", .type "BaseException", .type "object"] "ValueError.__new__" = true
  k : W.keepIn K (.ref C) = true
  s : W.subIn K (.ref C) (.type "BaseException") = some true
  t : W.typeIn K (.ref C) = some (.type "type")
def mRaise0 (Cl : Addr) (Xq : QX) : MB := fun C => Xq (.ref Cl) none C
theorem sb_raise0 (hx : X0 X.K Cl) (hg : Gl X x) (hm : X.mg x = some (.ref Cl)) (hX : ∀ cls fs C, Xq cls fs C → T.XQ cls fs ρ C) (hdb : (x == ("__debug__" : Str)) = false := by decide) (hc : X.calm = true := by rfl) :
    SB T (.Raise (some (.Call (.Name x p) [] [] pos)) none pos' :: rest) ρ (mRaise0 Cl Xq) N :=
  fun C q => wss_cons (PS.imp (ps_raiseX hc T.tk (pmk_own0 PySem.F.excBase_ValueError hx.q hm hx.k (raises_own hx.s hx.t) hg hdb)) fun Dn σ H ⟨H0, at_, _⟩ => ⟨none, ρ, C, H0, at_.a, at_.c, at_.s, at_.l, trivial, hX _ _ _ q⟩)
end
end Tr

set_option maxHeartbeats 4000000
namespace Tr
open PySem L2 PySem.Spec PyProof.Rows
section
variable {X : Cx} {T : TX X} {ρ : Rho} {C : Cells} {N : TEnds} {e a b c o i elt : Expr} {pos pos' p p2 apos : Pos} {es : List Expr} {rest body : List Stmt} {x m : Str} {A B : ME} {AS : MA} {Q : QE} {k : Nat} {f Cl : Addr} {fd : FuncData} {ps : List Str} {F : FS} {dvs : List V} {dds : List D} {dus : List Value} {d1 d2 d : D} {ns ns2 : List Str} {ds ds2 : List D} {Xq : QX}
def isInsD : D → Bool
  | .ins _ _ _ => true
  | _ => false
def oAddO (own : D → D → ME) (x y : D) : ME := match x with
  | .ins c ns ds => own (.ins c ns ds) y
  | x => oAdd x y
def pIxO (Cl : Addr) (F : FS) (Xq : QX) (x y : D) : ME := match x with
  | .ins c ns ds => fun C Q => c = Cl ∧ callW F Xq [.ins c ns ds, y] C Q
  | x => pIx x y
theorem cw_min2 {i j : Int} (hc : X.calm = true) (q : Q (.int (if j < i then j else i)) C) : CW T (.builtin "min") [.int i, .int j] C Q :=
  cw_look (d := .int (if j < i then j else i)) (call_min2 hc) (fun xs H H0 c r => by
    obtain ⟨v, w, e1, r1, r2⟩ := r.two
    cases r1; cases r2; subst e1
    exact ⟨_, rfl, fun R k => ⟨i, j, rfl, k⟩⟩) q
def pMin2 : D → D → ME
  | .int i, .int j => fun C Q => Q (.int (if j < i then j else i)) C
  | _, _ => fun _ _ => False
theorem pMin_ok (hc : X.calm = true) (ds : List D) (C : Cells) (Q : QE) (h : on2 pMin2 ds C Q) : CW T (.builtin "min") ds C Q :=
  on2_ok (fun d d2 C Q h => by
    unfold pMin2 at h; split at h
    · exact cw_min2 hc h
    · exact h.elim) ds C Q h
end
end Tr

set_option maxHeartbeats 4000000
namespace Tr
open PySem L2 PySem.Spec PyProof.Rows
def putD (ks : List Key) (ds : List D) (j : Key) (x : D) : List D := if (ks.any fun k => decide (k = j)) = true then (ks.zip ds).map fun p => if p.1 = j then x else p.2 else ds ++ [x]
def putKs (ks : List Key) (j : Key) : List Key := if (ks.any fun k => decide (k = j)) = true then ks else ks ++ [j]
section
variable {K : W.Frag} {H : Hp}
theorem putD_reps {ks : List Key} {ds : List D} {vs : List V} {j : Key} {d : D} {v : V} (r : Reps K H ds vs) (l : ks.length = vs.length) (rd : Rep K H d v) :
    ∃ vs', putK (ks.zip vs) j v = (putKs ks j).zip vs' ∧ (putKs ks j).length = vs'.length ∧ Reps K H (putD ks ds j d) vs' := by
  have any : ∀ (ks : List Key) (vs : List V), ks.length = vs.length → ((ks.zip vs).any fun kv => decide (kv.1 = j)) = ks.any fun k => decide (k = j) := by
    intro ks
    induction ks with
    | nil => intro vs _; simp
    | cons k ks ih =>
      intro vs l
      cases vs with
      | nil => cases l
      | cons v vs =>
        rw [List.zip_cons_cons, List.any_cons, List.any_cons, ih vs (by simpa using l)]
  unfold putK putKs putD
  rw [any ks vs l]
  by_cases c : (ks.any fun k => decide (k = j)) = true
  · rw [if_pos c, if_pos c, if_pos c]
    refine ⟨(ks.zip vs).map fun p => if p.1 = j then v else p.2, ?_, by simp [l], ?_⟩
    · clear any c r
      induction ks generalizing vs with
      | nil => simp
      | cons k ks ih =>
        cases vs with
        | nil => cases l
        | cons u vs =>
          simp only [List.zip_cons_cons, List.map_cons]
          rw [ih (by simpa using l)]
          by_cases c : k = j <;> simp [c]
    · clear any c
      induction ks generalizing vs ds with
      | nil => simp; exact Reps.nil
      | cons k ks ih =>
        cases vs with
        | nil => cases l
        | cons u vs =>
          cases ds with
          | nil => cases r
          | cons d0 ds =>
            obtain ⟨_, _, e, r1, r2⟩ := r
            cases e
            simp only [List.zip_cons_cons, List.map_cons]
            refine Reps.cons ?_ (ih r2 (by simpa using l))
            by_cases c : k = j
            · rw [if_pos c, if_pos c]; exact rd
            · rw [if_neg c, if_neg c]; exact r1
  · rw [if_neg c, if_neg c, if_neg c]
    exact ⟨vs ++ [v], by rw [List.zip_append l]; rfl, by simp [l], Reps.append r (Reps.cons rd Reps.nil)⟩
end
section
variable {X : Cx} {T : TX X} {ρ : Rho} {C : Cells} {N : TEnds} {e a b c o i elt : Expr} {pos pos' p p2 apos : Pos} {es : List Expr} {rest body : List Stmt} {x m : Str} {A B : ME} {AS : MA} {mm : MB} {Q : QE} {d d1 d2 : D} {ks : List Key} {ds : List D} {key : Key}
def oNotInS (x y : D) : ME := fun C Q => ∃ n z, x = .str ⟨#[n]⟩ ∧ y = .str z ∧ Q (.bl (!decide (n ∈ z.cps.toList))) C
variable {cpos : Pos}
structure WayD (X : Cx) (H01 : Hp) (C1 : Cells) (H1 : Hp) (L : Addr) (ks : List Key) (acc : List D) (H0 : Hp) (C : Cells) (H : Hp) : Prop where
  st : Stp H01 C1 H1 H0 C H
  c : CellsR X.K H0 C H
  at_ : ∃ vs, H L = some (.dK (ks.zip vs)) ∧ ks.length = vs.length ∧ Reps X.K H0 acc vs
  n0 : H0 L = none
  nd : ¬ Dom C L
theorem WayD.step {H01 H1 H0 H H0' H' : Hp} {C1 C' : Cells} {L : Addr} {acc : List D} (w : WayD X H01 C1 H1 L ks acc H0 C H) (p : Stp H0 C H H0' C' H') (c' : CellsR X.K H0' C' H') : WayD X H01 C1 H1 L ks acc H0' C' H' := by
  obtain ⟨vs, h1, hl, h2⟩ := w.at_
  obtain ⟨q1, q2⟩ := p.own L (by rw [h1]; simp) w.n0 w.nd
  exact ⟨w.st.trans w.c p, c', ⟨vs, p.fr L _ h1 w.nd, hl, h2.mono p.base⟩, q1, q2⟩
theorem WayD.add {H01 H1 H0 H : Hp} {C1 : Cells} {L : Addr} {acc : List D} {d : D} {v : V} (w : WayD X H01 C1 H1 L ks acc H0 C H) (hL : H1 L = none) (r : Rep X.K H0 d v) : ∃ vs, H L = some (.dK (ks.zip vs)) ∧ ks.length = vs.length ∧ WayD X H01 C1 H1 L (putKs ks key) (putD ks acc key d) H0 C (upd H L (.dK (putK (ks.zip vs) key v))) := by
  obtain ⟨vs, h1, hl, h2⟩ := w.at_
  have off : ∀ a x, (a, x) ∈ C → a ≠ L := fun a x hx e => w.nd ⟨x, e ▸ hx⟩
  obtain ⟨vs', e1, e2, e3⟩ := putD_reps (j := key) h2 hl r
  refine ⟨vs, h1, hl, ⟨⟨w.st.base, fun a o h n => ?_, w.st.own⟩, ⟨fun a o h => ?_, w.c.free, fun a x hx => (w.c.ok a x hx).mono (Same.refl _) (upd_ne (off a x hx)), w.c.nd⟩, ⟨vs', by rw [upd_same, e1], e2, e3⟩, w.n0, w.nd⟩⟩
  · rw [upd_ne (ne_of_none h hL)]; exact w.st.fr a o h n
  · rw [upd_ne (ne_of_none h w.n0)]; exact w.c.same a o h
theorem WayD.fin {H01 H1 H0 H : Hp} {C1 : Cells} {L : Addr} {acc : List D} (w : WayD X H01 C1 H1 L ks acc H0 C H) (hL : H1 L = none) : ∃ H0', Stp H01 C1 H1 H0' C H ∧ CellsR X.K H0' C H ∧ Rep X.K H0' (.dic ks acc) (.ref L) := by
  obtain ⟨vs, h1, hl, h2⟩ := w.at_
  have s0 : Same H0 (upd H0 L (.dK (ks.zip vs))) := fun a u h => by rw [upd_ne (ne_of_none h w.n0)]; exact h
  refine ⟨upd H0 L (.dK (ks.zip vs)), ⟨w.st.base.trans s0, w.st.fr, fun a h e n => ?_⟩, ⟨fun a o h => ?_, fun a d => ?_, fun a x hx => (w.c.ok a x hx).mono s0 rfl, w.c.nd⟩, ⟨L, vs, rfl, .inl upd_same, hl, h2.mono s0⟩⟩
  · obtain ⟨q1, q2⟩ := w.st.own a h e n
    exact ⟨by rw [upd_ne (show a ≠ L from fun z => h (by rw [z]; exact hL))]; exact q1, q2⟩
  · by_cases q : a = L
    · subst q; rw [upd_same] at h; cases h; exact h1
    · rw [upd_ne q] at h; exact w.c.same a o h
  · rw [upd_ne (show a ≠ L from fun z => w.nd (by rw [← z]; exact d))]; exact w.c.free a d
section
variable {scope : Scope} {own : List (Str × Nat)} {tg iter kx vx : Expr} {bd : Bind}
end
section
variable {X : Cx} {e : Expr} {es : List Expr} {p : Pos} {te : TE} {t : TA}
end
def pII (g : Int → Int → Int) : D → D → ME
  | .int i, .int j => fun C Q => Q (.int (g i j)) C
  | _, _ => fun _ _ => False
section
variable {scope : Scope} {own : List (Str × Nat)} {tg iter : Expr} {bd : Bind}
end
end
end Tr

set_option maxHeartbeats 4000000
namespace Tr
open PySem L2 PySem.Spec PyProof.Rows
section
variable {X : Cx} {T : TX X} {ρ : Rho} {C : Cells} {e a b : Expr} {es : List Expr} {pos : Pos} {A B : ME}
end
end Tr
namespace Tr
open PySem L2 PySem.Spec PyProof.Rows
theorem NdT.mono {H H' : Hp} {a : Addr} {vs : List V} (e : Same H H') (h : NdT H a vs) : NdT H' a vs := let ⟨o, h1, h2⟩ := h; ⟨o, e _ _ h1, h2⟩
def wk : D → D
  | .tpn ds => .tup ds
  | d => d
section
variable {X : Cx} {T : TX X} {ρ : Rho} {C : Cells} {o a e : Expr} {apos cpos pos : Pos} {A B : ME}
end
end Tr

set_option maxHeartbeats 4000000
namespace TupNe
open PySem PySem.SeqAt GQ
open AutoSeq1 (wpAny_loadPart')
open MeetsSeq MeetsSeq2 MeetsSeq3 SeqRoads2
section
variable {prog : Program} {w : World} {A : Around} {R : Result → Shared → Prop}
end
section
variable {prog : Program} {w : World} {A : Around} {E : Value → Shared → Prop} {s : Shared}
end
end TupNe
namespace Tr
open PySem L2 PySem.Spec PyProof.Rows
section
variable {X : Cx} {T : TX X} {C : Cells} {Q : QE} {k : Nat} {f Cl : Addr} {fd : FuncData} {ps : List Str} {F : FS}
end
end Tr

set_option maxHeartbeats 4000000
namespace Tr
open PySem L2 PySem.Spec PyProof.Rows PySem.W
section
variable {K : W.Frag} {C : Addr} {M : Model}
end
section
variable {prog : Program} {w : World} {A : Around} {E : Value → Shared → Prop} {s : Shared} {K : W.Frag} {L : Addr} {m : Str → Option Value} {x C f : Addr} {ox : Obj} {od : Option Obj} {h₀ : Heap}
end
section
variable {X : Cx} {T : TX X} {C : Cells} {Q : QE} {k : Nat} {f Cl : Addr} {fd : FuncData} {ps : List Str} {F : FS} {d1 d2 : D} {ns ns2 : List Str} {ds ds2 : List D}
end
section
variable {X : Cx} {T : TX X} {C : Cells} {ρ : Rho} {N : TEnds} {tgs : List Expr} {pos : Pos} {body : List Stmt}
end
end Tr

set_option maxHeartbeats 4000000
namespace Tr
open PySem L2 PySem.Spec PyProof.Rows
structure PMc (X : Cx) (cs : List MatchCase) (z : Str) (t : TS) : Prop where
  run : ∀ (pins : List (Addr × Obj)) (s : Shared) (σ : L2.St) (H : Hp) (Dn : Ends) (u : Value) (first : Bool), Inv X pins σ H s → RelV (.str z) u → t Dn σ H → wpAny (model X.prog X.w) X.A (matchCases cs X.env u first) (L2.SP X pins Dn) X.xe s
section
variable {X : Cx} {T : TX X} {ρ : Rho} {C : Cells} {N : TEnds} {e a b o i : Expr} {pos cp mp tpos apos cpos : Pos} {body rest : List Stmt} {cs : List MatchCase} {z k : Str} {t : TS} {A B E : ME} {m m1 mm : MB} {Q : QE}
variable {tgs : List Expr} {ds : List D} {d : D}
end
end Tr

set_option maxHeartbeats 4000000
namespace Tr
open PySem L2 PySem.Spec PyProof.Rows
section
variable {X : Cx} {T : TX X} {ρ : Rho} {C : Cells} {tg e : Expr} {t : TE} {A : ME}
end
end Tr

set_option maxHeartbeats 4000000
namespace Tr
open PySem L2 PySem.Spec PyProof.Rows
section
variable {X : Cx} {T : TX X} {ρ : Rho} {C : Cells} {N : TEnds} {pos pos' np : Pos} {x : Str} {c : Value} {body suite : List Stmt} {b₀ : Stmt}
end
end Tr

set_option maxHeartbeats 4000000
namespace LstNe
open PySem PySem.SeqAt GQ
open AutoSeq1 (wpAny_loadPart')
open MeetsSeq MeetsSeq2 MeetsSeq3 SeqRoads2
section
variable {prog : Program} {w : World} {A : Around} {R : Result → Shared → Prop}
end
section
variable {prog : Program} {w : World} {A : Around} {E : Value → Shared → Prop} {s : Shared}
end
end LstNe
namespace Tr
open PySem L2 PySem.Spec PyProof.Rows
section
variable {X : Cx} {T : TX X} {C : Cells} {Q : QE} {k : Nat} {f Cl : Addr} {fd : FuncData} {ps : List Str} {F : FS} {d1 d2 : D}
end
end Tr

set_option maxHeartbeats 4000000
namespace Tr
open PySem L2 PySem.Spec PyProof.Rows
section
variable {X : Cx} {T : TX X} {ρ : Rho} {C : Cells} {Q : QE} {o : Expr} {pos : Pos} {k : Nat} {g Cl : Addr} {fd : FuncData} {ps : List Str} {F : FS} {m : Str} {A : ME} {Xq : QX}
end
section
variable {X : Cx} {T : TX X} {ρ : Rho} {N : TEnds} {pos : Pos} {x : Str} {d : D} {ds : List D} {tgs : List Expr} {body : List Stmt} {mm : MB}
end
end Tr

set_option maxHeartbeats 4000000
namespace Tr
open PySem L2 PySem.Spec PyProof.Rows
section
variable {X : Cx} {T : TX X} {ρ : Rho} {C : Cells} {Q : QE} {a b : Expr} {p pos : Pos} {A B : ME}
end
end Tr

set_option maxHeartbeats 4000000
namespace Tr
open PySem L2 PySem.Spec PyProof.Rows
section
variable {X : Cx} {T : TX X} {ρ : Rho} {C : Cells} {N : TEnds} {d : D} {body : List Stmt} {tgs : List Expr} {pos : Pos}
def mUn6 (d : D) (f : D → D → D → D → D → D → MB) : MB := match d with
  | .tup [x, y, z, u, v, w] => f x y z u v w
  | _ => fun _ => False
theorem s_mun6 {d0 d1 d2 d3 d4 d5 : D} {f : D → D → D → D → D → D → MB} (h : f d0 d1 d2 d3 d4 d5 C) : mUn6 (.tup [d0, d1, d2, d3, d4, d5]) f C := h
end
end Tr

set_option maxHeartbeats 4000000
namespace Tr
open PySem L2 PySem.Spec PyProof.Rows
section
variable {X : Cx} {T : TX X} {ρ : Rho} {C : Cells} {N : TEnds} {Q : QE} {e : Expr} {pos pos' np rp : Pos} {x n cx fld : Str} {c : Value} {i k : Nat} {body suite : List Stmt} {b₀ : Stmt} {XQ' : Value → XF → Rho → Cells → Prop} {Cl : Addr}
def tsR (X : Cx) (T : TX X) (i : Nat) (st : List Stmt) (a : Addr) (cls : Value) (d : Option Addr) : TS := fun D σ H => ∃ (fs : XF) (ρ' : Rho) (C' : Cells) (H0' : Hp) (N' : TEnds), CellsR X.K H0' C' H ∧ SlotsR X.K H0' ρ' σ ∧ ρ'.length = σ.length ∧ ExcR X.K H0' H d fs ∧ T.A H0' C' H ∧ Tail X H0' C' H N' D ∧
  ∀ (oe : Obj) (pl : List (Addr × Obj)) (xe : Value → Shared → Prop) (m : Nat) (ve : Array Value) (T' : TX (sX X a pl xe)), Zc cls d oe → oe.data = .fields ve → (a, oe) ∈ pl → Tied pl (m + 1) (.ref a) → (∀ H0 C H, T'.A H0 C H → ExcR X.K H0 H d fs) →
    (∀ cls fs ρ C, T.XQ cls fs (ρ.set i none) C → T'.XQ cls fs ρ C) → WSs T' st ρ' C' N'
theorem ws_tryR (hs : X.stack = X.env :: X.outer) (hf : X.env.frame = some X.env.locals) (hN : X.N.Nodup) (hi : X.N[i]? = some n) (hln : X.env.kindOf n = some .local) (hc : Names X x c) (XQ' : Value → XF → Rho → Cells → Prop)
    (hb : ∀ (pn : List (Addr × Obj)) (xe : Value → Shared → Prop) (T' : TX (X.tr pn xe)), T'.XQ = XQ' → WSs T' body ρ C N)
    (hh : ∀ cls fs ρ' C', XQ' cls fs ρ' C' → ∃ b, W.exmOne X.K cls c = some b ∧ (b = false → T.XQ cls fs ρ' C') ∧
      (b = true → ∀ (a : Addr) (oe : Obj) (d : Option Addr) (pl : List (Addr × Obj)) (xe : Value → Shared → Prop) (m : Nat) (ve : Array Value) (T' : TX (sX X a pl xe)), Zc cls d oe → oe.data = .fields ve → (a, oe) ∈ pl → Tied pl (m + 1) (.ref a) → (∀ H0 C H, T'.A H0 C H → ExcR X.K H0 H d fs) →
        (∀ cls fs ρ C, T.XQ cls fs (ρ.set i none) C → T'.XQ cls fs ρ C) →
        WSs T' (b₀ :: suite) (ρ'.set i (some (.raw (.ref a)))) C' { nx := fun ρ C => N.nx (ρ.set i none) C, rt := N.rt, bk := fun ρ C => N.bk (ρ.set i none) C, ct := fun ρ C => N.ct (ρ.set i none) C })) :
    WS T (.Try body [.ExceptHandler (some (.Name x np)) (some n) (b₀ :: suite) pos'] [] [] pos) ρ C N := by
  refine PS.imp (ps_tryX_as (ts := tsR X T i (b₀ :: suite)) (tb := tbT T XQ' ρ C N) hs hf hN hi hln hc (fun hd => T.pas _ _ (SameStack.mark _ _)) T.tk (fun W pn xe tkW pass pas => ⟨fun pins s σ H D I ⟨H0, at_, k, imp⟩ => ?_⟩) (fun a oe cls d pl xe m ve hz hfl mem tied tkS pasS => ⟨fun pins s σ H D I ⟨fs, ρ', C', H0', N', cc, sl, l, ex, tA, k, w⟩ => ?_⟩)) fun D σ H ⟨H0, at_, k⟩ => ⟨H0, at_, k, fun cls d σ' H' fs ρ' C' H0' p cc s l ex xq => ?_⟩
  · exact (hb pn xe { A := fun H0' C' H' => Stp H0 C H H0' C' H', up := fun a c p _ => a.trans c p, XQ := XQ', tk := tkW.imp fun cls d σ' H' ⟨fs, ρ', C', H0', a, c, s, l, ex, q⟩ => imp cls d σ' H' fs ρ' C' H0' a c s l ex q, pass := pass, pas := pas } rfl).run pins s σ H D I ⟨H0, ⟨Stp.refl _ _ _, at_.c, at_.s, at_.l⟩, ⟨k.nx, k.rt, k.bk, k.ct⟩⟩
  · exact (w oe pl xe m ve { A := fun H0 C H => ExcR X.K H0 H d fs ∧ T.A H0 C H, up := fun h c p c' => ⟨h.1.step c p, T.up h.2 c p c'⟩, XQ := fun cls fs ρ C => T.XQ cls fs (ρ.set i none) C, tk := tkS.imp fun cls d σ H ⟨fs, ρ, C, H0, A, c, s, l, x, q⟩ => ⟨fs, ρ.set i none, C, H0, A.2, c, SlotsR.unset i s, by rw [List.length_set, List.length_set]; exact l, x, q⟩, pass := pasS _ _ (SameStack.refl _), pas := pasS } hz hfl mem tied (fun _ _ _ h => h.1) (fun _ _ _ _ h => h)).run pins s σ H D I ⟨H0', ⟨⟨ex, tA⟩, cc, sl, l⟩, ⟨k.nx, k.rt, k.bk, k.ct⟩⟩
  · obtain ⟨b, h1, h2, h3⟩ := hh cls fs ρ' C' xq
    refine ⟨b, h1, fun hb1 a ha => ?_, fun hb0 => ⟨fs, ρ', C', H0', T.up at_.a at_.c p cc, cc, s, l, ex, h2 hb0⟩⟩
    have k' := k.after p cc
    have un : ∀ {Q : QS} {R : L2.St → Hp → Prop}, ContS X H0' C' H' Q R → ContS X H0' C' H' (fun ρ C => Q (ρ.set i none) C) (fun σ H => R (σ.set i none) H) := fun kk ρ1 σ1 C1 H1 H01 p1 c1 s1 l1 q1 =>
      kk _ _ C1 H1 H01 p1 c1 (SlotsR.unset i s1) (by rw [List.length_set, List.length_set]; exact l1) q1
    exact ⟨fs, ρ'.set i (some (.raw (.ref a))), C', H0', { nx := fun ρ C => N.nx (ρ.set i none) C, rt := N.rt, bk := fun ρ C => N.bk (ρ.set i none) C, ct := fun ρ C => N.ct (ρ.set i none) C }, cc, SlotsR.set i s rfl l, by rw [List.length_set, List.length_set]; exact l, ex, T.up at_.a at_.c p cc, ⟨un k'.nx, k'.rt, un k'.bk, un k'.ct⟩, fun oe pl xe m ve T' hz hfl mem tied hA hX => h3 hb1 a oe d pl xe m ve T' hz hfl mem tied hA hX⟩
theorem ws_raiseFrom {a : Addr} {oe : Obj} {d : Option Addr} {cls : Value} {pl : List (Addr × Obj)} {xe : Value → Shared → Prop} {m : Nat} {ve : Array Value} {T' : TX (sX X a pl xe)} {p2 p3 : Pos} (hz : Zc cls d oe) (hdt : oe.data = .fields ve) (hm : (a, oe) ∈ pl) (ht : Tied pl (m + 1) (.ref a)) (hsub : W.subIn X.K cls (.type "BaseException") = some true)
    (hx : XCls X.prog X.K X.mg Cl fld) (hr : RoomG (k + 1) X.A) (hg : Gl X cx) (hmg : X.mg cx = some (.ref Cl)) (hi : X.N[i]? = some n) (hv : Vis X.env.scope n) (hρ : ρ[i]? = some (some (.raw (.ref a)))) (h : WE T' e ρ C fun d C1 => T'.XQ (.ref Cl) (some ([fld], [d])) ρ C1)
    (hs : starEach [e] X.env = (false, eval e X.env) :: starEach [] X.env := by rfl) (hdb : (cx == ("__debug__" : Str)) = false := by decide) (hdn : (n == ("__debug__" : Str)) = false := by decide) (hcn : (n == ("__classdict__" : Str)) = false := by decide) :
    WS T' (.Raise (some (.Call (.Name cx p2) [e] [] pos)) (some (.Name n p3)) pos') ρ C N := by
  obtain ⟨fI, i1, i2, S⟩ := hx.ex
  obtain ⟨B, newId, initId, bmB, XF, Ox⟩ := hx.o
  have rm : L2H.RoomH (k + 1) (sX X a pl xe).A := ⟨hr.rm.dp, hr.rm.un⟩
  refine PS.imp (ps_raiseFrom (X := sX X a pl xe) (a := a) (oe := oe) (i := i) rfl hm hdt ht hz.1 hsub T'.tk (pmk_sup XF Ox i1 i2 S rm hg hmg h hs hdb) hi hv hdn hcn) fun Dn σ H ⟨H0, at_, _⟩ => ⟨?_, H0, at_, fun v d C1 H1 H01 p1 c1 r1 q dx hdx => ?_⟩
  · obtain ⟨v, hv1, hv2⟩ := at_.s i _ hρ
    cases hv2
    exact hv1
  · obtain ⟨p2, c2⟩ := stp_new (o := .xd [(fld, v)]) c1 hdx
    have a2 := (at_.step p1 c1).step p2 c2
    exact ⟨some ([fld], [d]), ρ, C1, _, a2.a, a2.c, a2.s, a2.l, ⟨[v], upd_same, rfl, Reps.cons (r1.mono p2.base) Reps.nil⟩, q⟩
theorem XCls.sub {P : Program} {K : W.Frag} {mg : Str → Option Value} {C : Addr} {f : Str} (hx : XCls P K mg C f) : W.subIn K (.ref C) (.type "BaseException") = some true := by
  obtain ⟨_, _, _, _, _, Ox⟩ := hx.o
  exact Ox.bx
def mRaiseF (K : W.Frag) (A : ME) (Cl : Addr) (fld : Str) (Xq : QX) (cls : Value) : MB := fun C => W.subIn K cls (.type "BaseException") = some true ∧ A C fun d C1 => Xq (.ref Cl) (some ([fld], [d])) C1
theorem sb_tryR {α : Type} {cv : Value} {mb : QX → MB} {A : ME} {Xq : QX} {rest : List Stmt} {p2 p3 rp hp : Pos} (enc : α → Rho) (J : α → MB) (ρe : Rho) (hs : X.stack = X.env :: X.outer) (hf : X.env.frame = some X.env.locals) (hN : X.N.Nodup) (hi : X.N[i]? = some n) (hln : X.env.kindOf n = some .local) (hc : Names X x cv)
    (hX : ∀ ρ' cls fs C, Xq cls fs C → T.XQ cls fs ρ' C) (hJ : ∀ a, SB T rest (enc a) (J a) N) (hn : ∀ a d, (enc a)[i]? ≠ some (some d))
    (hb : ∀ (pn : List (Addr × Obj)) (xe : Value → Shared → Prop) (T' : TX (X.tr pn xe)) (X' : QX), (∀ ρ', LeR ρe ρ' → ∀ cls fs C, X' cls fs C → T'.XQ cls fs ρ' C) → ∀ W : QS, (∀ a ρ' C, LeR (enc a) ρ' → J a C → W ρ' C) → SB T' body ρ (mb X') { N with nx := W })
    (hx : XCls X.prog X.K X.mg Cl fld) (hr : RoomG (k + 1) X.A) (hg : Gl X cx) (hmg : X.mg cx = some (.ref Cl))
    (ha : ∀ (a : Addr) (pl : List (Addr × Obj)) (xe : Value → Shared → Prop) (T' : TX (sX X a pl xe)), SE T' e (ρe.set i (some (.raw (.ref a)))) A)
    (hil : i < ρe.length) (hse : starEach [e] X.env = (false, eval e X.env) :: starEach [] X.env := by rfl) (hdb : (cx == ("__debug__" : Str)) = false := by decide) (hdn : (n == ("__debug__" : Str)) = false := by decide) (hcn : (n == ("__classdict__" : Str)) = false := by decide) :
    SB T (.Try body [.ExceptHandler (some (.Name x np)) (some n) [.Raise (some (.Call (.Name cx p2) [e] [] rp)) (some (.Name n p3)) pos'] hp] [] [] pos :: rest) ρ (mTry X.K cv mb (fun _ cls => mRaiseF X.K A Cl fld Xq cls) Xq) N := fun C q => by
  have hw : ∀ a ρ' C, LeR (enc a) ρ' → J a C → WSs T rest ρ' C N := fun a ρ' C l q => wss_forget l (hJ a C q)
  refine wss_cons (ws_tryR hs hf hN hi hln hc (fun cls fs ρ' C' => LeR ρe ρ' ∧ ∃ b, W.exmOne X.K cls cv = some b ∧ if b = true then mRaiseF X.K A Cl fld Xq cls C' else Xq cls fs C') (fun pn xe T' eX => hb pn xe T' _ (fun ρ' l cls fs C' h => by rw [eX]; exact ⟨l, h⟩) _ hw C q) ?_)
  rintro cls fs ρ' C' ⟨l, b, h1, h2⟩
  refine ⟨b, h1, fun hb0 => ?_, fun hb1 a oe d pl xe m ve T' hz hfl mem tied hA hXX => ?_⟩
  · subst hb0; exact hX _ _ _ _ h2
  · subst hb1
    obtain ⟨hsub, h3⟩ : mRaiseF X.K A Cl fld Xq cls C' := h2
    refine wss_forget l.set (wss_one (ws_raiseFrom hz hfl mem tied hsub hx hr hg hmg hi (.inl hln) (by rw [List.getElem?_set_self hil]) ((ha a pl xe T' C' _ h3).mono fun d C1 h4 => hXX _ _ _ _ (hX _ _ _ _ h4)) hse hdb hdn hcn))
end
end Tr

set_option maxHeartbeats 4000000
namespace Tr
open PySem L2 PySem.Spec PyProof.Rows
section
variable {C : Cells} {Q : QE} {i j : Int} {x y s t : Str} {xs ys ds : List D} {d e d1 d2 : D} {K : W.Frag} {own : D → D → ME} {own1 : D → ME} {b k : Bool}
theorem s_add_int (h : Q (.int (i + j)) C) : oAdd (.int i) (.int j) C Q := h
theorem s_add_str (h : x.length + y.length ≤ 100000 ∧ Q (.str (x ++ y)) C) : oAdd (.str x) (.str y) C Q := h
theorem s_add_tup (h : xs.length + ys.length ≤ 100000 ∧ Q (.tup (xs ++ ys)) C) : oAdd (.tup xs) (.tup ys) C Q := h
theorem s_add_lst (h : xs.length + ys.length ≤ 100000 ∧ Q (.lst (xs ++ ys)) C) : oAdd (.lst xs) (.lst ys) C Q := h
theorem s_add_cell (h1 : LstD C d xs) (h2 : LstD C e ys) (h : xs.length + ys.length ≤ 100000 ∧ Q (.lst (xs ++ ys)) C) : oAdd d e C Q := by
  unfold oAdd; split
  · obtain h1 | ⟨_, h1, _⟩ := h1 <;> cases h1
  · obtain h1 | ⟨_, h1, _⟩ := h1 <;> cases h1
  · obtain h1 | ⟨_, h1, _⟩ := h1 <;> cases h1
  · obtain h1 | ⟨_, h1, _⟩ := h1 <;> cases h1
    obtain h2 | ⟨_, h2, _⟩ := h2 <;> cases h2
    exact h
  · exact ⟨xs, ys, h1, h2, h⟩
theorem s_addO {own : D → D → ME} (n : isInsD d1 = false) (h : oAdd d1 d2 C Q) : oAddO own d1 d2 C Q := by
  unfold oAddO; split
  · cases n
  · exact h
theorem s_addOI {own : D → D → ME} {c : Addr} {ns : List Str} (h : own (.ins c ns ds) d2 C Q) : oAddO own (.ins c ns ds) d2 C Q := h
theorem s_ixO {Cl : Addr} {F : FS} {Xq : QX} (n : isInsD d1 = false) (h : pIx d1 d2 C Q) : pIxO Cl F Xq d1 d2 C Q := by
  unfold pIxO; split
  · cases n
  · exact h
theorem s_min (h : Q (.int (if j < i then j else i)) C) : on2 pMin2 [.int i, .int j] C Q := h
theorem s_sub (h : Q (.int (i - j)) C) : oSub (.int i) (.int j) C Q := h
theorem s_mul (h : CMul i j ∧ Q (.int (i * j)) C) : oMul (.int i) (.int j) C Q := h
theorem s_fdiv (h : (0 < j ∧ j < 1073741824) ∧ Q (.int (i / j)) C) : oFdiv (.int i) (.int j) C Q := h
theorem s_mod (h : 0 < j ∧ Q (.int (i % j)) C) : oMod (.int i) (.int j) C Q := h
theorem s_pow (h : CPow i j ∧ Q (.int (i ^ j.toNat)) C) : oPow (.int i) (.int j) C Q := h
theorem s_lt (h : Q (.bl (decide (i < j))) C) : oLt (.int i) (.int j) C Q := h
theorem s_le (h : Q (.bl (decide (i ≤ j))) C) : oLe (.int i) (.int j) C Q := h
theorem s_gt (h : Q (.bl (decide (j < i))) C) : oGt (.int i) (.int j) C Q := h
theorem s_ge (h : Q (.bl (decide (j ≤ i))) C) : oGe (.int i) (.int j) C Q := h
theorem s_lt_str (h : Q (.bl (decide (x.cps.toList < y.cps.toList))) C) : oLt (.str x) (.str y) C Q := h
theorem s_le_str (h : Q (.bl (!decide (y.cps.toList < x.cps.toList))) C) : oLe (.str x) (.str y) C Q := h
theorem s_eq_int (h : Q (.bl (decide (i = j))) C) : oEq own (.int i) (.int j) C Q := h
theorem s_eq_str (h : Q (.bl (decide (x = y))) C) : oEq own (.str x) (.str y) C Q := h
theorem s_eq_bl (h : Q (.bl (b == k)) C) : oEq own (.bl b) (.bl k) C Q := h
theorem s_ne_int (h : Q (.bl (!decide (i = j))) C) : oNe own (.int i) (.int j) C Q := h
theorem s_ne_str (h : Q (.bl (!decide (x = y))) C) : oNe own (.str x) (.str y) C Q := h
theorem s_ne_bl (h : Q (.bl (b != k)) C) : oNe own (.bl b) (.bl k) C Q := h
def isB : D → Bool
  | .int _ | .str _ | .bl _ => true
  | _ => false
def EqD (C : Cells) (d1 d2 : D) (b : Bool) : Prop := ∃ p1 p2, PyR C d1 p1 ∧ PyR C d2 p2 ∧ SeqAt.shaped p1 = true ∧ SeqAt.shaped p2 = true ∧ PyData.eqv p1 p2 = b
theorem eq_go (n : isB d1 = false ∨ isB d2 = false) (h : (∃ p1 p2, PyR C d1 p1 ∧ PyR C d2 p2 ∧ SeqAt.shaped p1 = true ∧ SeqAt.shaped p2 = true ∧ Q (.bl (PyData.eqv p1 p2)) C) ∨ own d1 d2 C Q) : oEq own d1 d2 C Q := by
  unfold oEq; split
  · rcases n with n | n <;> cases n
  · rcases n with n | n <;> cases n
  · rcases n with n | n <;> cases n
  · exact h
theorem ne_go (n : isB d1 = false ∨ isB d2 = false) (h : (∃ p1 p2, PyR C d1 p1 ∧ PyR C d2 p2 ∧ SeqAt.shaped p1 = true ∧ SeqAt.shaped p2 = true ∧ Q (.bl (!PyData.eqv p1 p2)) C) ∨ own d1 d2 C Q) : oNe own d1 d2 C Q := by
  unfold oNe; split
  · rcases n with n | n <;> cases n
  · rcases n with n | n <;> cases n
  · rcases n with n | n <;> cases n
  · exact h
theorem s_eqD (n : isB d1 = false ∨ isB d2 = false) (h : EqD C d1 d2 b) (q : Q (.bl b) C) : oEq own d1 d2 C Q := by
  obtain ⟨p1, p2, h1, h2, h3, h4, rfl⟩ := h
  exact eq_go n (.inl ⟨p1, p2, h1, h2, h3, h4, q⟩)
theorem s_neD (n : isB d1 = false ∨ isB d2 = false) (h : EqD C d1 d2 b) (q : Q (.bl (!b)) C) : oNe own d1 d2 C Q := by
  obtain ⟨p1, p2, h1, h2, h3, h4, rfl⟩ := h
  exact ne_go n (.inl ⟨p1, p2, h1, h2, h3, h4, q⟩)
theorem s_eqO (n : isB d1 = false ∨ isB d2 = false) (h : own d1 d2 C Q) : oEq own d1 d2 C Q := eq_go n (.inr h)
theorem eqd_lstS {xs ys : List Str} (h1 : LstD C d1 (xs.map D.str)) (h2 : LstD C d2 (ys.map D.str)) (hx : ∀ x ∈ xs, PyData.strOk x = true) (hy : ∀ x ∈ ys, PyData.strOk x = true) : EqD C d1 d2 (decide (xs = ys)) :=
  ⟨_, _, pyR_l h1 (plain_strs xs), pyR_l h2 (plain_strs ys), shaped_lstS hx, shaped_lstS hy, by rw [PyData.eqv, eqv_strs]⟩
theorem eqd_lstI {xs ys : List Int} (h1 : LstD C d1 (xs.map D.int)) (h2 : LstD C d2 (ys.map D.int)) : EqD C d1 d2 (decide (xs = ys)) :=
  ⟨_, _, pyR_l h1 (plain_ints xs), pyR_l h2 (plain_ints ys), shaped_lstI xs, shaped_lstI ys, by rw [PyData.eqv, eqv_ints]⟩
theorem s_is_bl (h : Q (.bl (decide (b = k))) C) : oIs (.bl b) (.bl k) C Q := h
theorem s_isnot_bl (h : Q (.bl (!decide (b = k))) C) : oIsNot (.bl b) (.bl k) C Q := h
def notRaw : D → Bool
  | .raw _ => false
  | _ => true
theorem s_isN (n : notRaw d = true) (h : Q (.bl (isNon d)) C) : oIs d .non C Q := by
  cases d with
  | raw _ => cases n
  | _ => exact ⟨fun w e => (by cases e), h⟩
theorem s_isNotN (n : notRaw d = true) (h : Q (.bl (!isNon d)) C) : oIsNot d .non C Q := by
  cases d with
  | raw _ => cases n
  | _ => exact ⟨fun w e => (by cases e), h⟩
theorem s_isN_ref {a : Addr} (h : Q (.bl false) C) : oIs (.raw (.ref a)) .non C Q := h
theorem s_isNotN_ref {a : Addr} (h : Q (.bl true) C) : oIsNot (.raw (.ref a)) .non C Q := h
theorem s_inS {xs : List Str} (h1 : SeqD C d (xs.map D.str)) (h : Q (.bl (decide (s ∈ xs))) C) : oIn (.str s) d C Q :=
  .inl ⟨_, h1, rfl, by simp [flatD], by rw [inD_strs]; exact h⟩
theorem s_notInS {xs : List Str} (h1 : SeqD C d (xs.map D.str)) (h : Q (.bl (!decide (s ∈ xs))) C) : oNotIn (.str s) d C Q :=
  ⟨_, h1, rfl, by simp [flatD], by rw [inD_strs]; exact h⟩
theorem s_inSign {n : Nat} {z : Str} (h : Q (.bl (decide (n ∈ z.cps.toList))) C) : oIn (.str ⟨#[n]⟩) (.str z) C Q := .inr ⟨n, z, rfl, rfl, h⟩
theorem s_notInSign {n : Nat} {z : Str} (h : Q (.bl (!decide (n ∈ z.cps.toList))) C) : oNotInS (.str ⟨#[n]⟩) (.str z) C Q := ⟨n, z, rfl, rfl, h⟩
theorem s_tup (h : ds.length ≤ 100000 ∧ Q (.tup ds) C) : pTup ds C Q := h
theorem s_lst (h : ds.length ≤ 100000 ∧ Q (.lst ds) C) : pLst ds C Q := h
theorem s_lstC (h : ds.length ≤ 100000 ∧ ∀ p, Q (.raw (.ref p)) ((p, .lst ds) :: C)) : pLstC ds C Q := h
theorem s_tru {R : QT} (h : R b C) : pTru (.bl b) C R := h
theorem s_ii {g : Int → Int → Int} (h : Q (.int (g i j)) C) : pII g (.int i) (.int j) C Q := h
theorem s_neg (h : Q (.int (-i)) C) : pNeg (.int i) C Q := h
theorem s_fld {Cl : Addr} {ns : List Str} {m : Str} (h1 : InsD C d Cl ns ds) (h2 : Cls K Cl) (h3 : NoAttr K Cl m) (h4 : (ns.zip ds).lookup m = some e) (h : Q e C) : pFld K m d C Q := ⟨_, _, _, _, h1, h2, h3, h4, h⟩
theorem s_ix_tup (h1 : atI ds i = some d) (h : Q d C) : pIx (.tup ds) (.int i) C Q := ⟨d, h1, h⟩
theorem s_ix_lst (h1 : atI ds i = some d) (h : Q d C) : pIx (.lst ds) (.int i) C Q := ⟨d, h1, h⟩
theorem s_ix_cell {a : Addr} (h0 : LstD C (.raw (.ref a)) ds) (h1 : atI ds i = some d) (h : Q d C) : pIx (.raw (.ref a)) (.int i) C Q := ⟨ds, d, h0, h1, h⟩
theorem s_oi {R : Option Int → Cells → Prop} (h : R (some i) C) : pOI (.int i) C R := h
theorem s_sl_tup {l u : Option Int} (h : Q (.tup (cutD ds l u)) C) : pSl (.tup ds) l u C Q := h
theorem s_sl_lst {l u : Option Int} (h : Q (.lst (cutD ds l u)) C) : pSl (.lst ds) l u C Q := h
theorem s_sl_str {l u : Option Int} (h : s.length ≤ 100000 ∧ Q (.str (cutS s l u)) C) : pSl (.str s) l u C Q := h
theorem s_sl_cell {a : Addr} {l u : Option Int} (h0 : LstD C (.raw (.ref a)) ds) (h : Q (.lst (cutD ds l u)) C) : pSl (.raw (.ref a)) l u C Q := ⟨ds, h0, h⟩
theorem s_rev (h0 : LstD C d ds) (h : Q (.lst ds.reverse) C) : pRev d C Q := ⟨ds, h0, h⟩
theorem s_revC (h0 : LstD C d ds) (h : ∀ p, Q (.raw (.ref p)) ((p, .lst ds.reverse) :: C)) : pRevC d C Q := ⟨ds, h0, h⟩
variable {R : QI}
theorem s_it_lst (h : R ds (fun _ => True) C) : pIter (.lst ds) C R := h
theorem s_it_tup (h : R ds (fun _ => True) C) : pIter (.tup ds) C R := h
theorem s_it_cell {a : Addr} (h0 : SeqD C (.raw (.ref a)) ds) (h : R ds (fun C' => SeqD C' (.raw (.ref a)) ds) C) : pIter (.raw (.ref a)) C R := ⟨ds, h0, h⟩
theorem s_itS (h : R (signsD s) (fun _ => True) C) : pIterS (.str s) C R := h
theorem s_rg1 (h : (-(2 ^ 62) ≤ i ∧ i < 2 ^ 62) ∧ R (rangeD 0 i.toNat) (fun _ => True) C) : pRange1 (.int i) C R := h
theorem s_rg2 (h : (-(2 ^ 62) ≤ i ∧ i < 2 ^ 62 ∧ -(2 ^ 62) ≤ j ∧ j < 2 ^ 62) ∧ R (rangeD i (j - i).toNat) (fun _ => True) C) : pRange2 (.int i) (.int j) C R := h
theorem s_en_lst (h : R (enumD 0 ds) (fun _ => True) C) : pEnum (.lst ds) C R := h
theorem s_en_tup (h : R (enumD 0 ds) (fun _ => True) C) : pEnum (.tup ds) C R := h
theorem s_en_cell {a : Addr} (h0 : SeqD C (.raw (.ref a)) ds) (h : R (enumD 0 ds) (fun C' => SeqD C' (.raw (.ref a)) ds) C) : pEnum (.raw (.ref a)) C R := ⟨ds, h0, h⟩
theorem s_un2 {β : Sort _} {q : β} {f : D → D → Cells → β → Prop} (h : f d e C q) : un2 (.tup [d, e]) f C q := h
theorem s_un3 {β : Sort _} {q : β} {f : D → D → D → Cells → β → Prop} (h : f d e d1 C q) : un3 (.tup [d, e, d1]) f C q := h
theorem s_mun2 {f : D → D → MB} (h : f d e C) : mUn2 (.tup [d, e]) f C := h
theorem s_mun3 {f : D → D → D → MB} (h : f d e d1 C) : mUn3 (.tup [d, e, d1]) f C := h
theorem s_mun5 {d3 : D} {f : D → D → D → D → D → MB} (h : f d e d1 d2 d3 C) : mUn5 (.tup [d, e, d1, d2, d3]) f C := h
theorem s_mun4 {f : D → D → D → D → MB} (h : f d e d1 d2 C) : mUn4 (.tup [d, e, d1, d2]) f C := h
theorem s_len_lst (h : Q (.int ds.length) C) : on1 (pLen1 own1) [.lst ds] C Q := h
theorem s_len_tup (h : Q (.int ds.length) C) : on1 (pLen1 own1) [.tup ds] C Q := h
theorem s_len_str (h : s.length ≤ 100000 ∧ Q (.int s.length) C) : on1 (pLen1 own1) [.str s] C Q := h
theorem s_len_cell {a : Addr} (h0 : LstD C (.raw (.ref a)) ds) (h : Q (.int ds.length) C) : on1 (pLen1 own1) [.raw (.ref a)] C Q := .inl ⟨ds, h0, h⟩
theorem s_len_own {Cl : Addr} {ns : List Str} (h : own1 (.ins Cl ns ds) C Q) : on1 (pLen1 own1) [.ins Cl ns ds] C Q := .inr h
theorem s_str_str (h : Q (.str s) C) : on1 (pStr1 own1) [.str s] C Q := h
theorem s_str_int (h : i.natAbs.log2 < 1920 ∧ Q (.str (toString i)) C) : on1 (pStr1 own1) [.int i] C Q := h
theorem s_str_own {Cl : Addr} {ns : List Str} (h : own1 (.ins Cl ns ds) C Q) : on1 (pStr1 own1) [.ins Cl ns ds] C Q := h
theorem s_str_ownC {a : Addr} (h : own1 (.raw (.ref a)) C Q) : on1 (pStr1 own1) [.raw (.ref a)] C Q := h
theorem s_int_int (h : Q (.int i) C) : on1 pInt1 [.int i] C Q := h
theorem s_int_bl (h : Q (.int (if b then 1 else 0)) C) : on1 pInt1 [.bl b] C Q := h
theorem s_int_str (h : s.length ≤ 640 ∧ ∃ n, intText? s = some n ∧ Q (.int n) C) : on1 pInt1 [.str s] C Q := h
theorem s_list_lst (h : Q (.lst ds) C) : on1 pList1 [.lst ds] C Q := h
theorem s_list_tup (h : Q (.lst ds) C) : on1 pList1 [.tup ds] C Q := h
theorem s_list_cell {a : Addr} (h0 : SeqD C (.raw (.ref a)) ds) (h : Q (.lst ds) C) : on1 pList1 [.raw (.ref a)] C Q := ⟨ds, h0, h⟩
theorem s_listC_lst (h : ∀ p, Q (.raw (.ref p)) ((p, .lst ds) :: C)) : on1 pListC1 [.lst ds] C Q := h
theorem s_listC_tup (h : ∀ p, Q (.raw (.ref p)) ((p, .lst ds) :: C)) : on1 pListC1 [.tup ds] C Q := h
theorem s_listC_cell {a : Addr} (h0 : SeqD C (.raw (.ref a)) ds) (h : ∀ p, Q (.raw (.ref p)) ((p, .lst ds) :: C)) : on1 pListC1 [.raw (.ref a)] C Q := ⟨ds, h0, h⟩
theorem s_tuple_lst (h : Q (.tup ds) C) : on1 pTuple1 [.lst ds] C Q := h
theorem s_tuple_tup (h : Q (.tup ds) C) : on1 pTuple1 [.tup ds] C Q := h
theorem s_tuple_seq (h0 : SeqD C d ds) (h : Q (.tup ds) C) : on1 pTuple1 [d] C Q := by
  show pTuple1 d C Q
  unfold pTuple1; split
  · obtain (h0 | ⟨_, h0, _⟩) | h0 := h0 <;> cases h0; exact h
  · obtain (h0 | ⟨_, h0, _⟩) | h0 := h0 <;> cases h0; exact h
  · exact ⟨ds, h0, h⟩
theorem s_list_seq (h0 : SeqD C d ds) (h : Q (.lst ds) C) : on1 pList1 [d] C Q := by
  show pList1 d C Q
  unfold pList1; split
  · obtain (h0 | ⟨_, h0, _⟩) | h0 := h0 <;> cases h0; exact h
  · obtain (h0 | ⟨_, h0, _⟩) | h0 := h0 <;> cases h0; exact h
  · exact ⟨ds, h0, h⟩
theorem s_it_seq (h0 : SeqD C d ds) (h : ∀ P : Cells → Prop, (∀ C', SeqD C' d ds → P C') → R ds P C) : pIter d C R := by
  unfold pIter; split
  · obtain (h0 | ⟨_, h0, _⟩) | h0 := h0 <;> cases h0; exact h _ fun _ _ => trivial
  · obtain (h0 | ⟨_, h0, _⟩) | h0 := h0 <;> cases h0; exact h _ fun _ _ => trivial
  · exact ⟨ds, h0, h _ fun _ h => h⟩
theorem s_allM {α : Type} {l : List α} {f : α → Bool} (h : Q (.bl (l.all f)) C) : on1 pAll1 [.lst (l.map fun a => D.bl (f a))] C Q :=
  ⟨l.map f, by rw [List.map_map]; rfl, by rw [List.all_map]; exact h⟩
theorem s_anyM {α : Type} {l : List α} {f : α → Bool} (h : Q (.bl (l.any f)) C) : on1 pAny1 [.lst (l.map fun a => D.bl (f a))] C Q :=
  ⟨l.map f, by rw [List.map_map]; rfl, by rw [List.any_map]; exact h⟩
theorem s_abs (h : Q (.int (if i < 0 then -i else i)) C) : on1 pAbs1 [.int i] C Q := h
theorem s_max (h : Q (.int (if j > i then j else i)) C) : on2 pMax2 [.int i, .int j] C Q := h
theorem s_isi {tv u : Value} (h1 : ClsD e u) (h2 : TyD K C d tv) (h3 : W.kitOne K tv u = some b) (h : Q (.bl b) C) : on2 (pIsI K) [d, e] C Q := .inl ⟨tv, u, b, h1, h2, h3, h⟩
theorem s_isiT {tv : Value} {us : List Value} (h1 : Paired ClsD ds us) (h2 : TyD K C d tv) (h3 : W.kitAny K tv us = some b) (h : Q (.bl b) C) : on2 (pIsI K) [d, .tup ds] C Q := .inr ⟨ds, tv, us, b, rfl, h1, h2, h3, h⟩
theorem s_onStr {β : Sort _} {q : β} {kk : Str → Cells → β → Prop} (h : kk s C q) : onStr (.str s) kk C q := h
theorem s_split (h : (t.length == 0) = false ∧ s.length ≤ 100000 ∧ Q (.lst ((Txt.split s t).map D.str)) C) : pSplit s (.str t) C Q := h
theorem s_part (h : (t.length == 0) = false ∧ s.length ≤ 100000 ∧ Q (.tup [.str (Txt.partition s t).1, .str (Txt.partition s t).2.1, .str (Txt.partition s t).2.2]) C) : pPart s (.str t) C Q := h
theorem s_starts (h : Q (.bl (Txt.startswith s t)) C) : pStarts s (.str t) C Q := h
theorem s_join {zs : List Str} (h0 : SeqD C d (zs.map D.str)) (h : (zs.map (·.length)).sum + zs.length * s.length ≤ 100000 ∧ Q (.str (Txt.join s zs)) C) : pJoin s d C Q := ⟨zs, h0, h⟩
theorem s_fmt_str (h : s.length ≤ 100000 ∧ Q (.str s) C) : pFmt (.str s) C Q := h
theorem s_fmt_int (h : i.natAbs.log2 < 1920 ∧ Q (.str (toString i)) C) : pFmt (.int i) C Q := h
theorem s_app {a : Addr} (n : Nat) (h1 : C[n]? = some (a, .lst ds)) (h : ds.length < 100000 ∧ Q .non (C.set n (a, .lst (ds ++ [d])))) : pApp (.raw (.ref a)) d C Q := ⟨n, a, ds, rfl, h1, h⟩
theorem s_frz {a : Addr} {k : D → MB} {c : Cell} (n : Nat) (h1 : C[n]? = some (a, c)) (h : k c.toD (C.eraseIdx n)) : mFrz (.raw (.ref a)) k C := ⟨n, a, c, rfl, h1, h⟩
theorem s_isL {a : Addr} (h : LstD C (.raw (.ref a)) ds) : isL (.raw (.ref a)) C := by
  obtain h | ⟨z, h, hm⟩ := h
  · cases h
  · cases h; exact ⟨_, _, rfl, hm⟩
theorem s_pop {a : Addr} (n : Nat) (h1 : C[n]? = some (a, .lst (ds ++ [d]))) (h : Q d (C.set n (a, .lst ds))) : pPop (.raw (.ref a)) C Q := ⟨n, a, ds, d, rfl, h1, h⟩
theorem ite2M {c : Prop} [Decidable c] {A B : Prop} (h1 : c → A) (h2 : ¬ c → B) : if c then A else B := by
  by_cases h : c
  · rw [if_pos h]; exact h1 h
  · rw [if_neg h]; exact h2 h
theorem ifT {A B : Prop} (h : A) : if (true : Bool) = true then A else B := h
theorem ifPos {b : Bool} {A B : Prop} (e : b = true) (h : A) : if b = true then A else B := by rw [if_pos e]; exact h
theorem ifNeg {b : Bool} {A B : Prop} (e : b = false) (h : B) : if b = true then A else B := by rw [if_neg (by rw [e]; decide)]; exact h
theorem ifPosN {b : Bool} {A B : Prop} (e : b = false) (h : A) : if (!b) = true then A else B := by rw [if_pos (by rw [e]; rfl)]; exact h
theorem ifNegN {b : Bool} {A B : Prop} (e : b = true) (h : B) : if (!b) = true then A else B := by rw [if_neg (by rw [e]; decide)]; exact h
theorem ifF {A B : Prop} (h : B) : if (false : Bool) = true then A else B := by rw [if_neg (by decide)]; exact h
end
end Tr
namespace Tr
open PySem L2 PySem.Spec PyProof.Rows
theorem drop_id {C : Cells} {d : D} {Q : QE} (h : Q d C) : ∃ C' r, C.Perm (C' ++ r) ∧ Q d C' := ⟨C, [], by simp, h⟩
theorem drop_one {a : Addr} {c : Cell} {C : Cells} {d : D} {Q : QE} (h : Q d C) : ∃ C' r, ((a, c) :: C).Perm (C' ++ r) ∧ Q d C' := ⟨C, [(a, c)], List.perm_append_comm (l₁ := [_]), h⟩
end Tr
namespace Tr
open PySem L2 PySem.Spec PyProof.Rows
theorem if_val {b : Bool} {A B : ME} {C : Cells} {Q : QE} (v : D) (h1 : b = true → ∀ Q : QE, Q v C → A C Q) (h2 : b = false → ∀ Q : QE, Q v C → B C Q) (q : Q v C) : if b = true then A C Q else B C Q := by
  cases b with
  | true => exact h1 rfl _ q
  | false => exact h2 rfl _ q
def isStr : D → Bool
  | .str _ => true
  | _ => false
def strOf : D → Str
  | .str s => s
  | _ => Str.empty
structure AnyD (K : W.Frag) (C : Cells) (d : D) : Prop where
  ty : ∃ t, TyD K C d t ∧ W.kitOne K t (.type "str") = some (isStr d)
  ln : (strOf d).length ≤ 100000
def SqA (K : W.Frag) (C : Cells) (d : D) (b : Bool) : Prop := ∃ t, TyD K C d t ∧ W.kitAny K t [.type "list", .type "tuple"] = some b
theorem any_str {K : W.Frag} {C : Cells} {s : Str} (h : s.length ≤ 100000) : AnyD K C (.str s) := ⟨⟨_, .str s, kit_ty (show kitB "str" "str" = some true by decide +kernel)⟩, h⟩
theorem txt_join (s : Str) (ys : List Str) : Txt.join s ys = Str.join s ys := StrLaws.glued_eq_join s ys
theorem txt_join_len (s : Str) (ys : List Str) : (Txt.join s ys).length ≤ (ys.map (·.length)).sum + ys.length * s.length := by
  rw [txt_join]; exact StrLaws.join_length_le s ys
theorem str_len0 : Str.empty.length = 0 := rfl
theorem seq_ty {K : W.Frag} {C : Cells} {d : D} {xs : List D} (h : SeqD C d xs) : ∃ t, TyD K C d t ∧ W.kitAny K t [.type "list", .type "tuple"] = some true := by
  have kl : W.kitOne K (.type "list") (.type "list") = some true := kit_ty (by decide +kernel)
  have kt : W.kitOne K (.type "tuple") (.type "tuple") = some true := kit_ty (by decide +kernel)
  have klt : W.kitOne K (.type "tuple") (.type "list") = some false := kit_ty (by decide +kernel)
  rcases h with (rfl | ⟨a, rfl, hm⟩) | rfl
  · exact ⟨_, .lst _, kitAny_cons (b := true) kl (fun h => by cases h) (fun _ => rfl)⟩
  · exact ⟨_, .cl hm, kitAny_cons (b := true) kl (fun h => by cases h) (fun _ => rfl)⟩
  · exact ⟨_, .tup _, kitAny_cons (b := false) klt (fun _ => kitAny_cons (b := true) kt (fun h => by cases h) (fun _ => rfl)) (fun h => by cases h)⟩
theorem sq_seq {K : W.Frag} {C : Cells} {d : D} {xs : List D} (h : SeqD C d xs) : SqA K C d true := seq_ty h
theorem s_isSq {K : W.Frag} {C : Cells} {d : D} {b : Bool} {Q : QE} (h : SqA K C d b) (q : Q (.bl b) C) : on2 (pIsI K) [d, .tup [.raw (.ty "list"), .raw (.ty "tuple")]] C Q :=
  let ⟨_, h1, h2⟩ := h
  s_isiT (.cons (.ty _) (.cons (.ty _) .nil)) h1 h2 q
theorem s_isStr {K : W.Frag} {C : Cells} {d : D} {Q : QE} (h : AnyD K C d) (q : Q (.bl (isStr d)) C) : on2 (pIsI K) [d, .raw (.ty "str")] C Q :=
  let ⟨_, h1, h2⟩ := h.ty
  s_isi (.ty _) h1 h2 q
theorem tyD_sub {K : W.Frag} {C C' : Cells} {d : D} {t : Value} (s : ∀ x ∈ C, x ∈ C') (h : TyD K C d t) : TyD K C' d t := by
  cases h with
  | non => exact .non
  | bl => exact .bl _
  | int => exact .int _
  | str => exact .str _
  | lst => exact .lst _
  | tup => exact .tup _
  | ins h => exact .ins h
  | cl h => exact .cl (s _ h)
  | ci h hc => exact .ci (s _ h) hc
theorem sqA_sub {K : W.Frag} {C C' : Cells} {d : D} {b : Bool} (s : ∀ x ∈ C, x ∈ C') (h : SqA K C d b) : SqA K C' d b := let ⟨t, h1, h2⟩ := h; ⟨t, tyD_sub s h1, h2⟩
theorem lstD_sub {C C' : Cells} {d : D} {xs : List D} (s : ∀ x ∈ C, x ∈ C') (h : LstD C d xs) : LstD C' d xs := by
  rcases h with h | ⟨a, h, hm⟩
  · exact .inl h
  · exact .inr ⟨a, h, s _ hm⟩
theorem seqD_sub {C C' : Cells} {d : D} {xs : List D} (s : ∀ x ∈ C, x ∈ C') (h : SeqD C d xs) : SeqD C' d xs := by
  rcases h with h | h
  · exact .inl (lstD_sub s h)
  · exact .inr h
theorem anyD_sub {K : W.Frag} {C C' : Cells} {d : D} (s : ∀ x ∈ C, x ∈ C') (h : AnyD K C d) : AnyD K C' d := ⟨let ⟨t, h1, h2⟩ := h.ty; ⟨t, tyD_sub s h1, h2⟩, h.ln⟩
theorem seqD_tail {C' : Cells} {z c : Addr} {ns : List Str} {fs : List D} {d : D} {xs : List D} (h : SeqD ((z, .ins c ns fs) :: C') d xs) : SeqD C' d xs := by
  rcases h with (h | ⟨a, h, hm⟩) | h
  · exact .inl (.inl h)
  · rcases List.mem_cons.mp hm with e | hm
    · cases e
    · exact .inl (.inr ⟨a, h, hm⟩)
  · exact .inr h
theorem seqD_ins {C' : Cells} {z c : Addr} {ns ns' : List Str} {fs fs' : List D} {d : D} {xs : List D} (h : SeqD ((z, .ins c ns fs) :: C') d xs) : SeqD ((z, .ins c ns' fs') :: C') d xs := seqD_sub (fun _ h => List.mem_cons_of_mem _ h) (seqD_tail h)
theorem atI_in {α : Type} {l : List α} {k : Int} (h0 : 0 ≤ k) (h1 : k < l.length) : ∃ d, atI l k = some d ∧ d ∈ l := by
  unfold atI ixN
  rw [if_pos h0, if_pos h1]
  have h : k.toNat < l.length := by omega
  exact ⟨l[k.toNat], by simp [h], List.getElem_mem h⟩
theorem atI_map {α β : Type} (f : α → β) {l : List α} {k : Int} {x : α} (h : atI l k = some x) : atI (l.map f) k = some (f x) := by
  unfold atI at h ⊢
  rw [List.length_map]
  cases e : ixN l.length k with
  | none => rw [e] at h; cases h
  | some j =>
    rw [e] at h
    have h' : l[j]? = some x := h
    show (l.map f)[j]? = some (f x)
    rw [List.getElem?_map, h']; rfl
theorem atI_last {α : Type} {l : List α} {x : α} : atI (l ++ [x]) (-1) = some x := by
  unfold atI ixN
  rw [List.length_append, List.length_singleton, if_neg (by decide), if_pos (by omega)]
  show (l ++ [x])[((-1 : Int) + ((l.length + 1 : Nat) : Int)).toNat]? = some x
  rw [show ((-1 : Int) + ((l.length + 1 : Nat) : Int)).toNat = l.length by omega]
  simp
theorem s_ix_at {α : Type} {C : Cells} {Q : QE} {l : List α} {g : α → D} {k : Int} (h0 : 0 ≤ k) (h1 : k < l.length) (q : ∀ a ∈ l, Q (g a) C) : pIx (.lst (l.map g)) (.int k) C Q := by
  obtain ⟨a, e, hm⟩ := atI_in (l := l) h0 h1
  exact s_ix_lst (atI_map g e) (q a hm)
theorem callN_all {F : FS} {ds : List D} {C : Cells} {Q : QE} (h : F ds C Q fun _ _ _ => False) : callN F ds C Q := ⟨C, [], by simp, by simpa using h⟩
end Tr
namespace Tr
open PySem L2 PySem.Spec PyProof.Rows
theorem lcB_mapD {C : Cells} {P : Cells → Prop} {f : D → ME} {Q : QE} {ds : List D} (h : D → D) (hp : P C) (hf : ∀ d ∈ ds, ∀ k : QE, k (h d) C → f d C k) (hl : ds.length ≤ 100000) (q : Q (.lst (ds.map h)) C) : lcB P f Q ds [] C := by
  have := lcB_map (P := P) (f := f) (Q := Q) (l := ds) id h hp hf hl q
  rwa [List.map_id] at this
end Tr
namespace Tr
open PySem L2 PySem.Spec PyProof.Rows
theorem lays {k : Nat} : ∀ {ds : List D}, (∀ d ∈ ds, plainD d = true ∧ (toPy d).canLay0 = true ∧ (toPy d).depth ≤ k) → plainDs ds = true ∧ PyData.canLayAll0 (toPys ds) = true ∧ PyData.depthAll (toPys ds) ≤ k
  | [], _ => ⟨rfl, rfl, Nat.zero_le _⟩
  | d :: ds, h => by
    obtain ⟨a, b, c⟩ := h d List.mem_cons_self
    obtain ⟨a2, b2, c2⟩ := lays fun d hd => h d (List.mem_cons_of_mem _ hd)
    refine ⟨by unfold plainDs; rw [a, a2]; rfl, by rw [toPys, PyData.canLayAll0, b, b2]; rfl, ?_⟩
    rw [toPys, PyData.depthAll]
    omega
end Tr

set_option maxHeartbeats 2000000
namespace Tr
open PySem L2 PySem.Spec PyProof.Rows
def fdAt (K : W.Frag) (a : Addr) : Option FuncData := match K.lookup a with
  | some ob => (match ob.data with | .func g => some g | _ => none)
  | none => none
theorem fdAt_ok {K : W.Frag} {a : Addr} {g : FuncData} (h : fdAt K a = some g) : ∃ oc od sl, K.lookup a = some ⟨oc, od, .func g, sl⟩ := by
  unfold fdAt at h
  cases e : K.lookup a with
  | none => rw [e] at h; cases h
  | some ob =>
    obtain ⟨c, d, dt, sl⟩ := ob
    rw [e] at h
    cases dt with
    | func g' => cases h; exact ⟨c, d, sl, rfl⟩
    | _ => cases h
def refOr (v : Value) : Addr := match v with
  | .ref a => a
  | _ => 0
def isRefV (v : Value) : Bool := match v with
  | .ref _ => true
  | _ => false
theorem isRefV_ok {v : Value} (h : isRefV v = true) : v = .ref (refOr v) := by cases v <;> first | rfl | cases h
def dfAd (K : W.Frag) (f : Addr) : Addr := match fdAt K f with
  | some g => refOr g.defaults
  | none => 0
def cdAd (K : W.Frag) (f : Addr) : Addr := match fdAt K f with
  | some g => refOr g.code
  | none => 0
def hdAd (l : List (Str × Addr)) : Addr := match l with
  | p :: _ => p.2
  | [] => 0
def clAd (K : W.Frag) (f : Addr) : Addr := match fdAt K f with
  | some g => hdAd g.closure
  | none => 0
def seqAt (K : W.Frag) (a : Addr) : List Value := match K.lookup a with
  | some ob => (match ob.data with | .seq its _ => its.toList | _ => [])
  | none => []
def itAd (K : W.Frag) (a : Addr) (i : Nat) : Addr := match (seqAt K a)[i]? with
  | some v => refOr v
  | none => 0
def cmP (K : W.Frag) (C : Addr) (m : Str) : Addr := match W.findCls K (.ref C) (.type "type") m with
  | some (.get _ p _ _) => refOr p
  | _ => 0
def cmF (K : W.Frag) (C : Addr) (m : Str) : Addr := match W.recIn K (cmP K C m) "classmethod" with
  | some (v :: _) => refOr v
  | _ => 0
abbrev FnX : Type := Option (Str × Str × Arguments × FuncBody × Scope × Addr × List Str × Addr)
def fnX (K : W.Frag) (a : Addr) : FnX := match fdAt K a with
  | some g => some (g.name, g.qualname, g.params, g.body, g.scope, g.globals, g.closure.map (·.1), g.builtins)
  | none => none
structure Df where
  at' : W.Frag → Addr
  name : Str
  qual : Str
  params : Arguments
  body : List Stmt
  scope : Scope
  dfl : W.Frag → List Addr
  cl : List Str
def Df.val (d : Df) : FnX := some (d.name, d.qual, d.params, .stmts d.body, d.scope, mainGlobals, d.cl, builtinsNs)
def Df.ok (K : W.Frag) (d : Df) : Bool := W.keepIn K (.ref (d.at' K)) && (match fdAt K (d.at' K) with
  | some g => W.codeIn K g.code d.qual && He.dflB K g.defaults ((d.dfl K).map V.ref)
  | none => false)
theorem fnX_ok {K : W.Frag} {a : Addr} {d : Df} (e : fnX K a = d.val) : ∃ g oc od sl, fdAt K a = some g ∧ K.lookup a = some ⟨oc, od, .func g, sl⟩ ∧
    g.name = d.name ∧ g.qualname = d.qual ∧ g.params = d.params ∧ g.body = .stmts d.body ∧ g.scope = d.scope ∧ g.globals = mainGlobals ∧ g.closure.map (·.1) = d.cl ∧ g.builtins = builtinsNs := by
  unfold fnX Df.val at e
  cases q : fdAt K a with
  | none => rw [q] at e; cases e
  | some g =>
    rw [q] at e
    obtain ⟨oc, od, sl, h⟩ := fdAt_ok q
    simp only [Option.some.injEq, Prod.mk.injEq] at e
    obtain ⟨h1, h2, h3, h4, h5, h6, h7, h8⟩ := e
    exact ⟨g, oc, od, sl, rfl, h, h1, h2, h3, h4, h5, h6, h7, h8⟩
theorem Df.funD {K : W.Frag} {d : Df} (e : fnX K (d.at' K) = d.val) (c : d.ok K = true) (hc : d.cl = []) : ∃ fd, FunD K d.name d.qual d.params d.body d.scope ((d.dfl K).map V.ref) [] (d.at' K) fd := by
  obtain ⟨g, oc, od, sl, q, lk, h1, h2, h3, h4, h5, h6, h7, h8⟩ := fnX_ok e
  unfold Df.ok at c
  rw [q, Bool.and_eq_true] at c
  obtain ⟨kp, c⟩ := c
  have c2 : W.codeIn K g.code d.qual = true ∧ He.dflB K g.defaults ((d.dfl K).map V.ref) = true := Bool.and_eq_true_iff.mp c
  clear c
  rw [hc, List.map_eq_nil_iff] at h7
  obtain ⟨n1, n2, n3, n4, n5, n6, n7, n8, n9, n10, n11, n12, n13, n14, n15⟩ := g
  dsimp only at h1 h2 h3 h4 h5 h6 h7 h8 c2
  subst h1 h2 h3 h4 h5 h6 h7 h8
  exact ⟨_, ⟨oc, od, n8, n9, n10, n11, n12, n13, n14, sl, rfl, lk, c2.1, He.dflB_ok c2.2, .inl rfl⟩, kp⟩
theorem Df.sup {K : W.Frag} {d : Df} (e : fnX K (d.at' K) = d.val) (c : d.ok K = true) (hc : d.cl = (["__class__"] : List Str)) (hd : d.dfl K = []) (hr : ((fdAt K (d.at' K)).any fun g => isRefV g.code) = true) :
    ∃ oc od kV dc pm an ct sl, K.lookup (d.at' K) = some ⟨oc, od, .func (W.ksFn d.name d.qual d.params d.body d.scope .none kV dc pm an (.ref (cdAd K (d.at' K))) ct (clAd K (d.at' K))), sl⟩ ∧ W.codeIn K (.ref (cdAd K (d.at' K))) d.qual = true := by
  obtain ⟨g, oc, od, sl, q, lk, h1, h2, h3, h4, h5, h6, h7, h8⟩ := fnX_ok e
  unfold Df.ok at c
  rw [q, Bool.and_eq_true] at c
  obtain ⟨kp, c⟩ := c
  have c2 : W.codeIn K g.code d.qual = true ∧ He.dflB K g.defaults ((d.dfl K).map V.ref) = true := Bool.and_eq_true_iff.mp c
  clear c
  rw [hd] at c2
  rw [q] at hr
  have hr : isRefV g.code = true := hr
  have e1 : cdAd K (d.at' K) = refOr g.code := by unfold cdAd; rw [q]
  have e2 : clAd K (d.at' K) = hdAd g.closure := by unfold clAd; rw [q]
  have e3 := isRefV_ok hr
  have e4 : g.defaults = .none := by
    have : He.dflB K g.defaults [] = true := c2.2
    revert this
    generalize g.defaults = v
    intro h
    cases v <;> first | rfl | cases h
  have e5 : g.closure = ([("__class__", hdAd g.closure)] : List (Str × Addr)) := by
    rw [hc] at h7
    revert h7
    generalize g.closure = l
    intro h
    match l, h with
    | [(x, y)], h =>
      have : x = ("__class__" : Str) := by simpa using h
      rw [this]; rfl
  have c1 := c2.1
  clear c2
  rw [e1, e2]
  rw [e3] at c1
  obtain ⟨n1, n2, n3, n4, n5, n6, n7, n8, n9, n10, n11, n12, n13, n14, n15⟩ := g
  dsimp only at h1 h2 h3 h4 h5 h6 h7 h8 e3 e4 e5 c1 lk ⊢
  subst h1 h2 h3 h4 h5 h6 h8 e4
  refine ⟨oc, od, n9, n10, n11, n12, n14, sl, ?_, c1⟩
  rw [lk]
  conv => lhs; rw [e5, e3]
def clsT (K : W.Frag) (C : Addr) : Bool := (W.clsIn K C).isSome
theorem clsT_ok {K : W.Frag} {C : Addr} (h : clsT K C = true) : ∃ cd, W.clsIn K C = some cd := Option.isSome_iff_exists.mp h
def tupT (K : W.Frag) (a : Addr) (ss : List Str) : Bool := match K.lookup a with
  | some ob => (match ob.cls, ob.data with
    | .type c, .seq its _ => decide (c = "tuple") && (decide (its.size ≤ 100000) && He.relAll (ss.map V.str) its.toList)
    | _, _ => false)
  | none => false
theorem tupT_ok {K : W.Frag} {a : Addr} {ss : List Str} (h : tupT K a ss = true) (H : Hp) : Rep K H (.tup (ss.map D.str)) (.ref a) := by
  unfold tupT at h
  cases q : K.lookup a with
  | none => rw [q] at h; cases h
  | some ob =>
    rw [q] at h
    obtain ⟨c, d, dt, sl⟩ := ob
    cases c with
    | type c =>
      cases dt with
      | seq its n =>
        have h : (decide (c = "tuple") && (decide (its.size ≤ 100000) && He.relAll (ss.map V.str) its.toList)) = true := h
        rw [Bool.and_eq_true, Bool.and_eq_true] at h
        obtain ⟨h1, h2, h3⟩ := h
        have e1 := of_decide_eq_true h1
        subst e1
        refine rep_ktup (its := its.toList) (n := n) (od := d) (osl := sl) (by rw [q, Array.toArray_toList]) (by rw [Array.length_toList]; exact of_decide_eq_true h2) (He.relAll_ok h3) (Reps.strs ss)
      | _ => cases h
    | _ => cases dt <;> cases h
def cmT (K : W.Frag) (C : Addr) (m : Str) : Bool := (match W.findCls K (.ref C) (.type "type") m with
  | some (.get (.builtin b) p .none (.ref c)) => decide (b = "classmethod.__get__") && (isRefV p && decide (c = C))
  | _ => false) && (match W.recIn K (cmP K C m) "classmethod" with
  | some (v :: _) => isRefV v
  | _ => false)
theorem cmT_ok {K : W.Frag} {C : Addr} {m : Str} (h : cmT K C m = true) : W.findCls K (.ref C) (.type "type") m = some (.get (.builtin "classmethod.__get__") (.ref (cmP K C m)) .none (.ref C)) ∧ ∃ rs, W.recIn K (cmP K C m) "classmethod" = some (.ref (cmF K C m) :: rs) := by
  unfold cmT at h
  rw [Bool.and_eq_true] at h
  obtain ⟨h1, h2⟩ := h
  constructor
  · split at h1
    · rename_i b p c e
      rw [Bool.and_eq_true, Bool.and_eq_true] at h1
      obtain ⟨h3, h4, h5⟩ := h1
      have e3 := of_decide_eq_true h3
      have e5 := of_decide_eq_true h5
      subst e3 e5
      have ep : cmP K c m = refOr p := by unfold cmP; rw [e]
      rw [e, ep, ← isRefV_ok h4]
    · cases h1
  · split at h2
    · rename_i v rs e
      have ev : cmF K C m = refOr v := by unfold cmF; rw [e]
      exact ⟨rs, by rw [e, ev, ← isRefV_ok h2]⟩
    · cases h2
def filT (K : W.Frag) (a : Addr) (f : Str) : Bool := match K.lookup a with
  | some ob => (match ob.data with
    | .fields vs => (match (vs[2]? : Option Value) with
      | some (.str z _) => decide (z = f)
      | _ => false)
    | _ => false)
  | none => false
theorem filT_ok {K : W.Frag} {a : Addr} {f : Str} (h : filT K a f = true) : ∃ c d vs s t, K.lookup a = some ⟨c, d, .fields vs, s⟩ ∧ vs[2]? = some (.str f t) := by
  unfold filT at h
  cases q : K.lookup a with
  | none => rw [q] at h; cases h
  | some ob =>
    rw [q] at h
    obtain ⟨c, d, dt, sl⟩ := ob
    cases dt with
    | fields vs =>
      dsimp only at h
      split at h
      · rename_i z t e
        have := of_decide_eq_true h
        subst this
        exact ⟨c, d, vs, sl, t, rfl, e⟩
      · cases h
    | _ => cases h
def celT (K : W.Frag) (a C : Addr) : Bool := match K.lookup a with
  | some ob => (match ob.data with
    | .cell (some v) => isRefV v && decide (refOr v = C)
    | _ => false)
  | none => false
theorem celT_ok {K : W.Frag} {a C : Addr} (h : celT K a C = true) : ∃ c d s, K.lookup a = some ⟨c, d, .cell (some (.ref C)), s⟩ := by
  unfold celT at h
  cases q : K.lookup a with
  | none => rw [q] at h; cases h
  | some ob =>
    rw [q] at h
    obtain ⟨c, d, dt, sl⟩ := ob
    cases dt with
    | cell v =>
      cases v with
      | none => cases h
      | some v =>
        have h : (isRefV v && decide (refOr v = C)) = true := h
        rw [Bool.and_eq_true] at h
        have e := isRefV_ok h.1
        have e2 := of_decide_eq_true h.2
        rw [e2] at e
        exact ⟨c, d, sl, by rw [e]⟩
    | _ => cases h
def excT (K : W.Frag) (C : Addr) (tl : List Value) (nw : String) : Bool := match K.lookup C with
  | some ob => (match ob.cls, ob.data, ob.slots.toList with
    | .type t, .cls cd, [_, _, _, _, some (.builtin n), _] => (match cd.mro with
      | c :: bm => decide (t = "type") && (decide (n = nw) && (isRefV c && (decide (refOr c = C) && (cd.hasDict && (!cd.hasDel && W.excTail tl bm)))))
      | [] => false)
    | _, _, _ => false)
  | none => false
theorem excT_ok {K : W.Frag} {C : Addr} {tl : List Value} {nw : String} (h : excT K C tl nw = true) : ∃ nm qn N bs bm sn sub ab col dd k0 k1 k2 k3 k5,
    K.lookup C = some (excClassObj nm qn C N bs bm true sn sub ab col dd k0 k1 k2 k3 k5 nw) ∧ W.excTail tl bm = true := by
  unfold excT at h
  cases q : K.lookup C with
  | none => rw [q] at h; cases h
  | some ob =>
    rw [q] at h
    obtain ⟨c, dd, dt, sl⟩ := ob
    dsimp only at h
    split at h
    · rename_i t cd k0 k1 k2 k3 n k5 hs
      split at h
      · rename_i c bm hm
        simp only [Bool.and_eq_true] at h
        obtain ⟨h1, h2, h3, h4, h5, h6, h7⟩ := h
        have e1 := of_decide_eq_true h1
        have e2 := of_decide_eq_true h2
        have e3 := isRefV_ok h3
        have e4 := of_decide_eq_true h4
        rw [e4] at e3
        obtain ⟨nm, bs, mro, ns, qn, hd, sn, sub, ab, col, del⟩ := cd
        dsimp only at hm h5 h6 h7
        have h6 : del = false := by simpa using h6
        subst e1 e2 e3 hm h5 h6
        have hsl : sl = #[k0, k1, k2, k3, some (.builtin n), k5] := by
          obtain ⟨l⟩ := sl
          simp only at hs
          rw [hs]
        subst hsl
        exact ⟨nm, qn, ns, bs, bm, sn, sub, ab, col, dd, k0, k1, k2, k3, k5, rfl, h7⟩
      · cases h
    · cases h
def upTo : Nat → List Addr → List Addr
  | 0, l => l
  | n + 1, l => upTo n (n :: l)
abbrev AlX : Type := Bool × List FnX
def obsX (chs : List (List (W.Frag → Bool))) (dfs : List Df) (K : W.Frag) : AlX := ((chs.all fun l => l.all fun t => t K) && dfs.all fun d => d.ok K, dfs.map fun d => fnX K (d.at' K))
def valX (dfs : List Df) : AlX := (true, dfs.map Df.val)
def SaysX (chs : List (List (W.Frag → Bool))) (dfs : List Df) (K : W.Frag) : Prop := obsX chs dfs K = valX dfs
def hookX (as : List Addr) (chs : List (List (W.Frag → Bool))) (dfs : List Df) : W.Hook where
  α := AlX
  obs := fun s => obsX chs dfs (He.frG s.heap.get? as)
  val := fun _ => valX dfs
  says := fun _ h => ∃ K : W.Frag, K.In h ∧ SaysX chs dfs K
  of := fun _ _ e => ⟨_, He.frG_in, e⟩
  keeps := fun _ _ _ ⟨K, hK, c⟩ k => ⟨K, W.Frag.In.keeps hK k, c⟩
def obX (as : List Addr) (chs : List (List (W.Frag → Bool))) (dfs : List Df) (s : W.SharedT) : AlX := obsX chs dfs (He.frG (HandSHeadRun.getT s) as)
theorem obX_eq (as : List Addr) (chs : List (List (W.Frag → Bool))) (dfs : List Df) (s : W.SharedT) : obX as chs dfs s = (hookX as chs dfs).obs s.abs := by
  have e : HandSHeadRun.getT s = s.abs.heap.get? := funext fun a => HandSHeadRun.getT_eq s a
  unfold obX
  rw [e]
  rfl
section
variable {chs : List (List (W.Frag → Bool))} {dfs : List Df} {K : W.Frag}
theorem SaysX.t (c : SaysX chs dfs K) (j i : Nat) {l : List (W.Frag → Bool)} {t : W.Frag → Bool} (hj : chs[j]? = some l) (hi : l[i]? = some t) : t K = true := by
  have h : ((chs.all fun l => l.all fun t => t K) && dfs.all fun d => d.ok K) = true := congrArg (fun z : AlX => z.1) c
  rw [Bool.and_eq_true] at h
  exact List.all_eq_true.mp (List.all_eq_true.mp h.1 l (List.mem_of_getElem? hj)) t (List.mem_of_getElem? hi)
theorem SaysX.d (c : SaysX chs dfs K) (i : Nat) {d : Df} (hi : dfs[i]? = some d) : fnX K (d.at' K) = d.val ∧ d.ok K = true := by
  have h : ((chs.all fun l => l.all fun t => t K) && dfs.all fun d => d.ok K) = true := congrArg (fun z : AlX => z.1) c
  have h2 : (dfs.map fun d => fnX K (d.at' K)) = dfs.map Df.val := congrArg (fun z : AlX => z.2) c
  rw [Bool.and_eq_true] at h
  have h3 : (dfs.map fun d => fnX K (d.at' K))[i]? = (dfs.map Df.val)[i]? := by rw [h2]
  rw [List.getElem?_map, List.getElem?_map, hi] at h3
  exact ⟨Option.some.inj h3, List.all_eq_true.mp h.2 d (List.mem_of_getElem? hi)⟩
end
theorem law_walkX {l : W.OpenLaw} {k : Nat} {q : Program} {loose : List Str} {XP : (Str → Option Value) → Heap → Prop} {as : List Addr} {chs : List (List (W.Frag → Bool))} {dfs : List Df} {d : DefRec} {x : Str}
    (hn : l.most = some 63) (hdf : d.params.defaults = []) (hr : RoomG k callerA)
    (F : ∀ (w : World) (mg : Str → Option Value) (fa : Addr) (h : Heap) (K : W.Frag), K.In h → SaysX chs dfs K → h.Ns mainGlobals mg → mg d.name = some (.ref fa) →
      ∃ fd : FuncData, (∀ (s : Shared) (u : Value), BindsTo s fd ⟨[u], []⟩ [(x, u)]) ∧ ∀ base : Heap, K.In base → base.Ns mainGlobals mg → FnG l.prog w K mg base k fa fd [x] lawFS) :
    W.WalkO q loose XP (hookX as chs dfs).says l.row.toRowW d [] (fun f vs => PySem.call f vs) := by
  refine Att.attach_call hn hdf fun w s₀ s₁ mg mb fa o pm cd doc a vs ns G Y ho hd hcd hmg hobj hints hlen hg => ?_
  obtain ⟨K, KX, hs⟩ := Y
  obtain ⟨fd, hb, hF⟩ := F w mg fa _ K KX hs G.T.g hmg
  exact law_goes KX G.T.g G.T.b G.T.builtins G.T.nolimit hg hobj hints hlen hr hF hb
theorem says_cat {c1 c2 : List (List (W.Frag → Bool))} {d1 d2 : List Df} {K : W.Frag} (h1 : SaysX c1 d1 K) (h2 : SaysX c2 d2 K) : SaysX (c1 ++ c2) (d1 ++ d2) K := by
  have a1 : ((c1.all fun l => l.all fun t => t K) && d1.all fun d => d.ok K) = true := congrArg (fun z : AlX => z.1) h1
  have b1 : (d1.map fun d => fnX K (d.at' K)) = d1.map Df.val := congrArg (fun z : AlX => z.2) h1
  have a2 : ((c2.all fun l => l.all fun t => t K) && d2.all fun d => d.ok K) = true := congrArg (fun z : AlX => z.1) h2
  have b2 : (d2.map fun d => fnX K (d.at' K)) = d2.map Df.val := congrArg (fun z : AlX => z.2) h2
  rw [Bool.and_eq_true] at a1 a2
  unfold SaysX obsX valX
  rw [List.all_append, List.all_append, a1.1, a1.2, a2.1, a2.2, List.map_append, List.map_append, b1, b2]
  rfl
theorem run_cat {r : W.OpenRow} {q : Program} {as : List Addr} {M : Nat} {loose : List Str} {w : World} {chs c1 c2 : List (List (W.Frag → Bool))} {dfs d1 d2 : List Df} (ec : chs = c1 ++ c2) (ed : dfs = d1 ++ d2)
    (h1 : HandSHeadRun.RunEq r q (hookX as c1 d1) (obX as c1 d1) M loose w) (h2 : HandSHeadRun.RunEq r q (hookX as c2 d2) (obX as c2 d2) M loose w) : HandSHeadRun.RunEq r q (hookX as chs dfs) (obX as chs dfs) M loose w := by
  subst ec ed
  intro os
  have a := h1 os
  have b := h2 os
  revert a b
  generalize HandSHeadRun.endF (HandSHeadRun.stepQ (HandSHeadRun.denQ HandSHeadRun.tabQ) r.prog w) M r.prog w os = X
  cases X with
  | none => intro a; cases a
  | some s =>
    intro a b
    have a : (HandSHeadRun.looksF r.prog (W.boot_heap w.params) s.abs, HandSHeadRun.seenQ q loose (importedModules r.prog.main.body) (fun s => W.xlAt q [] s && W.recOk r.toRowW.records s) s.abs, obX as c1 d1 s) = (true, W.openGood q loose, valX d1) := Option.some.inj a
    have b : (HandSHeadRun.looksF r.prog (W.boot_heap w.params) s.abs, HandSHeadRun.seenQ q loose (importedModules r.prog.main.body) (fun s => W.xlAt q [] s && W.recOk r.toRowW.records s) s.abs, obX as c2 d2 s) = (true, W.openGood q loose, valX d2) := Option.some.inj b
    obtain ⟨e1, a⟩ := Prod.mk.inj a
    obtain ⟨e2, a3⟩ := Prod.mk.inj a
    obtain ⟨_, b⟩ := Prod.mk.inj b
    obtain ⟨_, b3⟩ := Prod.mk.inj b
    have c3 : obX as (c1 ++ c2) (d1 ++ d2) s = valX (d1 ++ d2) := says_cat a3 b3
    exact congrArg some (Prod.ext e1 (Prod.ext e2 c3))
end Tr

set_option maxHeartbeats 4000000
namespace Kk
open PySem L2 PySem.Spec PyProof.Rows Tr
def cst_LETTERS : List Str := ["yes", "no", "list"]
def cst_TESTS : List Str := ["old", "all", "open", "same", "first", "gone"]
def cst_DEEDS : List Str := ["take", "do", "drop", "sweep", "clear"]
def cst_OF_ANSWERS : List Str := ["first", "gone", "do", "drop"]
def top (i : Nat) : Stmt := PySem.Challenge.pw_hastypage_k15_pages_read.main.body.getD i (.Pass ⟨0, 0, 0, 0⟩)
abbrev s__wall : Stmt := top 0
abbrev s_is_sequence : Stmt := top 8
abbrev s_fits_letter : Stmt := top 14
abbrev s_is_test : Stmt := top 15
abbrev s_is_deed : Stmt := top 16
abbrev s__law_deal : Stmt := top 21
abbrev s__law_draw : Stmt := top 22
abbrev s__law_row : Stmt := top 23
abbrev s__law_row_text : Stmt := top 24
abbrev s__law_heard : Stmt := top 25
abbrev s_law : Stmt := top 26
abbrev s_Row_init : Stmt := inClass (top 17) 0
abbrev s_Row_read : Stmt := inClass (top 17) 1
abbrev s_Row_eq : Stmt := inClass (top 17) 2
abbrev s_Row_str : Stmt := inClass (top 17) 3
abbrev s_Page_init : Stmt := inClass (top 19) 0
abbrev s_Page_read : Stmt := inClass (top 19) 1
abbrev s_Page_need_row : Stmt := inClass (top 19) 2
abbrev s_Page_without : Stmt := inClass (top 19) 3
abbrev s_Page_len : Stmt := inClass (top 19) 4
abbrev s_Page_getitem : Stmt := inClass (top 19) 5
abbrev s_Page_iter : Stmt := inClass (top 19) 6
abbrev s_Page_add : Stmt := inClass (top 19) 7
abbrev s_Page_eq : Stmt := inClass (top 19) 8
abbrev s_Page_str : Stmt := inClass (top 19) 9
theorem sc_is_sequence : FnScope ["value"] ["value"] (defScope s_is_sequence) := ⟨rfl, rfl, rfl, by decide +kernel, rfl, by decide +kernel, by decide +kernel⟩
theorem sc_fits_letter : FnScope ["word", "letter"] ["word", "letter"] (defScope s_fits_letter) := ⟨rfl, rfl, rfl, by decide +kernel, rfl, by decide +kernel, by decide +kernel⟩
theorem sc_is_test : FnScope ["value", "letter", "word"] ["value", "letter"] (defScope s_is_test) := ⟨rfl, rfl, rfl, by decide +kernel, rfl, by decide +kernel, by decide +kernel⟩
theorem sc_is_deed : FnScope ["value", "letter"] ["value", "letter"] (defScope s_is_deed) := ⟨rfl, rfl, rfl, by decide +kernel, rfl, by decide +kernel, by decide +kernel⟩
theorem sc__law_deal : FnScope ["_law_script", "_law_base", "_law_cells", "_law_blend", "_law_cell"] ["_law_script", "_law_base"] (defScope s__law_deal) := ⟨rfl, rfl, rfl, by decide +kernel, rfl, by decide +kernel, by decide +kernel⟩
theorem sc__law_draw : FnScope ["_law_deal_here", "_law_amount", "_law_left"] ["_law_deal_here", "_law_amount"] (defScope s__law_draw) := ⟨rfl, rfl, rfl, by decide +kernel, rfl, by decide +kernel, by decide +kernel⟩
theorem sc__law_row : FnScope ["_law_deal_here", "_law_letter", "_law_tests", "_law_deeds", "_law_some", "_law_turn", "_law_test"] ["_law_deal_here"] (defScope s__law_row) := ⟨rfl, rfl, rfl, by decide +kernel, rfl, by decide +kernel, by decide +kernel⟩
theorem sc__law_row_text : FnScope ["_law_row_here", "_law_letter", "_law_tests", "_law_deeds", "_law_words"] ["_law_row_here"] (defScope s__law_row_text) := ⟨rfl, rfl, rfl, by decide +kernel, rfl, by decide +kernel, by decide +kernel⟩
theorem sc__law_heard : FnScope ["_law_text", "_law_found", "e"] ["_law_text"] (defScope s__law_heard) := ⟨rfl, rfl, rfl, by decide +kernel, rfl, by decide +kernel, by decide +kernel⟩
theorem sc_law : FnScope ["_law_script", "_law_deal_here", "_law_odd", "_law_turn", "_law_lines", "_law_text", "_law_at", "_law_bad", "_law_spoilt", "_law_to", "_law_more", "_law_doubled", "_law_row_here"] ["_law_script"] (defScope s_law) := ⟨rfl, rfl, rfl, by decide +kernel, rfl, by decide +kernel, by decide +kernel⟩
theorem sc_Row_init : FnScope ["self", "letter", "tests", "deeds", "test", "deed"] ["self", "letter", "tests", "deeds"] (defScope s_Row_init) := ⟨rfl, rfl, rfl, by decide +kernel, rfl, by decide +kernel, by decide +kernel⟩
theorem sc_Row_read : FnScope ["cls", "text", "head", "mark", "tail", "letter", "sign", "rest", "tests", "row", "e"] ["cls", "text"] (defScope s_Row_read) := ⟨rfl, rfl, rfl, by decide +kernel, rfl, by decide +kernel, by decide +kernel⟩
theorem sc_Row_str : FnScope ["self", "tests", "deeds"] ["self"] (defScope s_Row_str) := ⟨rfl, rfl, rfl, by decide +kernel, rfl, by decide +kernel, by decide +kernel⟩
theorem sc_Page_init : FnScope ["self", "rows", "row"] ["self", "rows"] (defScope s_Page_init) := ⟨rfl, rfl, rfl, by decide +kernel, rfl, by decide +kernel, by decide +kernel⟩
theorem sc_Page_read : FnScope ["cls", "text", "rows", "at", "line", "row", "e"] ["cls", "text"] (defScope s_Page_read) := ⟨rfl, rfl, rfl, by decide +kernel, rfl, by decide +kernel, by decide +kernel⟩
theorem sc_Page_len : FnScope ["self"] ["self"] (defScope s_Page_len) := ⟨rfl, rfl, rfl, by decide +kernel, rfl, by decide +kernel, by decide +kernel⟩
theorem sc_Page_eq : FnScope ["self", "other"] ["self", "other"] (defScope s_Page_eq) := ⟨rfl, rfl, rfl, by decide +kernel, rfl, by decide +kernel, by decide +kernel⟩
theorem sc_Page_str : FnScope ["self", "row"] ["self"] (defScope s_Page_str) := ⟨rfl, rfl, rfl, by decide +kernel, rfl, by decide +kernel, by decide +kernel⟩
abbrev s_InvalidRow_init : Stmt := inClass (top 3) 0
abbrev s_InvalidText_init : Stmt := inClass (top 5) 0
abbrev s_NoRow_init : Stmt := inClass (top 6) 0
theorem sup_InvalidRow {P : Program} {K : W.Frag} {mg : Str → Option Value} {c_InvalidRow f_InvalidRow_init cda_InvalidRow cc_InvalidRow N_InvalidRow : Addr} {nm_InvalidRow qn_InvalidRow : Str} {bs_InvalidRow bm_InvalidRow sub_InvalidRow : List Value} {sn_InvalidRow : List Str} {ab_InvalidRow : Bool} {col_InvalidRow : Option Bool} {dd_InvalidRow od_InvalidRow an_InvalidRow cdd_InvalidRow cld_InvalidRow : Option Addr} {k0_InvalidRow k1_InvalidRow k2_InvalidRow k3_InvalidRow k5_InvalidRow : Option Value} {oc_InvalidRow kV_InvalidRow dc_InvalidRow pm_InvalidRow ct_InvalidRow ccl_InvalidRow cl0_InvalidRow : Value} {sl_InvalidRow ccs_InvalidRow csl_InvalidRow : Array (Option Value)} {vs_InvalidRow : Array Value} {file_InvalidRow : Str} {tf_InvalidRow : Tok}
    (lc : K.lookup c_InvalidRow = some (excClassObj nm_InvalidRow qn_InvalidRow c_InvalidRow N_InvalidRow bs_InvalidRow bm_InvalidRow true sn_InvalidRow sub_InvalidRow ab_InvalidRow col_InvalidRow dd_InvalidRow k0_InvalidRow k1_InvalidRow k2_InvalidRow k3_InvalidRow k5_InvalidRow "ValueError.__new__")) (rv : W.excTail [.type "ValueError", .type "Exception", .type "BaseException", .type "object"] bm_InvalidRow = true) (sa : W.findIn K (.ref c_InvalidRow) "__setattr__" = some (some (.builtin "object.__setattr__"))) (no : W.findIn K (.ref c_InvalidRow) "word" = some none)
    (lf : K.lookup f_InvalidRow_init = some ⟨oc_InvalidRow, od_InvalidRow, .func (W.ksFn "__init__" "InvalidRow.__init__" (defArgs s_InvalidRow_init) (defBody s_InvalidRow_init) (defScope s_InvalidRow_init) .none kV_InvalidRow dc_InvalidRow pm_InvalidRow an_InvalidRow (.ref cda_InvalidRow) ct_InvalidRow cc_InvalidRow), sl_InvalidRow⟩) (lcd : K.lookup cda_InvalidRow = some ⟨ccl_InvalidRow, cdd_InvalidRow, .fields vs_InvalidRow, ccs_InvalidRow⟩) (hv : vs_InvalidRow[2]? = some (.str file_InvalidRow tf_InvalidRow)) (hf : ((P.main.file : Str) == file_InvalidRow) = true) (ci : W.codeIn K (.ref cda_InvalidRow) "InvalidRow.__init__" = true)
    (lcc : K.lookup cc_InvalidRow = some ⟨cl0_InvalidRow, cld_InvalidRow, .cell (some (.ref c_InvalidRow)), csl_InvalidRow⟩) (zs : mg "super" = none) (zt : (P.main.scope.names.lookup ("super" : Str)).isSome = false) (za : W.nsIn K cStatics "thirdparty.any" = some none) (si : W.ks_superIn K c_InvalidRow c_InvalidRow "__init__" = some (some (.builtin "ValueError.__init__"))) (sv : W.subIn K (.ref c_InvalidRow) (.type "ValueError") = some true) :
    SupRun P K mg c_InvalidRow f_InvalidRow_init "word" := fun w A R hp g d t os mb a t0 v X hg hb hbb hlim hroom ha hKa hq =>
  sup_init (selfN := "self") (argN := "word") xf_ValueError X hg hb hbb hlim lc rv sa no lf lcd hv hf ci lcc zs (by rfl) (by rfl) (by rfl) (by rfl) (by rfl) (by decide) (by rfl) (by rfl) (by rfl) (by rfl) (by decide +kernel) (by rfl) (by rfl) (fun s => BindsTo.of_eq (by rfl)) zt za si sv (by rfl) hroom (fun _ => by rfl) (fun _ => by rfl) (fun _ => by rfl) _ (fun _ => by rfl) ha hKa hq
theorem sup_InvalidText {P : Program} {K : W.Frag} {mg : Str → Option Value} {c_InvalidText f_InvalidText_init cda_InvalidText cc_InvalidText N_InvalidText : Addr} {nm_InvalidText qn_InvalidText : Str} {bs_InvalidText bm_InvalidText sub_InvalidText : List Value} {sn_InvalidText : List Str} {ab_InvalidText : Bool} {col_InvalidText : Option Bool} {dd_InvalidText od_InvalidText an_InvalidText cdd_InvalidText cld_InvalidText : Option Addr} {k0_InvalidText k1_InvalidText k2_InvalidText k3_InvalidText k5_InvalidText : Option Value} {oc_InvalidText kV_InvalidText dc_InvalidText pm_InvalidText ct_InvalidText ccl_InvalidText cl0_InvalidText : Value} {sl_InvalidText ccs_InvalidText csl_InvalidText : Array (Option Value)} {vs_InvalidText : Array Value} {file_InvalidText : Str} {tf_InvalidText : Tok}
    (lc : K.lookup c_InvalidText = some (excClassObj nm_InvalidText qn_InvalidText c_InvalidText N_InvalidText bs_InvalidText bm_InvalidText true sn_InvalidText sub_InvalidText ab_InvalidText col_InvalidText dd_InvalidText k0_InvalidText k1_InvalidText k2_InvalidText k3_InvalidText k5_InvalidText "ValueError.__new__")) (rv : W.excTail [.type "ValueError", .type "Exception", .type "BaseException", .type "object"] bm_InvalidText = true) (sa : W.findIn K (.ref c_InvalidText) "__setattr__" = some (some (.builtin "object.__setattr__"))) (no : W.findIn K (.ref c_InvalidText) "at" = some none)
    (lf : K.lookup f_InvalidText_init = some ⟨oc_InvalidText, od_InvalidText, .func (W.ksFn "__init__" "InvalidText.__init__" (defArgs s_InvalidText_init) (defBody s_InvalidText_init) (defScope s_InvalidText_init) .none kV_InvalidText dc_InvalidText pm_InvalidText an_InvalidText (.ref cda_InvalidText) ct_InvalidText cc_InvalidText), sl_InvalidText⟩) (lcd : K.lookup cda_InvalidText = some ⟨ccl_InvalidText, cdd_InvalidText, .fields vs_InvalidText, ccs_InvalidText⟩) (hv : vs_InvalidText[2]? = some (.str file_InvalidText tf_InvalidText)) (hf : ((P.main.file : Str) == file_InvalidText) = true) (ci : W.codeIn K (.ref cda_InvalidText) "InvalidText.__init__" = true)
    (lcc : K.lookup cc_InvalidText = some ⟨cl0_InvalidText, cld_InvalidText, .cell (some (.ref c_InvalidText)), csl_InvalidText⟩) (zs : mg "super" = none) (zt : (P.main.scope.names.lookup ("super" : Str)).isSome = false) (za : W.nsIn K cStatics "thirdparty.any" = some none) (si : W.ks_superIn K c_InvalidText c_InvalidText "__init__" = some (some (.builtin "ValueError.__init__"))) (sv : W.subIn K (.ref c_InvalidText) (.type "ValueError") = some true) :
    SupRun P K mg c_InvalidText f_InvalidText_init "at" := fun w A R hp g d t os mb a t0 v X hg hb hbb hlim hroom ha hKa hq =>
  sup_init (selfN := "self") (argN := "at") xf_ValueError X hg hb hbb hlim lc rv sa no lf lcd hv hf ci lcc zs (by rfl) (by rfl) (by rfl) (by rfl) (by rfl) (by decide) (by rfl) (by rfl) (by rfl) (by rfl) (by decide +kernel) (by rfl) (by rfl) (fun s => BindsTo.of_eq (by rfl)) zt za si sv (by rfl) hroom (fun _ => by rfl) (fun _ => by rfl) (fun _ => by rfl) _ (fun _ => by rfl) ha hKa hq
theorem sup_NoRow {P : Program} {K : W.Frag} {mg : Str → Option Value} {c_NoRow f_NoRow_init cda_NoRow cc_NoRow N_NoRow : Addr} {nm_NoRow qn_NoRow : Str} {bs_NoRow bm_NoRow sub_NoRow : List Value} {sn_NoRow : List Str} {ab_NoRow : Bool} {col_NoRow : Option Bool} {dd_NoRow od_NoRow an_NoRow cdd_NoRow cld_NoRow : Option Addr} {k0_NoRow k1_NoRow k2_NoRow k3_NoRow k5_NoRow : Option Value} {oc_NoRow kV_NoRow dc_NoRow pm_NoRow ct_NoRow ccl_NoRow cl0_NoRow : Value} {sl_NoRow ccs_NoRow csl_NoRow : Array (Option Value)} {vs_NoRow : Array Value} {file_NoRow : Str} {tf_NoRow : Tok}
    (lc : K.lookup c_NoRow = some (excClassObj nm_NoRow qn_NoRow c_NoRow N_NoRow bs_NoRow bm_NoRow true sn_NoRow sub_NoRow ab_NoRow col_NoRow dd_NoRow k0_NoRow k1_NoRow k2_NoRow k3_NoRow k5_NoRow "IndexError.__new__")) (rv : W.excTail [.type "IndexError", .type "LookupError", .type "Exception", .type "BaseException", .type "object"] bm_NoRow = true) (sa : W.findIn K (.ref c_NoRow) "__setattr__" = some (some (.builtin "object.__setattr__"))) (no : W.findIn K (.ref c_NoRow) "at" = some none)
    (lf : K.lookup f_NoRow_init = some ⟨oc_NoRow, od_NoRow, .func (W.ksFn "__init__" "NoRow.__init__" (defArgs s_NoRow_init) (defBody s_NoRow_init) (defScope s_NoRow_init) .none kV_NoRow dc_NoRow pm_NoRow an_NoRow (.ref cda_NoRow) ct_NoRow cc_NoRow), sl_NoRow⟩) (lcd : K.lookup cda_NoRow = some ⟨ccl_NoRow, cdd_NoRow, .fields vs_NoRow, ccs_NoRow⟩) (hv : vs_NoRow[2]? = some (.str file_NoRow tf_NoRow)) (hf : ((P.main.file : Str) == file_NoRow) = true) (ci : W.codeIn K (.ref cda_NoRow) "NoRow.__init__" = true)
    (lcc : K.lookup cc_NoRow = some ⟨cl0_NoRow, cld_NoRow, .cell (some (.ref c_NoRow)), csl_NoRow⟩) (zs : mg "super" = none) (zt : (P.main.scope.names.lookup ("super" : Str)).isSome = false) (za : W.nsIn K cStatics "thirdparty.any" = some none) (si : W.ks_superIn K c_NoRow c_NoRow "__init__" = some (some (.builtin "IndexError.__init__"))) (sv : W.subIn K (.ref c_NoRow) (.type "IndexError") = some true) :
    SupRun P K mg c_NoRow f_NoRow_init "at" := fun w A R hp g d t os mb a t0 v X hg hb hbb hlim hroom ha hKa hq =>
  sup_init (selfN := "self") (argN := "at") xf_IndexError X hg hb hbb hlim lc rv sa no lf lcd hv hf ci lcc zs (by rfl) (by rfl) (by rfl) (by rfl) (by rfl) (by decide) (by rfl) (by rfl) (by rfl) (by rfl) (by decide +kernel) (by rfl) (by rfl) (fun s => BindsTo.of_eq (by rfl)) zt za si sv (by rfl) hroom (fun _ => by rfl) (fun _ => by rfl) (fun _ => by rfl) _ (fun _ => by rfl) ha hKa hq
structure Tp0 (prog : Program) (K : W.Frag) (mg : Str → Option Value) where
  c_Row : Addr
  c_Page : Addr
  f__wall : Addr
  d__wall : FuncData
  f_is_sequence : Addr
  d_is_sequence : FuncData
  f_fits_letter : Addr
  d_fits_letter : FuncData
  f_is_test : Addr
  d_is_test : FuncData
  f_is_deed : Addr
  d_is_deed : FuncData
  f__law_deal : Addr
  d__law_deal : FuncData
  f__law_draw : Addr
  d__law_draw : FuncData
  f__law_row : Addr
  d__law_row : FuncData
  f__law_row_text : Addr
  d__law_row_text : FuncData
  f__law_heard : Addr
  d__law_heard : FuncData
  f_law : Addr
  d_law : FuncData
  f_Row_init : Addr
  d_Row_init : FuncData
  f_Row_read : Addr
  d_Row_read : FuncData
  f_Row_eq : Addr
  d_Row_eq : FuncData
  f_Row_str : Addr
  d_Row_str : FuncData
  f_Page_init : Addr
  d_Page_init : FuncData
  f_Page_read : Addr
  d_Page_read : FuncData
  f_Page_need_row : Addr
  d_Page_need_row : FuncData
  f_Page_without : Addr
  d_Page_without : FuncData
  f_Page_len : Addr
  d_Page_len : FuncData
  f_Page_getitem : Addr
  d_Page_getitem : FuncData
  f_Page_iter : Addr
  d_Page_iter : FuncData
  f_Page_add : Addr
  d_Page_add : FuncData
  f_Page_eq : Addr
  d_Page_eq : FuncData
structure Tp1 (prog : Program) (K : W.Frag) (mg : Str → Option Value) extends Tp0 prog K mg where
  f_Page_str : Addr
  d_Page_str : FuncData
  a_LETTERS : Addr
  a_TESTS : Addr
  a_DEEDS : Addr
  a_OF_ANSWERS : Addr
  e_Row_init_0 : Addr
  e_Row_init_1 : Addr
  e_Page_init_0 : Addr
  i_Row : ClsI K c_Row
  g_Row : mg "Row" = some (.ref c_Row)
  na_Row_letter : NoAttr K c_Row "letter"
  na_Row_tests : NoAttr K c_Row "tests"
  na_Row_deeds : NoAttr K c_Row "deeds"
  isi_Row_list : W.kitOne K (.type "list") (.ref c_Row) = some false
  isi_Row_tuple : W.kitOne K (.type "tuple") (.ref c_Row) = some false
  isi_Row_str : W.kitOne K (.type "str") (.ref c_Row) = some false
  isi_Row_int : W.kitOne K (.type "int") (.ref c_Row) = some false
  isi_Row_bool : W.kitOne K (.type "bool") (.ref c_Row) = some false
  isi_Row_NoneType : W.kitOne K (.type "NoneType") (.ref c_Row) = some false
  kin_Row_list : W.kitOne K (.ref c_Row) (.type "list") = some false
  kin_Row_tuple : W.kitOne K (.ref c_Row) (.type "tuple") = some false
  kin_Row_str : W.kitOne K (.ref c_Row) (.type "str") = some false
  kin_Row_int : W.kitOne K (.ref c_Row) (.type "int") = some false
  kin_Row_bool : W.kitOne K (.ref c_Row) (.type "bool") = some false
  nf_Row_Row : W.notFirst K c_Row (.ref c_Row) = true
  nf_Row_list : W.notFirst K c_Row (.type "list") = true
  nf_Row_tuple : W.notFirst K c_Row (.type "tuple") = true
  nf_Row_str : W.notFirst K c_Row (.type "str") = true
  nf_Row_int : W.notFirst K c_Row (.type "int") = true
  nf_Row_bool : W.notFirst K c_Row (.type "bool") = true
  nf_Row_NoneType : W.notFirst K c_Row (.type "NoneType") = true
  ne_Row : W.findIn K (.ref c_Row) "__ne__" = some (some (.builtin "object.__ne__"))
  i_Page : ClsI K c_Page
  g_Page : mg "Page" = some (.ref c_Page)
  na_Page_rows : NoAttr K c_Page "rows"
  isi_Page_list : W.kitOne K (.type "list") (.ref c_Page) = some false
  isi_Page_tuple : W.kitOne K (.type "tuple") (.ref c_Page) = some false
  isi_Page_str : W.kitOne K (.type "str") (.ref c_Page) = some false
  isi_Page_int : W.kitOne K (.type "int") (.ref c_Page) = some false
  isi_Page_bool : W.kitOne K (.type "bool") (.ref c_Page) = some false
  isi_Page_NoneType : W.kitOne K (.type "NoneType") (.ref c_Page) = some false
  kin_Page_list : W.kitOne K (.ref c_Page) (.type "list") = some false
  kin_Page_tuple : W.kitOne K (.ref c_Page) (.type "tuple") = some false
  kin_Page_str : W.kitOne K (.ref c_Page) (.type "str") = some false
  kin_Page_int : W.kitOne K (.ref c_Page) (.type "int") = some false
  kin_Page_bool : W.kitOne K (.ref c_Page) (.type "bool") = some false
  nf_Page_Page : W.notFirst K c_Page (.ref c_Page) = true
  nf_Page_list : W.notFirst K c_Page (.type "list") = true
  nf_Page_tuple : W.notFirst K c_Page (.type "tuple") = true
structure Tp2 (prog : Program) (K : W.Frag) (mg : Str → Option Value) extends Tp1 prog K mg where
  nf_Page_str : W.notFirst K c_Page (.type "str") = true
  nf_Page_int : W.notFirst K c_Page (.type "int") = true
  nf_Page_bool : W.notFirst K c_Page (.type "bool") = true
  nf_Page_NoneType : W.notFirst K c_Page (.type "NoneType") = true
  ne_Page : W.findIn K (.ref c_Page) "__ne__" = some (some (.builtin "object.__ne__"))
  g__wall : mg "_wall" = some (.ref f__wall)
  F__wall : FunD K "_wall" "_wall" (defArgs s__wall) (defBody s__wall) (defScope s__wall) [] [] f__wall d__wall
  b__wall : Binds K d__wall ["k"] []
  g_is_sequence : mg "is_sequence" = some (.ref f_is_sequence)
  F_is_sequence : FunD K "is_sequence" "is_sequence" (defArgs s_is_sequence) (defBody s_is_sequence) (defScope s_is_sequence) [] [] f_is_sequence d_is_sequence
  b_is_sequence : Binds K d_is_sequence ["value"] []
  g_fits_letter : mg "fits_letter" = some (.ref f_fits_letter)
  F_fits_letter : FunD K "fits_letter" "fits_letter" (defArgs s_fits_letter) (defBody s_fits_letter) (defScope s_fits_letter) [] [] f_fits_letter d_fits_letter
  b_fits_letter : Binds K d_fits_letter ["word", "letter"] []
  g_is_test : mg "is_test" = some (.ref f_is_test)
  F_is_test : FunD K "is_test" "is_test" (defArgs s_is_test) (defBody s_is_test) (defScope s_is_test) [] [] f_is_test d_is_test
  b_is_test : Binds K d_is_test ["value", "letter"] []
  g_is_deed : mg "is_deed" = some (.ref f_is_deed)
  F_is_deed : FunD K "is_deed" "is_deed" (defArgs s_is_deed) (defBody s_is_deed) (defScope s_is_deed) [] [] f_is_deed d_is_deed
  b_is_deed : Binds K d_is_deed ["value", "letter"] []
  g__law_deal : mg "_law_deal" = some (.ref f__law_deal)
  F__law_deal : FunD K "_law_deal" "_law_deal" (defArgs s__law_deal) (defBody s__law_deal) (defScope s__law_deal) [] [] f__law_deal d__law_deal
  b__law_deal : Binds K d__law_deal ["_law_script", "_law_base"] []
  g__law_draw : mg "_law_draw" = some (.ref f__law_draw)
  F__law_draw : FunD K "_law_draw" "_law_draw" (defArgs s__law_draw) (defBody s__law_draw) (defScope s__law_draw) [] [] f__law_draw d__law_draw
  b__law_draw : Binds K d__law_draw ["_law_deal_here", "_law_amount"] []
  g__law_row : mg "_law_row" = some (.ref f__law_row)
  F__law_row : FunD K "_law_row" "_law_row" (defArgs s__law_row) (defBody s__law_row) (defScope s__law_row) [] [] f__law_row d__law_row
  b__law_row : Binds K d__law_row ["_law_deal_here"] []
  g__law_row_text : mg "_law_row_text" = some (.ref f__law_row_text)
  F__law_row_text : FunD K "_law_row_text" "_law_row_text" (defArgs s__law_row_text) (defBody s__law_row_text) (defScope s__law_row_text) [] [] f__law_row_text d__law_row_text
  b__law_row_text : Binds K d__law_row_text ["_law_row_here"] []
  g__law_heard : mg "_law_heard" = some (.ref f__law_heard)
  F__law_heard : FunD K "_law_heard" "_law_heard" (defArgs s__law_heard) (defBody s__law_heard) (defScope s__law_heard) [] [] f__law_heard d__law_heard
  b__law_heard : Binds K d__law_heard ["_law_text"] []
  g_law : mg "law" = some (.ref f_law)
  F_law : FunD K "law" "law" (defArgs s_law) (defBody s_law) (defScope s_law) [] [] f_law d_law
  b_law : Binds K d_law ["_law_script"] []
  mk_Row : Mk K c_Row f_Row_init
  F_Row_init : FunD K "__init__" "Row.__init__" (defArgs s_Row_init) (defBody s_Row_init) (defScope s_Row_init) [.ref e_Row_init_0, .ref e_Row_init_1] [] f_Row_init d_Row_init
  b_Row_init : Binds K d_Row_init ["self", "letter", "tests", "deeds"] []
  b0_Row_init : ∃ ds, Vals [.ref e_Row_init_0, .ref e_Row_init_1] ds ∧ Binds K d_Row_init ["self", "letter", "tests", "deeds"] ds
  b1_Row_init : ∃ ds, Vals [.ref e_Row_init_1] ds ∧ Binds K d_Row_init ["self", "letter", "tests", "deeds"] ds
  m_Row_read : CMetT K c_Row "read" f_Row_read
  F_Row_read : FunD K "read" "Row.read" (defArgs s_Row_read) (defBody s_Row_read) (defScope s_Row_read) [] [] f_Row_read d_Row_read
  b_Row_read : Binds K d_Row_read ["cls", "text"] []
  m_Row_eq : W.findIn K (.ref c_Row) "__eq__" = some (some (.ref f_Row_eq))
  n_Row_eq : W.isFn K (.ref f_Row_eq) = true
  F_Row_eq : FunD K "__eq__" "Row.__eq__" (defArgs s_Row_eq) (defBody s_Row_eq) (defScope s_Row_eq) [] [] f_Row_eq d_Row_eq
  b_Row_eq : Binds K d_Row_eq ["self", "other"] []
structure Tp3 (prog : Program) (K : W.Frag) (mg : Str → Option Value) extends Tp2 prog K mg where
  m_Row_str : W.findIn K (.ref c_Row) "__str__" = some (some (.ref f_Row_str))
  n_Row_str : W.isFn K (.ref f_Row_str) = true
  F_Row_str : FunD K "__str__" "Row.__str__" (defArgs s_Row_str) (defBody s_Row_str) (defScope s_Row_str) [] [] f_Row_str d_Row_str
  b_Row_str : Binds K d_Row_str ["self"] []
  mk_Page : Mk K c_Page f_Page_init
  F_Page_init : FunD K "__init__" "Page.__init__" (defArgs s_Page_init) (defBody s_Page_init) (defScope s_Page_init) [.ref e_Page_init_0] [] f_Page_init d_Page_init
  b_Page_init : Binds K d_Page_init ["self", "rows"] []
  b0_Page_init : ∃ ds, Vals [.ref e_Page_init_0] ds ∧ Binds K d_Page_init ["self", "rows"] ds
  m_Page_read : CMetT K c_Page "read" f_Page_read
  F_Page_read : FunD K "read" "Page.read" (defArgs s_Page_read) (defBody s_Page_read) (defScope s_Page_read) [] [] f_Page_read d_Page_read
  b_Page_read : Binds K d_Page_read ["cls", "text"] []
  m_Page_need_row : Meth K c_Page "need_row" f_Page_need_row
  F_Page_need_row : FunD K "need_row" "Page.need_row" (defArgs s_Page_need_row) (defBody s_Page_need_row) (defScope s_Page_need_row) [] [] f_Page_need_row d_Page_need_row
  b_Page_need_row : Binds K d_Page_need_row ["self", "at"] []
  m_Page_without : Meth K c_Page "without" f_Page_without
  F_Page_without : FunD K "without" "Page.without" (defArgs s_Page_without) (defBody s_Page_without) (defScope s_Page_without) [] [] f_Page_without d_Page_without
  b_Page_without : Binds K d_Page_without ["self", "at"] []
  m_Page_len : W.findIn K (.ref c_Page) "__len__" = some (some (.ref f_Page_len))
  n_Page_len : W.isFn K (.ref f_Page_len) = true
  F_Page_len : FunD K "__len__" "Page.__len__" (defArgs s_Page_len) (defBody s_Page_len) (defScope s_Page_len) [] [] f_Page_len d_Page_len
  b_Page_len : Binds K d_Page_len ["self"] []
  m_Page_getitem : W.findIn K (.ref c_Page) "__getitem__" = some (some (.ref f_Page_getitem))
  n_Page_getitem : W.isFn K (.ref f_Page_getitem) = true
  fi_Page_getitem : W.fnIn K f_Page_getitem = true
  F_Page_getitem : FunD K "__getitem__" "Page.__getitem__" (defArgs s_Page_getitem) (defBody s_Page_getitem) (defScope s_Page_getitem) [] [] f_Page_getitem d_Page_getitem
  b_Page_getitem : Binds K d_Page_getitem ["self", "at"] []
  m_Page_iter : W.findIn K (.ref c_Page) "__iter__" = some (some (.ref f_Page_iter))
  n_Page_iter : W.isFn K (.ref f_Page_iter) = true
  F_Page_iter : FunD K "__iter__" "Page.__iter__" (defArgs s_Page_iter) (defBody s_Page_iter) (defScope s_Page_iter) [] [] f_Page_iter d_Page_iter
  b_Page_iter : Binds K d_Page_iter ["self"] []
  m_Page_add : W.findIn K (.ref c_Page) "__add__" = some (some (.ref f_Page_add))
  n_Page_add : W.isFn K (.ref f_Page_add) = true
  sf_Page : W.selfFirst K c_Page = true
  F_Page_add : FunD K "__add__" "Page.__add__" (defArgs s_Page_add) (defBody s_Page_add) (defScope s_Page_add) [] [] f_Page_add d_Page_add
  b_Page_add : Binds K d_Page_add ["self", "other"] []
  m_Page_eq : W.findIn K (.ref c_Page) "__eq__" = some (some (.ref f_Page_eq))
  n_Page_eq : W.isFn K (.ref f_Page_eq) = true
  F_Page_eq : FunD K "__eq__" "Page.__eq__" (defArgs s_Page_eq) (defBody s_Page_eq) (defScope s_Page_eq) [] [] f_Page_eq d_Page_eq
  b_Page_eq : Binds K d_Page_eq ["self", "other"] []
  m_Page_str : W.findIn K (.ref c_Page) "__str__" = some (some (.ref f_Page_str))
  n_Page_str : W.isFn K (.ref f_Page_str) = true
  F_Page_str : FunD K "__str__" "Page.__str__" (defArgs s_Page_str) (defBody s_Page_str) (defScope s_Page_str) [] [] f_Page_str d_Page_str
  b_Page_str : Binds K d_Page_str ["self"] []
  c_HastyError : Addr
  g_HastyError : mg "HastyError" = some (.ref c_HastyError)
  c_InvalidRow : Addr
  g_InvalidRow : mg "InvalidRow" = some (.ref c_InvalidRow)
  xf_InvalidRow : XfC K c_InvalidRow
  xc_InvalidRow : ExcC K c_InvalidRow
  na_InvalidRow_word : W.findIn K (.ref c_InvalidRow) "word" = some none
structure Tp (prog : Program) (K : W.Frag) (mg : Str → Option Value) extends Tp3 prog K mg where
  x_InvalidRow : XCls prog K mg c_InvalidRow "word"
  c_InvalidPage : Addr
  g_InvalidPage : mg "InvalidPage" = some (.ref c_InvalidPage)
  xf_InvalidPage : XfC K c_InvalidPage
  xc_InvalidPage : ExcC K c_InvalidPage
  x0_InvalidPage : X0 K c_InvalidPage
  c_InvalidText : Addr
  g_InvalidText : mg "InvalidText" = some (.ref c_InvalidText)
  xf_InvalidText : XfC K c_InvalidText
  xc_InvalidText : ExcC K c_InvalidText
  na_InvalidText_at : W.findIn K (.ref c_InvalidText) "at" = some none
  x_InvalidText : XCls prog K mg c_InvalidText "at"
  c_NoRow : Addr
  g_NoRow : mg "NoRow" = some (.ref c_NoRow)
  xf_NoRow : XfC K c_NoRow
  xc_NoRow : ExcC K c_NoRow
  na_NoRow_at : W.findIn K (.ref c_NoRow) "at" = some none
  x_NoRow : XCls prog K mg c_NoRow "at"
  exm_InvalidText_InvalidText : W.exmOne K (.ref c_InvalidText) (.ref c_InvalidText) = some true
  exm_InvalidRow_InvalidRow : W.exmOne K (.ref c_InvalidRow) (.ref c_InvalidRow) = some true
  exm_InvalidText_HastyError : W.exmOne K (.ref c_InvalidText) (.ref c_HastyError) = some true
  isx_InvalidRow_HastyError : W.kitOne K (.ref c_InvalidRow) (.ref c_HastyError) = some true
  isx_InvalidPage_HastyError : W.kitOne K (.ref c_InvalidPage) (.ref c_HastyError) = some true
  isx_InvalidText_HastyError : W.kitOne K (.ref c_InvalidText) (.ref c_HastyError) = some true
  isx_NoRow_HastyError : W.kitOne K (.ref c_NoRow) (.ref c_HastyError) = some false
  z_abs : mg "abs" = none
  z_all : mg "all" = none
  z_enumerate : mg "enumerate" = none
  z_int : mg "int" = none
  z_isinstance : mg "isinstance" = none
  z_len : mg "len" = none
  z_list : mg "list" = none
  z_min : mg "min" = none
  z_range : mg "range" = none
  z_str : mg "str" = none
  z_tuple : mg "tuple" = none
  g_LETTERS : mg "LETTERS" = some (.ref a_LETTERS)
  r_LETTERS : ∀ H : Hp, Rep K H (.tup (cst_LETTERS.map D.str)) (.ref a_LETTERS)
  g_TESTS : mg "TESTS" = some (.ref a_TESTS)
  r_TESTS : ∀ H : Hp, Rep K H (.tup (cst_TESTS.map D.str)) (.ref a_TESTS)
  g_DEEDS : mg "DEEDS" = some (.ref a_DEEDS)
  r_DEEDS : ∀ H : Hp, Rep K H (.tup (cst_DEEDS.map D.str)) (.ref a_DEEDS)
  g_OF_ANSWERS : mg "OF_ANSWERS" = some (.ref a_OF_ANSWERS)
  r_OF_ANSWERS : ∀ H : Hp, Rep K H (.tup (cst_OF_ANSWERS.map D.str)) (.ref a_OF_ANSWERS)
  re_Row_init_0 : ∀ H : Hp, Rep K H (.tup []) (.ref e_Row_init_0)
  re_Row_init_1 : ∀ H : Hp, Rep K H (.tup []) (.ref e_Row_init_1)
  re_Page_init_0 : ∀ H : Hp, Rep K H (.tup []) (.ref e_Page_init_0)
theorem tp_fa {P : Program} {K : W.Frag} {mg : Str → Option Value} {fa : Addr} (h : mg "law" = some (.ref fa)) (T : Nonempty (Tp P K mg)) : ∃ T : Tp P K mg, T.f_law = fa := by
  obtain ⟨T⟩ := T
  refine ⟨T, ?_⟩
  have e := h.symm.trans T.g_law
  cases e
  rfl
theorem law_binds {P : Program} {K : W.Frag} {mg : Str → Option Value} (T : Tp P K mg) (s : Shared) (u : Value) : BindsTo s T.d_law ⟨[u], []⟩ [("_law_script", u)] := T.F_law.bindsA (ps := ["_law_script"]) (fun _ _ _ _ _ _ us hl => match us, hl with | [_], _ => rfl) s [u] rfl
end Kk

set_option maxHeartbeats 0
namespace Kk
open PySem L2 PySem.Spec PyProof.Rows Tr
def Xc_Row (K : W.Frag) : Addr := He.ga K "Row"
def Xc_Page (K : W.Frag) : Addr := He.ga K "Page"
def Xc_HastyError (K : W.Frag) : Addr := He.ga K "HastyError"
def Xc_InvalidRow (K : W.Frag) : Addr := He.ga K "InvalidRow"
def Xc_InvalidPage (K : W.Frag) : Addr := He.ga K "InvalidPage"
def Xc_InvalidText (K : W.Frag) : Addr := He.ga K "InvalidText"
def Xc_NoRow (K : W.Frag) : Addr := He.ga K "NoRow"
def Xf__wall (K : W.Frag) : Addr := He.ga K "_wall"
def Xf_is_sequence (K : W.Frag) : Addr := He.ga K "is_sequence"
def Xf_fits_letter (K : W.Frag) : Addr := He.ga K "fits_letter"
def Xf_is_test (K : W.Frag) : Addr := He.ga K "is_test"
def Xf_is_deed (K : W.Frag) : Addr := He.ga K "is_deed"
def Xf__law_deal (K : W.Frag) : Addr := He.ga K "_law_deal"
def Xf__law_draw (K : W.Frag) : Addr := He.ga K "_law_draw"
def Xf__law_row (K : W.Frag) : Addr := He.ga K "_law_row"
def Xf__law_row_text (K : W.Frag) : Addr := He.ga K "_law_row_text"
def Xf__law_heard (K : W.Frag) : Addr := He.ga K "_law_heard"
def Xf_law (K : W.Frag) : Addr := He.ga K "law"
def Xf_Row_init (K : W.Frag) : Addr := He.ma K (Xc_Row K) "__init__"
def XtD_Row_init (K : W.Frag) : Addr := dfAd K (Xf_Row_init K)
def Xf_Row_read (K : W.Frag) : Addr := cmF K (Xc_Row K) "read"
def Xf_Row_eq (K : W.Frag) : Addr := He.ma K (Xc_Row K) "__eq__"
def Xf_Row_str (K : W.Frag) : Addr := He.ma K (Xc_Row K) "__str__"
def Xf_Page_init (K : W.Frag) : Addr := He.ma K (Xc_Page K) "__init__"
def XtD_Page_init (K : W.Frag) : Addr := dfAd K (Xf_Page_init K)
def Xf_Page_read (K : W.Frag) : Addr := cmF K (Xc_Page K) "read"
def Xf_Page_need_row (K : W.Frag) : Addr := He.ma K (Xc_Page K) "need_row"
def Xf_Page_without (K : W.Frag) : Addr := He.ma K (Xc_Page K) "without"
def Xf_Page_len (K : W.Frag) : Addr := He.ma K (Xc_Page K) "__len__"
def Xf_Page_getitem (K : W.Frag) : Addr := He.ma K (Xc_Page K) "__getitem__"
def Xf_Page_iter (K : W.Frag) : Addr := He.ma K (Xc_Page K) "__iter__"
def Xf_Page_add (K : W.Frag) : Addr := He.ma K (Xc_Page K) "__add__"
def Xf_Page_eq (K : W.Frag) : Addr := He.ma K (Xc_Page K) "__eq__"
def Xf_Page_str (K : W.Frag) : Addr := He.ma K (Xc_Page K) "__str__"
def Xa_LETTERS (K : W.Frag) : Addr := He.ga K "LETTERS"
def Xa_TESTS (K : W.Frag) : Addr := He.ga K "TESTS"
def Xa_DEEDS (K : W.Frag) : Addr := He.ga K "DEEDS"
def Xa_OF_ANSWERS (K : W.Frag) : Addr := He.ga K "OF_ANSWERS"
def Xe_Row_init_0 (K : W.Frag) : Addr := itAd K (XtD_Row_init K) 0
def Xe_Row_init_1 (K : W.Frag) : Addr := itAd K (XtD_Row_init K) 1
def Xe_Page_init_0 (K : W.Frag) : Addr := itAd K (XtD_Page_init K) 0
def Xf_InvalidRow_init (K : W.Frag) : Addr := He.ma K (Xc_InvalidRow K) "__init__"
def Xcda_InvalidRow (K : W.Frag) : Addr := cdAd K (Xf_InvalidRow_init K)
def Xcc_InvalidRow (K : W.Frag) : Addr := clAd K (Xf_InvalidRow_init K)
def Xf_InvalidText_init (K : W.Frag) : Addr := He.ma K (Xc_InvalidText K) "__init__"
def Xcda_InvalidText (K : W.Frag) : Addr := cdAd K (Xf_InvalidText_init K)
def Xcc_InvalidText (K : W.Frag) : Addr := clAd K (Xf_InvalidText_init K)
def Xf_NoRow_init (K : W.Frag) : Addr := He.ma K (Xc_NoRow K) "__init__"
def Xcda_NoRow (K : W.Frag) : Addr := cdAd K (Xf_NoRow_init K)
def Xcc_NoRow (K : W.Frag) : Addr := clAd K (Xf_NoRow_init K)
def df__wall : Df := ⟨Xf__wall, "_wall", "_wall", defArgs s__wall, defBody s__wall, defScope s__wall, fun K => [], []⟩
def df_is_sequence : Df := ⟨Xf_is_sequence, "is_sequence", "is_sequence", defArgs s_is_sequence, defBody s_is_sequence, defScope s_is_sequence, fun K => [], []⟩
def df_fits_letter : Df := ⟨Xf_fits_letter, "fits_letter", "fits_letter", defArgs s_fits_letter, defBody s_fits_letter, defScope s_fits_letter, fun K => [], []⟩
def df_is_test : Df := ⟨Xf_is_test, "is_test", "is_test", defArgs s_is_test, defBody s_is_test, defScope s_is_test, fun K => [], []⟩
def df_is_deed : Df := ⟨Xf_is_deed, "is_deed", "is_deed", defArgs s_is_deed, defBody s_is_deed, defScope s_is_deed, fun K => [], []⟩
def df__law_deal : Df := ⟨Xf__law_deal, "_law_deal", "_law_deal", defArgs s__law_deal, defBody s__law_deal, defScope s__law_deal, fun K => [], []⟩
def df__law_draw : Df := ⟨Xf__law_draw, "_law_draw", "_law_draw", defArgs s__law_draw, defBody s__law_draw, defScope s__law_draw, fun K => [], []⟩
def df__law_row : Df := ⟨Xf__law_row, "_law_row", "_law_row", defArgs s__law_row, defBody s__law_row, defScope s__law_row, fun K => [], []⟩
def df__law_row_text : Df := ⟨Xf__law_row_text, "_law_row_text", "_law_row_text", defArgs s__law_row_text, defBody s__law_row_text, defScope s__law_row_text, fun K => [], []⟩
def df__law_heard : Df := ⟨Xf__law_heard, "_law_heard", "_law_heard", defArgs s__law_heard, defBody s__law_heard, defScope s__law_heard, fun K => [], []⟩
def df_law : Df := ⟨Xf_law, "law", "law", defArgs s_law, defBody s_law, defScope s_law, fun K => [], []⟩
def df_Row_init : Df := ⟨Xf_Row_init, "__init__", "Row.__init__", defArgs s_Row_init, defBody s_Row_init, defScope s_Row_init, fun K => [(Xe_Row_init_0 K), (Xe_Row_init_1 K)], []⟩
def df_Row_read : Df := ⟨Xf_Row_read, "read", "Row.read", defArgs s_Row_read, defBody s_Row_read, defScope s_Row_read, fun K => [], []⟩
def df_Row_eq : Df := ⟨Xf_Row_eq, "__eq__", "Row.__eq__", defArgs s_Row_eq, defBody s_Row_eq, defScope s_Row_eq, fun K => [], []⟩
def df_Row_str : Df := ⟨Xf_Row_str, "__str__", "Row.__str__", defArgs s_Row_str, defBody s_Row_str, defScope s_Row_str, fun K => [], []⟩
def df_Page_init : Df := ⟨Xf_Page_init, "__init__", "Page.__init__", defArgs s_Page_init, defBody s_Page_init, defScope s_Page_init, fun K => [(Xe_Page_init_0 K)], []⟩
def df_Page_read : Df := ⟨Xf_Page_read, "read", "Page.read", defArgs s_Page_read, defBody s_Page_read, defScope s_Page_read, fun K => [], []⟩
def df_Page_need_row : Df := ⟨Xf_Page_need_row, "need_row", "Page.need_row", defArgs s_Page_need_row, defBody s_Page_need_row, defScope s_Page_need_row, fun K => [], []⟩
def df_Page_without : Df := ⟨Xf_Page_without, "without", "Page.without", defArgs s_Page_without, defBody s_Page_without, defScope s_Page_without, fun K => [], []⟩
def df_Page_len : Df := ⟨Xf_Page_len, "__len__", "Page.__len__", defArgs s_Page_len, defBody s_Page_len, defScope s_Page_len, fun K => [], []⟩
def df_Page_getitem : Df := ⟨Xf_Page_getitem, "__getitem__", "Page.__getitem__", defArgs s_Page_getitem, defBody s_Page_getitem, defScope s_Page_getitem, fun K => [], []⟩
def df_Page_iter : Df := ⟨Xf_Page_iter, "__iter__", "Page.__iter__", defArgs s_Page_iter, defBody s_Page_iter, defScope s_Page_iter, fun K => [], []⟩
def df_Page_add : Df := ⟨Xf_Page_add, "__add__", "Page.__add__", defArgs s_Page_add, defBody s_Page_add, defScope s_Page_add, fun K => [], []⟩
def df_Page_eq : Df := ⟨Xf_Page_eq, "__eq__", "Page.__eq__", defArgs s_Page_eq, defBody s_Page_eq, defScope s_Page_eq, fun K => [], []⟩
def df_Page_str : Df := ⟨Xf_Page_str, "__str__", "Page.__str__", defArgs s_Page_str, defBody s_Page_str, defScope s_Page_str, fun K => [], []⟩
def df_InvalidRow_init : Df := ⟨Xf_InvalidRow_init, "__init__", "InvalidRow.__init__", defArgs s_InvalidRow_init, defBody s_InvalidRow_init, defScope s_InvalidRow_init, fun K => [], ["__class__"]⟩
def df_InvalidText_init : Df := ⟨Xf_InvalidText_init, "__init__", "InvalidText.__init__", defArgs s_InvalidText_init, defBody s_InvalidText_init, defScope s_InvalidText_init, fun K => [], ["__class__"]⟩
def df_NoRow_init : Df := ⟨Xf_NoRow_init, "__init__", "NoRow.__init__", defArgs s_NoRow_init, defBody s_NoRow_init, defScope s_NoRow_init, fun K => [], ["__class__"]⟩
def dfs0 : List Df := [df__wall, df_is_sequence, df_fits_letter, df_is_test, df_is_deed, df__law_deal, df__law_draw, df__law_row, df__law_row_text, df__law_heard, df_law, df_Row_init, df_Row_read, df_Row_eq, df_Row_str, df_Page_init, df_Page_read, df_Page_need_row, df_Page_without, df_Page_len, df_Page_getitem, df_Page_iter, df_Page_add, df_Page_eq, df_Page_str, df_InvalidRow_init, df_InvalidText_init, df_NoRow_init]
def dfs : List Df := dfs0
def ts0 : List (W.Frag → Bool) := [
  fun K => decide (W.specialIn K (.builtin "object.__class__") "__get__" = some (some (.builtin "getset_descriptor.__get__"))),
  fun K => decide (W.takesIn K (.builtin "object.__class__") = some true),
  fun K => decide (W.nsIn K mainGlobals "Row" = some (some (.ref (Xc_Row K)))),
  fun K => decide (W.plainGet K (Xc_Row K) Str.empty = true),
  fun K => decide (W.hasDictIn K (Xc_Row K) = true),
  fun K => decide (W.plainOver K (Xc_Row K) = true),
  fun K => decide (W.findIn K (.ref (Xc_Row K)) "__setattr__" = some (some (.builtin "object.__setattr__"))),
  fun K => decide (W.findIn K (.ref (Xc_Row K)) "__class__" = some (some (.builtin "object.__class__"))),
  fun K => decide (W.mroIn K (Xc_Row K) (.type "object") = some true),
  fun K => decide (W.findIn K (.ref (Xc_Row K)) "letter" = some none),
  fun K => decide (W.findIn K (.ref (Xc_Row K)) "tests" = some none),
  fun K => decide (W.findIn K (.ref (Xc_Row K)) "deeds" = some none),
  fun K => decide (W.subIn K (.type "list") (.ref (Xc_Row K)) = some false),
  fun K => decide (W.subIn K (.type "tuple") (.ref (Xc_Row K)) = some false),
  fun K => decide (W.subIn K (.type "str") (.ref (Xc_Row K)) = some false),
  fun K => decide (W.subIn K (.type "int") (.ref (Xc_Row K)) = some false),
  fun K => decide (W.subIn K (.type "bool") (.ref (Xc_Row K)) = some false),
  fun K => decide (W.subIn K (.type "NoneType") (.ref (Xc_Row K)) = some false),
  fun K => decide (W.subIn K (.ref (Xc_Row K)) (.type "list") = some false),
  fun K => decide (W.subIn K (.ref (Xc_Row K)) (.type "tuple") = some false),
  fun K => decide (W.subIn K (.ref (Xc_Row K)) (.type "str") = some false),
  fun K => decide (W.subIn K (.ref (Xc_Row K)) (.type "int") = some false),
  fun K => decide (W.subIn K (.ref (Xc_Row K)) (.type "bool") = some false),
  fun K => clsT K (Xc_Row K),
  fun K => decide (W.typeIn K (.ref (Xc_Row K)) = some (.type "type")),
  fun K => decide (W.notFirst K (Xc_Row K) (.ref (Xc_Row K)) = true),
  fun K => decide (W.notFirst K (Xc_Row K) (.type "list") = true),
  fun K => decide (W.notFirst K (Xc_Row K) (.type "tuple") = true),
  fun K => decide (W.notFirst K (Xc_Row K) (.type "str") = true),
  fun K => decide (W.notFirst K (Xc_Row K) (.type "int") = true)]
def ts1 : List (W.Frag → Bool) := [
  fun K => decide (W.notFirst K (Xc_Row K) (.type "bool") = true),
  fun K => decide (W.notFirst K (Xc_Row K) (.type "NoneType") = true),
  fun K => decide (W.findIn K (.ref (Xc_Row K)) "__ne__" = some (some (.builtin "object.__ne__"))),
  fun K => decide (W.nsIn K mainGlobals "Page" = some (some (.ref (Xc_Page K)))),
  fun K => decide (W.plainGet K (Xc_Page K) Str.empty = true),
  fun K => decide (W.hasDictIn K (Xc_Page K) = true),
  fun K => decide (W.plainOver K (Xc_Page K) = true),
  fun K => decide (W.findIn K (.ref (Xc_Page K)) "__setattr__" = some (some (.builtin "object.__setattr__"))),
  fun K => decide (W.findIn K (.ref (Xc_Page K)) "__class__" = some (some (.builtin "object.__class__"))),
  fun K => decide (W.mroIn K (Xc_Page K) (.type "object") = some true),
  fun K => decide (W.findIn K (.ref (Xc_Page K)) "rows" = some none),
  fun K => decide (W.subIn K (.type "list") (.ref (Xc_Page K)) = some false),
  fun K => decide (W.subIn K (.type "tuple") (.ref (Xc_Page K)) = some false),
  fun K => decide (W.subIn K (.type "str") (.ref (Xc_Page K)) = some false),
  fun K => decide (W.subIn K (.type "int") (.ref (Xc_Page K)) = some false),
  fun K => decide (W.subIn K (.type "bool") (.ref (Xc_Page K)) = some false),
  fun K => decide (W.subIn K (.type "NoneType") (.ref (Xc_Page K)) = some false),
  fun K => decide (W.subIn K (.ref (Xc_Page K)) (.type "list") = some false),
  fun K => decide (W.subIn K (.ref (Xc_Page K)) (.type "tuple") = some false),
  fun K => decide (W.subIn K (.ref (Xc_Page K)) (.type "str") = some false),
  fun K => decide (W.subIn K (.ref (Xc_Page K)) (.type "int") = some false),
  fun K => decide (W.subIn K (.ref (Xc_Page K)) (.type "bool") = some false),
  fun K => clsT K (Xc_Page K),
  fun K => decide (W.typeIn K (.ref (Xc_Page K)) = some (.type "type")),
  fun K => decide (W.notFirst K (Xc_Page K) (.ref (Xc_Page K)) = true),
  fun K => decide (W.notFirst K (Xc_Page K) (.type "list") = true),
  fun K => decide (W.notFirst K (Xc_Page K) (.type "tuple") = true),
  fun K => decide (W.notFirst K (Xc_Page K) (.type "str") = true),
  fun K => decide (W.notFirst K (Xc_Page K) (.type "int") = true),
  fun K => decide (W.notFirst K (Xc_Page K) (.type "bool") = true)]
def ts2 : List (W.Frag → Bool) := [
  fun K => decide (W.notFirst K (Xc_Page K) (.type "NoneType") = true),
  fun K => decide (W.findIn K (.ref (Xc_Page K)) "__ne__" = some (some (.builtin "object.__ne__"))),
  fun K => decide (W.nsIn K mainGlobals "_wall" = some (some (.ref (Xf__wall K)))),
  fun K => decide (W.keepIn K (.ref (Xf__wall K)) = true),
  fun K => decide (W.nsIn K mainGlobals "is_sequence" = some (some (.ref (Xf_is_sequence K)))),
  fun K => decide (W.keepIn K (.ref (Xf_is_sequence K)) = true),
  fun K => decide (W.nsIn K mainGlobals "fits_letter" = some (some (.ref (Xf_fits_letter K)))),
  fun K => decide (W.keepIn K (.ref (Xf_fits_letter K)) = true),
  fun K => decide (W.nsIn K mainGlobals "is_test" = some (some (.ref (Xf_is_test K)))),
  fun K => decide (W.keepIn K (.ref (Xf_is_test K)) = true),
  fun K => decide (W.nsIn K mainGlobals "is_deed" = some (some (.ref (Xf_is_deed K)))),
  fun K => decide (W.keepIn K (.ref (Xf_is_deed K)) = true),
  fun K => decide (W.nsIn K mainGlobals "_law_deal" = some (some (.ref (Xf__law_deal K)))),
  fun K => decide (W.keepIn K (.ref (Xf__law_deal K)) = true),
  fun K => decide (W.nsIn K mainGlobals "_law_draw" = some (some (.ref (Xf__law_draw K)))),
  fun K => decide (W.keepIn K (.ref (Xf__law_draw K)) = true),
  fun K => decide (W.nsIn K mainGlobals "_law_row" = some (some (.ref (Xf__law_row K)))),
  fun K => decide (W.keepIn K (.ref (Xf__law_row K)) = true),
  fun K => decide (W.nsIn K mainGlobals "_law_row_text" = some (some (.ref (Xf__law_row_text K)))),
  fun K => decide (W.keepIn K (.ref (Xf__law_row_text K)) = true),
  fun K => decide (W.nsIn K mainGlobals "_law_heard" = some (some (.ref (Xf__law_heard K)))),
  fun K => decide (W.keepIn K (.ref (Xf__law_heard K)) = true),
  fun K => decide (W.nsIn K mainGlobals "law" = some (some (.ref (Xf_law K)))),
  fun K => decide (W.keepIn K (.ref (Xf_law K)) = true),
  fun K => decide (W.findIn K (.ref (Xc_Row K)) "__init__" = some (some (.ref (Xf_Row_init K)))),
  fun K => decide (W.isFn K (.ref (Xf_Row_init K)) = true),
  fun K => decide (W.makesIn K (Xc_Row K) = true),
  fun K => decide (W.keepIn K (.ref (Xc_Row K)) = true),
  fun K => decide (W.keepIn K (.ref (Xf_Row_init K)) = true),
  fun K => decide (W.readsIn K (Xc_Row K) (.type "type") = true)]
def ts3 : List (W.Frag → Bool) := [
  fun K => decide (W.specialIn K (.ref (Xc_Row K)) "__getattribute__" = some (some (.builtin "type.__getattribute__"))),
  fun K => cmT K (Xc_Row K) "read",
  fun K => decide (W.fnIn K (Xf_Row_read K) = true),
  fun K => decide (W.keepIn K (.ref (Xf_Row_read K)) = true),
  fun K => decide (W.findIn K (.ref (Xc_Row K)) "__eq__" = some (some (.ref (Xf_Row_eq K)))),
  fun K => decide (W.isFn K (.ref (Xf_Row_eq K)) = true),
  fun K => decide (W.keepIn K (.ref (Xf_Row_eq K)) = true),
  fun K => decide (W.findIn K (.ref (Xc_Row K)) "__str__" = some (some (.ref (Xf_Row_str K)))),
  fun K => decide (W.isFn K (.ref (Xf_Row_str K)) = true),
  fun K => decide (W.keepIn K (.ref (Xf_Row_str K)) = true),
  fun K => decide (W.findIn K (.ref (Xc_Page K)) "__init__" = some (some (.ref (Xf_Page_init K)))),
  fun K => decide (W.isFn K (.ref (Xf_Page_init K)) = true),
  fun K => decide (W.makesIn K (Xc_Page K) = true),
  fun K => decide (W.keepIn K (.ref (Xc_Page K)) = true),
  fun K => decide (W.keepIn K (.ref (Xf_Page_init K)) = true),
  fun K => decide (W.readsIn K (Xc_Page K) (.type "type") = true),
  fun K => decide (W.specialIn K (.ref (Xc_Page K)) "__getattribute__" = some (some (.builtin "type.__getattribute__"))),
  fun K => cmT K (Xc_Page K) "read",
  fun K => decide (W.fnIn K (Xf_Page_read K) = true),
  fun K => decide (W.keepIn K (.ref (Xf_Page_read K)) = true),
  fun K => decide (W.findIn K (.ref (Xc_Page K)) "need_row" = some (some (.ref (Xf_Page_need_row K)))),
  fun K => decide (W.isFn K (.ref (Xf_Page_need_row K)) = true),
  fun K => decide (W.keepIn K (.ref (Xf_Page_need_row K)) = true),
  fun K => decide (W.findIn K (.ref (Xc_Page K)) "without" = some (some (.ref (Xf_Page_without K)))),
  fun K => decide (W.isFn K (.ref (Xf_Page_without K)) = true),
  fun K => decide (W.keepIn K (.ref (Xf_Page_without K)) = true),
  fun K => decide (W.findIn K (.ref (Xc_Page K)) "__len__" = some (some (.ref (Xf_Page_len K)))),
  fun K => decide (W.isFn K (.ref (Xf_Page_len K)) = true),
  fun K => decide (W.keepIn K (.ref (Xf_Page_len K)) = true),
  fun K => decide (W.findIn K (.ref (Xc_Page K)) "__getitem__" = some (some (.ref (Xf_Page_getitem K))))]
def ts4 : List (W.Frag → Bool) := [
  fun K => decide (W.isFn K (.ref (Xf_Page_getitem K)) = true),
  fun K => decide (W.fnIn K (Xf_Page_getitem K) = true),
  fun K => decide (W.keepIn K (.ref (Xf_Page_getitem K)) = true),
  fun K => decide (W.findIn K (.ref (Xc_Page K)) "__iter__" = some (some (.ref (Xf_Page_iter K)))),
  fun K => decide (W.isFn K (.ref (Xf_Page_iter K)) = true),
  fun K => decide (W.keepIn K (.ref (Xf_Page_iter K)) = true),
  fun K => decide (W.findIn K (.ref (Xc_Page K)) "__add__" = some (some (.ref (Xf_Page_add K)))),
  fun K => decide (W.isFn K (.ref (Xf_Page_add K)) = true),
  fun K => decide (W.selfFirst K (Xc_Page K) = true),
  fun K => decide (W.keepIn K (.ref (Xf_Page_add K)) = true),
  fun K => decide (W.findIn K (.ref (Xc_Page K)) "__eq__" = some (some (.ref (Xf_Page_eq K)))),
  fun K => decide (W.isFn K (.ref (Xf_Page_eq K)) = true),
  fun K => decide (W.keepIn K (.ref (Xf_Page_eq K)) = true),
  fun K => decide (W.findIn K (.ref (Xc_Page K)) "__str__" = some (some (.ref (Xf_Page_str K)))),
  fun K => decide (W.isFn K (.ref (Xf_Page_str K)) = true),
  fun K => decide (W.keepIn K (.ref (Xf_Page_str K)) = true),
  fun K => decide (W.nsIn K mainGlobals "HastyError" = some (some (.ref (Xc_HastyError K)))),
  fun K => clsT K (Xc_HastyError K),
  fun K => decide (W.typeIn K (.ref (Xc_HastyError K)) = some (.type "type")),
  fun K => decide (W.nsIn K mainGlobals "super" = some none),
  fun K => decide (W.nsIn K cStatics "thirdparty.any" = some none),
  fun K => decide (W.nsIn K mainGlobals "InvalidRow" = some (some (.ref (Xc_InvalidRow K)))),
  fun K => excT K (Xc_InvalidRow K) [.type "ValueError", .type "Exception", .type "BaseException", .type "object"] "ValueError.__new__",
  fun K => decide (W.findIn K (.ref (Xc_InvalidRow K)) "__setattr__" = some (some (.builtin "object.__setattr__"))),
  fun K => decide (W.subIn K (.ref (Xc_InvalidRow K)) (.type "BaseException") = some true),
  fun K => decide (W.typeIn K (.ref (Xc_InvalidRow K)) = some (.type "type")),
  fun K => decide (W.keepIn K (.ref (Xc_InvalidRow K)) = true),
  fun K => decide (W.findIn K (.ref (Xc_InvalidRow K)) "__getattribute__" = some (some (.builtin "BaseException.__getattribute__"))),
  fun K => decide (W.findIn K (.ref (Xc_InvalidRow K)) "__getattr__" = some none),
  fun K => decide (W.hasDictIn K (Xc_InvalidRow K) = true)]
def ts5 : List (W.Frag → Bool) := [
  fun K => decide (W.findIn K (.ref (Xc_InvalidRow K)) "__class__" = some (some (.builtin "object.__class__"))),
  fun K => decide (W.mroIn K (Xc_InvalidRow K) (.type "object") = some true),
  fun K => decide (W.findIn K (.ref (Xc_InvalidRow K)) "word" = some none),
  fun K => decide (W.findIn K (.ref (Xc_InvalidRow K)) "__init__" = some (some (.ref (Xf_InvalidRow_init K)))),
  fun K => decide (W.typeIn K (.ref (Xf_InvalidRow_init K)) = some (.type "function")),
  fun K => (fdAt K (Xf_InvalidRow_init K)).any fun g => isRefV g.code,
  fun K => filT K (Xcda_InvalidRow K) PySem.Challenge.pw_hastypage_k15_pages_read.main.file,
  fun K => celT K (Xcc_InvalidRow K) (Xc_InvalidRow K),
  fun K => decide (W.ks_superIn K (Xc_InvalidRow K) (Xc_InvalidRow K) "__init__" = some (some (.builtin "ValueError.__init__"))),
  fun K => decide (W.subIn K (.ref (Xc_InvalidRow K)) (.type "ValueError") = some true),
  fun K => decide (W.nsIn K mainGlobals "InvalidPage" = some (some (.ref (Xc_InvalidPage K)))),
  fun K => excT K (Xc_InvalidPage K) [.type "ValueError", .type "Exception", .type "BaseException", .type "object"] "ValueError.__new__",
  fun K => decide (W.findIn K (.ref (Xc_InvalidPage K)) "__setattr__" = some (some (.builtin "object.__setattr__"))),
  fun K => decide (W.subIn K (.ref (Xc_InvalidPage K)) (.type "BaseException") = some true),
  fun K => decide (W.typeIn K (.ref (Xc_InvalidPage K)) = some (.type "type")),
  fun K => decide (W.keepIn K (.ref (Xc_InvalidPage K)) = true),
  fun K => decide (W.findIn K (.ref (Xc_InvalidPage K)) "__getattribute__" = some (some (.builtin "BaseException.__getattribute__"))),
  fun K => decide (W.findIn K (.ref (Xc_InvalidPage K)) "__getattr__" = some none),
  fun K => decide (W.hasDictIn K (Xc_InvalidPage K) = true),
  fun K => decide (W.findIn K (.ref (Xc_InvalidPage K)) "__class__" = some (some (.builtin "object.__class__"))),
  fun K => decide (W.mroIn K (Xc_InvalidPage K) (.type "object") = some true),
  fun K => decide (W.excIn K (Xc_InvalidPage K) [.type "ValueError", .type "Exception", .type "BaseException", .type "object"] "ValueError.__new__" = true),
  fun K => decide (W.nsIn K mainGlobals "InvalidText" = some (some (.ref (Xc_InvalidText K)))),
  fun K => excT K (Xc_InvalidText K) [.type "ValueError", .type "Exception", .type "BaseException", .type "object"] "ValueError.__new__",
  fun K => decide (W.findIn K (.ref (Xc_InvalidText K)) "__setattr__" = some (some (.builtin "object.__setattr__"))),
  fun K => decide (W.subIn K (.ref (Xc_InvalidText K)) (.type "BaseException") = some true),
  fun K => decide (W.typeIn K (.ref (Xc_InvalidText K)) = some (.type "type")),
  fun K => decide (W.keepIn K (.ref (Xc_InvalidText K)) = true),
  fun K => decide (W.findIn K (.ref (Xc_InvalidText K)) "__getattribute__" = some (some (.builtin "BaseException.__getattribute__"))),
  fun K => decide (W.findIn K (.ref (Xc_InvalidText K)) "__getattr__" = some none)]
def ts6 : List (W.Frag → Bool) := [
  fun K => decide (W.hasDictIn K (Xc_InvalidText K) = true),
  fun K => decide (W.findIn K (.ref (Xc_InvalidText K)) "__class__" = some (some (.builtin "object.__class__"))),
  fun K => decide (W.mroIn K (Xc_InvalidText K) (.type "object") = some true),
  fun K => decide (W.findIn K (.ref (Xc_InvalidText K)) "at" = some none),
  fun K => decide (W.findIn K (.ref (Xc_InvalidText K)) "__init__" = some (some (.ref (Xf_InvalidText_init K)))),
  fun K => decide (W.typeIn K (.ref (Xf_InvalidText_init K)) = some (.type "function")),
  fun K => (fdAt K (Xf_InvalidText_init K)).any fun g => isRefV g.code,
  fun K => filT K (Xcda_InvalidText K) PySem.Challenge.pw_hastypage_k15_pages_read.main.file,
  fun K => celT K (Xcc_InvalidText K) (Xc_InvalidText K),
  fun K => decide (W.ks_superIn K (Xc_InvalidText K) (Xc_InvalidText K) "__init__" = some (some (.builtin "ValueError.__init__"))),
  fun K => decide (W.subIn K (.ref (Xc_InvalidText K)) (.type "ValueError") = some true),
  fun K => decide (W.nsIn K mainGlobals "NoRow" = some (some (.ref (Xc_NoRow K)))),
  fun K => excT K (Xc_NoRow K) [.type "IndexError", .type "LookupError", .type "Exception", .type "BaseException", .type "object"] "IndexError.__new__",
  fun K => decide (W.findIn K (.ref (Xc_NoRow K)) "__setattr__" = some (some (.builtin "object.__setattr__"))),
  fun K => decide (W.subIn K (.ref (Xc_NoRow K)) (.type "BaseException") = some true),
  fun K => decide (W.typeIn K (.ref (Xc_NoRow K)) = some (.type "type")),
  fun K => decide (W.keepIn K (.ref (Xc_NoRow K)) = true),
  fun K => decide (W.findIn K (.ref (Xc_NoRow K)) "__getattribute__" = some (some (.builtin "BaseException.__getattribute__"))),
  fun K => decide (W.findIn K (.ref (Xc_NoRow K)) "__getattr__" = some none),
  fun K => decide (W.hasDictIn K (Xc_NoRow K) = true),
  fun K => decide (W.findIn K (.ref (Xc_NoRow K)) "__class__" = some (some (.builtin "object.__class__"))),
  fun K => decide (W.mroIn K (Xc_NoRow K) (.type "object") = some true),
  fun K => decide (W.findIn K (.ref (Xc_NoRow K)) "at" = some none),
  fun K => decide (W.findIn K (.ref (Xc_NoRow K)) "__init__" = some (some (.ref (Xf_NoRow_init K)))),
  fun K => decide (W.typeIn K (.ref (Xf_NoRow_init K)) = some (.type "function")),
  fun K => (fdAt K (Xf_NoRow_init K)).any fun g => isRefV g.code,
  fun K => filT K (Xcda_NoRow K) PySem.Challenge.pw_hastypage_k15_pages_read.main.file,
  fun K => celT K (Xcc_NoRow K) (Xc_NoRow K),
  fun K => decide (W.ks_superIn K (Xc_NoRow K) (Xc_NoRow K) "__init__" = some (some (.builtin "IndexError.__init__"))),
  fun K => decide (W.subIn K (.ref (Xc_NoRow K)) (.type "IndexError") = some true)]
def ts7 : List (W.Frag → Bool) := [
  fun K => decide (W.subIn K (.ref (Xc_InvalidText K)) (.ref (Xc_InvalidText K)) = some true),
  fun K => decide (W.subIn K (.ref (Xc_InvalidRow K)) (.ref (Xc_InvalidRow K)) = some true),
  fun K => decide (W.subIn K (.ref (Xc_HastyError K)) (.type "BaseException") = some true),
  fun K => decide (W.hasDictIn K (Xc_HastyError K) = true),
  fun K => decide (W.subIn K (.ref (Xc_InvalidText K)) (.ref (Xc_HastyError K)) = some true),
  fun K => decide (W.subIn K (.ref (Xc_InvalidRow K)) (.ref (Xc_HastyError K)) = some true),
  fun K => decide (((.ref (Xc_InvalidRow K) : Value) == .ref (Xc_HastyError K)) = false),
  fun K => decide (W.subIn K (.ref (Xc_InvalidPage K)) (.ref (Xc_HastyError K)) = some true),
  fun K => decide (((.ref (Xc_InvalidPage K) : Value) == .ref (Xc_HastyError K)) = false),
  fun K => decide (((.ref (Xc_InvalidText K) : Value) == .ref (Xc_HastyError K)) = false),
  fun K => decide (W.subIn K (.ref (Xc_NoRow K)) (.ref (Xc_HastyError K)) = some false),
  fun K => decide (((.ref (Xc_NoRow K) : Value) == .ref (Xc_HastyError K)) = false),
  fun K => decide (W.nsIn K mainGlobals "abs" = some none),
  fun K => decide (W.nsIn K mainGlobals "all" = some none),
  fun K => decide (W.nsIn K mainGlobals "enumerate" = some none),
  fun K => decide (W.nsIn K mainGlobals "int" = some none),
  fun K => decide (W.nsIn K mainGlobals "isinstance" = some none),
  fun K => decide (W.nsIn K mainGlobals "len" = some none),
  fun K => decide (W.nsIn K mainGlobals "list" = some none),
  fun K => decide (W.nsIn K mainGlobals "min" = some none),
  fun K => decide (W.nsIn K mainGlobals "range" = some none),
  fun K => decide (W.nsIn K mainGlobals "str" = some none),
  fun K => decide (W.nsIn K mainGlobals "tuple" = some none),
  fun K => decide (W.nsIn K mainGlobals "LETTERS" = some (some (.ref (Xa_LETTERS K)))),
  fun K => tupT K (Xa_LETTERS K) cst_LETTERS,
  fun K => decide (W.nsIn K mainGlobals "TESTS" = some (some (.ref (Xa_TESTS K)))),
  fun K => tupT K (Xa_TESTS K) cst_TESTS,
  fun K => decide (W.nsIn K mainGlobals "DEEDS" = some (some (.ref (Xa_DEEDS K)))),
  fun K => tupT K (Xa_DEEDS K) cst_DEEDS,
  fun K => decide (W.nsIn K mainGlobals "OF_ANSWERS" = some (some (.ref (Xa_OF_ANSWERS K))))]
def ts8 : List (W.Frag → Bool) := [
  fun K => tupT K (Xa_OF_ANSWERS K) cst_OF_ANSWERS,
  fun K => tupT K (Xe_Row_init_0 K) [],
  fun K => tupT K (Xe_Row_init_1 K) [],
  fun K => tupT K (Xe_Page_init_0 K) []]
def chs : List (List (W.Frag → Bool)) := [ts0, ts1, ts2, ts3, ts4, ts5, ts6, ts7, ts8]
theorem tp_of {K : W.Frag} {h : Heap} {mg : Str → Option Value} (X : K.In h) (G : h.Ns mainGlobals mg) (c : SaysX chs dfs K) : Nonempty (Tp PySem.Challenge.pw_hastypage_k15_pages_read K mg) := by
  have cnn : W.specialIn K (.builtin "object.__class__") "__get__" = some (some (.builtin "getset_descriptor.__get__")) := of_decide_eq_true (c.t 0 0 rfl rfl)
  have ctt : W.takesIn K (.builtin "object.__class__") = some true := of_decide_eq_true (c.t 0 1 rfl rfl)
  have a_Row : W.nsIn K mainGlobals "Row" = some (some (.ref (Xc_Row K))) := of_decide_eq_true (c.t 0 2 rfl rfl)
  have pg_Row : W.plainGet K (Xc_Row K) Str.empty = true := of_decide_eq_true (c.t 0 3 rfl rfl)
  have hd_Row : W.hasDictIn K (Xc_Row K) = true := of_decide_eq_true (c.t 0 4 rfl rfl)
  have po_Row : W.plainOver K (Xc_Row K) = true := of_decide_eq_true (c.t 0 5 rfl rfl)
  have sa_Row : W.findIn K (.ref (Xc_Row K)) "__setattr__" = some (some (.builtin "object.__setattr__")) := of_decide_eq_true (c.t 0 6 rfl rfl)
  have ca_Row : W.findIn K (.ref (Xc_Row K)) "__class__" = some (some (.builtin "object.__class__")) := of_decide_eq_true (c.t 0 7 rfl rfl)
  have cm_Row : W.mroIn K (Xc_Row K) (.type "object") = some true := of_decide_eq_true (c.t 0 8 rfl rfl)
  have na_Row_letter : W.findIn K (.ref (Xc_Row K)) "letter" = some none := of_decide_eq_true (c.t 0 9 rfl rfl)
  have na_Row_tests : W.findIn K (.ref (Xc_Row K)) "tests" = some none := of_decide_eq_true (c.t 0 10 rfl rfl)
  have na_Row_deeds : W.findIn K (.ref (Xc_Row K)) "deeds" = some none := of_decide_eq_true (c.t 0 11 rfl rfl)
  have ss_Row_list : W.subIn K (.type "list") (.ref (Xc_Row K)) = some false := of_decide_eq_true (c.t 0 12 rfl rfl)
  have ss_Row_tuple : W.subIn K (.type "tuple") (.ref (Xc_Row K)) = some false := of_decide_eq_true (c.t 0 13 rfl rfl)
  have ss_Row_str : W.subIn K (.type "str") (.ref (Xc_Row K)) = some false := of_decide_eq_true (c.t 0 14 rfl rfl)
  have ss_Row_int : W.subIn K (.type "int") (.ref (Xc_Row K)) = some false := of_decide_eq_true (c.t 0 15 rfl rfl)
  have ss_Row_bool : W.subIn K (.type "bool") (.ref (Xc_Row K)) = some false := of_decide_eq_true (c.t 0 16 rfl rfl)
  have ss_Row_NoneType : W.subIn K (.type "NoneType") (.ref (Xc_Row K)) = some false := of_decide_eq_true (c.t 0 17 rfl rfl)
  have sk_Row_list : W.subIn K (.ref (Xc_Row K)) (.type "list") = some false := of_decide_eq_true (c.t 0 18 rfl rfl)
  have sk_Row_tuple : W.subIn K (.ref (Xc_Row K)) (.type "tuple") = some false := of_decide_eq_true (c.t 0 19 rfl rfl)
  have sk_Row_str : W.subIn K (.ref (Xc_Row K)) (.type "str") = some false := of_decide_eq_true (c.t 0 20 rfl rfl)
  have sk_Row_int : W.subIn K (.ref (Xc_Row K)) (.type "int") = some false := of_decide_eq_true (c.t 0 21 rfl rfl)
  have sk_Row_bool : W.subIn K (.ref (Xc_Row K)) (.type "bool") = some false := of_decide_eq_true (c.t 0 22 rfl rfl)
  obtain ⟨cd_Row, cl_Row⟩ := clsT_ok (c.t 0 23 rfl rfl)
  have ty_Row : W.typeIn K (.ref (Xc_Row K)) = some (.type "type") := of_decide_eq_true (c.t 0 24 rfl rfl)
  have nf_Row_Row : W.notFirst K (Xc_Row K) (.ref (Xc_Row K)) = true := of_decide_eq_true (c.t 0 25 rfl rfl)
  have nf_Row_list : W.notFirst K (Xc_Row K) (.type "list") = true := of_decide_eq_true (c.t 0 26 rfl rfl)
  have nf_Row_tuple : W.notFirst K (Xc_Row K) (.type "tuple") = true := of_decide_eq_true (c.t 0 27 rfl rfl)
  have nf_Row_str : W.notFirst K (Xc_Row K) (.type "str") = true := of_decide_eq_true (c.t 0 28 rfl rfl)
  have nf_Row_int : W.notFirst K (Xc_Row K) (.type "int") = true := of_decide_eq_true (c.t 0 29 rfl rfl)
  have nf_Row_bool : W.notFirst K (Xc_Row K) (.type "bool") = true := of_decide_eq_true (c.t 1 0 rfl rfl)
  have nf_Row_NoneType : W.notFirst K (Xc_Row K) (.type "NoneType") = true := of_decide_eq_true (c.t 1 1 rfl rfl)
  have ne_Row : W.findIn K (.ref (Xc_Row K)) "__ne__" = some (some (.builtin "object.__ne__")) := of_decide_eq_true (c.t 1 2 rfl rfl)
  have a_Page : W.nsIn K mainGlobals "Page" = some (some (.ref (Xc_Page K))) := of_decide_eq_true (c.t 1 3 rfl rfl)
  have pg_Page : W.plainGet K (Xc_Page K) Str.empty = true := of_decide_eq_true (c.t 1 4 rfl rfl)
  have hd_Page : W.hasDictIn K (Xc_Page K) = true := of_decide_eq_true (c.t 1 5 rfl rfl)
  have po_Page : W.plainOver K (Xc_Page K) = true := of_decide_eq_true (c.t 1 6 rfl rfl)
  have sa_Page : W.findIn K (.ref (Xc_Page K)) "__setattr__" = some (some (.builtin "object.__setattr__")) := of_decide_eq_true (c.t 1 7 rfl rfl)
  have ca_Page : W.findIn K (.ref (Xc_Page K)) "__class__" = some (some (.builtin "object.__class__")) := of_decide_eq_true (c.t 1 8 rfl rfl)
  have cm_Page : W.mroIn K (Xc_Page K) (.type "object") = some true := of_decide_eq_true (c.t 1 9 rfl rfl)
  have na_Page_rows : W.findIn K (.ref (Xc_Page K)) "rows" = some none := of_decide_eq_true (c.t 1 10 rfl rfl)
  have ss_Page_list : W.subIn K (.type "list") (.ref (Xc_Page K)) = some false := of_decide_eq_true (c.t 1 11 rfl rfl)
  have ss_Page_tuple : W.subIn K (.type "tuple") (.ref (Xc_Page K)) = some false := of_decide_eq_true (c.t 1 12 rfl rfl)
  have ss_Page_str : W.subIn K (.type "str") (.ref (Xc_Page K)) = some false := of_decide_eq_true (c.t 1 13 rfl rfl)
  have ss_Page_int : W.subIn K (.type "int") (.ref (Xc_Page K)) = some false := of_decide_eq_true (c.t 1 14 rfl rfl)
  have ss_Page_bool : W.subIn K (.type "bool") (.ref (Xc_Page K)) = some false := of_decide_eq_true (c.t 1 15 rfl rfl)
  have ss_Page_NoneType : W.subIn K (.type "NoneType") (.ref (Xc_Page K)) = some false := of_decide_eq_true (c.t 1 16 rfl rfl)
  have sk_Page_list : W.subIn K (.ref (Xc_Page K)) (.type "list") = some false := of_decide_eq_true (c.t 1 17 rfl rfl)
  have sk_Page_tuple : W.subIn K (.ref (Xc_Page K)) (.type "tuple") = some false := of_decide_eq_true (c.t 1 18 rfl rfl)
  have sk_Page_str : W.subIn K (.ref (Xc_Page K)) (.type "str") = some false := of_decide_eq_true (c.t 1 19 rfl rfl)
  have sk_Page_int : W.subIn K (.ref (Xc_Page K)) (.type "int") = some false := of_decide_eq_true (c.t 1 20 rfl rfl)
  have sk_Page_bool : W.subIn K (.ref (Xc_Page K)) (.type "bool") = some false := of_decide_eq_true (c.t 1 21 rfl rfl)
  obtain ⟨cd_Page, cl_Page⟩ := clsT_ok (c.t 1 22 rfl rfl)
  have ty_Page : W.typeIn K (.ref (Xc_Page K)) = some (.type "type") := of_decide_eq_true (c.t 1 23 rfl rfl)
  have nf_Page_Page : W.notFirst K (Xc_Page K) (.ref (Xc_Page K)) = true := of_decide_eq_true (c.t 1 24 rfl rfl)
  have nf_Page_list : W.notFirst K (Xc_Page K) (.type "list") = true := of_decide_eq_true (c.t 1 25 rfl rfl)
  have nf_Page_tuple : W.notFirst K (Xc_Page K) (.type "tuple") = true := of_decide_eq_true (c.t 1 26 rfl rfl)
  have nf_Page_str : W.notFirst K (Xc_Page K) (.type "str") = true := of_decide_eq_true (c.t 1 27 rfl rfl)
  have nf_Page_int : W.notFirst K (Xc_Page K) (.type "int") = true := of_decide_eq_true (c.t 1 28 rfl rfl)
  have nf_Page_bool : W.notFirst K (Xc_Page K) (.type "bool") = true := of_decide_eq_true (c.t 1 29 rfl rfl)
  have nf_Page_NoneType : W.notFirst K (Xc_Page K) (.type "NoneType") = true := of_decide_eq_true (c.t 2 0 rfl rfl)
  have ne_Page : W.findIn K (.ref (Xc_Page K)) "__ne__" = some (some (.builtin "object.__ne__")) := of_decide_eq_true (c.t 2 1 rfl rfl)
  have a__wall : W.nsIn K mainGlobals "_wall" = some (some (.ref (Xf__wall K))) := of_decide_eq_true (c.t 2 2 rfl rfl)
  obtain ⟨d__wall, lx__wall⟩ := Df.funD (d := df__wall) (c.d 0 rfl).1 (c.d 0 rfl).2 rfl
  have l__wall : FunD K "_wall" "_wall" (defArgs s__wall) (defBody s__wall) (defScope s__wall) [] [] (Xf__wall K) d__wall := lx__wall
  have k__wall : W.keepIn K (.ref (Xf__wall K)) = true := of_decide_eq_true (c.t 2 3 rfl rfl)
  have a_is_sequence : W.nsIn K mainGlobals "is_sequence" = some (some (.ref (Xf_is_sequence K))) := of_decide_eq_true (c.t 2 4 rfl rfl)
  obtain ⟨d_is_sequence, lx_is_sequence⟩ := Df.funD (d := df_is_sequence) (c.d 1 rfl).1 (c.d 1 rfl).2 rfl
  have l_is_sequence : FunD K "is_sequence" "is_sequence" (defArgs s_is_sequence) (defBody s_is_sequence) (defScope s_is_sequence) [] [] (Xf_is_sequence K) d_is_sequence := lx_is_sequence
  have k_is_sequence : W.keepIn K (.ref (Xf_is_sequence K)) = true := of_decide_eq_true (c.t 2 5 rfl rfl)
  have a_fits_letter : W.nsIn K mainGlobals "fits_letter" = some (some (.ref (Xf_fits_letter K))) := of_decide_eq_true (c.t 2 6 rfl rfl)
  obtain ⟨d_fits_letter, lx_fits_letter⟩ := Df.funD (d := df_fits_letter) (c.d 2 rfl).1 (c.d 2 rfl).2 rfl
  have l_fits_letter : FunD K "fits_letter" "fits_letter" (defArgs s_fits_letter) (defBody s_fits_letter) (defScope s_fits_letter) [] [] (Xf_fits_letter K) d_fits_letter := lx_fits_letter
  have k_fits_letter : W.keepIn K (.ref (Xf_fits_letter K)) = true := of_decide_eq_true (c.t 2 7 rfl rfl)
  have a_is_test : W.nsIn K mainGlobals "is_test" = some (some (.ref (Xf_is_test K))) := of_decide_eq_true (c.t 2 8 rfl rfl)
  obtain ⟨d_is_test, lx_is_test⟩ := Df.funD (d := df_is_test) (c.d 3 rfl).1 (c.d 3 rfl).2 rfl
  have l_is_test : FunD K "is_test" "is_test" (defArgs s_is_test) (defBody s_is_test) (defScope s_is_test) [] [] (Xf_is_test K) d_is_test := lx_is_test
  have k_is_test : W.keepIn K (.ref (Xf_is_test K)) = true := of_decide_eq_true (c.t 2 9 rfl rfl)
  have a_is_deed : W.nsIn K mainGlobals "is_deed" = some (some (.ref (Xf_is_deed K))) := of_decide_eq_true (c.t 2 10 rfl rfl)
  obtain ⟨d_is_deed, lx_is_deed⟩ := Df.funD (d := df_is_deed) (c.d 4 rfl).1 (c.d 4 rfl).2 rfl
  have l_is_deed : FunD K "is_deed" "is_deed" (defArgs s_is_deed) (defBody s_is_deed) (defScope s_is_deed) [] [] (Xf_is_deed K) d_is_deed := lx_is_deed
  have k_is_deed : W.keepIn K (.ref (Xf_is_deed K)) = true := of_decide_eq_true (c.t 2 11 rfl rfl)
  have a__law_deal : W.nsIn K mainGlobals "_law_deal" = some (some (.ref (Xf__law_deal K))) := of_decide_eq_true (c.t 2 12 rfl rfl)
  obtain ⟨d__law_deal, lx__law_deal⟩ := Df.funD (d := df__law_deal) (c.d 5 rfl).1 (c.d 5 rfl).2 rfl
  have l__law_deal : FunD K "_law_deal" "_law_deal" (defArgs s__law_deal) (defBody s__law_deal) (defScope s__law_deal) [] [] (Xf__law_deal K) d__law_deal := lx__law_deal
  have k__law_deal : W.keepIn K (.ref (Xf__law_deal K)) = true := of_decide_eq_true (c.t 2 13 rfl rfl)
  have a__law_draw : W.nsIn K mainGlobals "_law_draw" = some (some (.ref (Xf__law_draw K))) := of_decide_eq_true (c.t 2 14 rfl rfl)
  obtain ⟨d__law_draw, lx__law_draw⟩ := Df.funD (d := df__law_draw) (c.d 6 rfl).1 (c.d 6 rfl).2 rfl
  have l__law_draw : FunD K "_law_draw" "_law_draw" (defArgs s__law_draw) (defBody s__law_draw) (defScope s__law_draw) [] [] (Xf__law_draw K) d__law_draw := lx__law_draw
  have k__law_draw : W.keepIn K (.ref (Xf__law_draw K)) = true := of_decide_eq_true (c.t 2 15 rfl rfl)
  have a__law_row : W.nsIn K mainGlobals "_law_row" = some (some (.ref (Xf__law_row K))) := of_decide_eq_true (c.t 2 16 rfl rfl)
  obtain ⟨d__law_row, lx__law_row⟩ := Df.funD (d := df__law_row) (c.d 7 rfl).1 (c.d 7 rfl).2 rfl
  have l__law_row : FunD K "_law_row" "_law_row" (defArgs s__law_row) (defBody s__law_row) (defScope s__law_row) [] [] (Xf__law_row K) d__law_row := lx__law_row
  have k__law_row : W.keepIn K (.ref (Xf__law_row K)) = true := of_decide_eq_true (c.t 2 17 rfl rfl)
  have a__law_row_text : W.nsIn K mainGlobals "_law_row_text" = some (some (.ref (Xf__law_row_text K))) := of_decide_eq_true (c.t 2 18 rfl rfl)
  obtain ⟨d__law_row_text, lx__law_row_text⟩ := Df.funD (d := df__law_row_text) (c.d 8 rfl).1 (c.d 8 rfl).2 rfl
  have l__law_row_text : FunD K "_law_row_text" "_law_row_text" (defArgs s__law_row_text) (defBody s__law_row_text) (defScope s__law_row_text) [] [] (Xf__law_row_text K) d__law_row_text := lx__law_row_text
  have k__law_row_text : W.keepIn K (.ref (Xf__law_row_text K)) = true := of_decide_eq_true (c.t 2 19 rfl rfl)
  have a__law_heard : W.nsIn K mainGlobals "_law_heard" = some (some (.ref (Xf__law_heard K))) := of_decide_eq_true (c.t 2 20 rfl rfl)
  obtain ⟨d__law_heard, lx__law_heard⟩ := Df.funD (d := df__law_heard) (c.d 9 rfl).1 (c.d 9 rfl).2 rfl
  have l__law_heard : FunD K "_law_heard" "_law_heard" (defArgs s__law_heard) (defBody s__law_heard) (defScope s__law_heard) [] [] (Xf__law_heard K) d__law_heard := lx__law_heard
  have k__law_heard : W.keepIn K (.ref (Xf__law_heard K)) = true := of_decide_eq_true (c.t 2 21 rfl rfl)
  have a_law : W.nsIn K mainGlobals "law" = some (some (.ref (Xf_law K))) := of_decide_eq_true (c.t 2 22 rfl rfl)
  obtain ⟨d_law, lx_law⟩ := Df.funD (d := df_law) (c.d 10 rfl).1 (c.d 10 rfl).2 rfl
  have l_law : FunD K "law" "law" (defArgs s_law) (defBody s_law) (defScope s_law) [] [] (Xf_law K) d_law := lx_law
  have k_law : W.keepIn K (.ref (Xf_law K)) = true := of_decide_eq_true (c.t 2 23 rfl rfl)
  have a_Row_init : W.findIn K (.ref (Xc_Row K)) "__init__" = some (some (.ref (Xf_Row_init K))) := of_decide_eq_true (c.t 2 24 rfl rfl)
  have n_Row_init : W.isFn K (.ref (Xf_Row_init K)) = true := of_decide_eq_true (c.t 2 25 rfl rfl)
  have mm_Row : W.makesIn K (Xc_Row K) = true := of_decide_eq_true (c.t 2 26 rfl rfl)
  have kc_Row : W.keepIn K (.ref (Xc_Row K)) = true := of_decide_eq_true (c.t 2 27 rfl rfl)
  obtain ⟨d_Row_init, lx_Row_init⟩ := Df.funD (d := df_Row_init) (c.d 11 rfl).1 (c.d 11 rfl).2 rfl
  have l_Row_init : FunD K "__init__" "Row.__init__" (defArgs s_Row_init) (defBody s_Row_init) (defScope s_Row_init) [.ref (Xe_Row_init_0 K), .ref (Xe_Row_init_1 K)] [] (Xf_Row_init K) d_Row_init := lx_Row_init
  have k_Row_init : W.keepIn K (.ref (Xf_Row_init K)) = true := of_decide_eq_true (c.t 2 28 rfl rfl)
  have cr_Row_read : W.readsIn K (Xc_Row K) (.type "type") = true := of_decide_eq_true (c.t 2 29 rfl rfl)
  have cg_Row_read : W.specialIn K (.ref (Xc_Row K)) "__getattribute__" = some (some (.builtin "type.__getattribute__")) := of_decide_eq_true (c.t 3 0 rfl rfl)
  obtain ⟨ca_Row_read, rs_Row_read, rc_Row_read⟩ := cmT_ok (c.t 3 1 rfl rfl)
  have fi_Row_read : W.fnIn K (Xf_Row_read K) = true := of_decide_eq_true (c.t 3 2 rfl rfl)
  obtain ⟨d_Row_read, lx_Row_read⟩ := Df.funD (d := df_Row_read) (c.d 12 rfl).1 (c.d 12 rfl).2 rfl
  have l_Row_read : FunD K "read" "Row.read" (defArgs s_Row_read) (defBody s_Row_read) (defScope s_Row_read) [] [] (Xf_Row_read K) d_Row_read := lx_Row_read
  have k_Row_read : W.keepIn K (.ref (Xf_Row_read K)) = true := of_decide_eq_true (c.t 3 3 rfl rfl)
  have a_Row_eq : W.findIn K (.ref (Xc_Row K)) "__eq__" = some (some (.ref (Xf_Row_eq K))) := of_decide_eq_true (c.t 3 4 rfl rfl)
  have n_Row_eq : W.isFn K (.ref (Xf_Row_eq K)) = true := of_decide_eq_true (c.t 3 5 rfl rfl)
  obtain ⟨d_Row_eq, lx_Row_eq⟩ := Df.funD (d := df_Row_eq) (c.d 13 rfl).1 (c.d 13 rfl).2 rfl
  have l_Row_eq : FunD K "__eq__" "Row.__eq__" (defArgs s_Row_eq) (defBody s_Row_eq) (defScope s_Row_eq) [] [] (Xf_Row_eq K) d_Row_eq := lx_Row_eq
  have k_Row_eq : W.keepIn K (.ref (Xf_Row_eq K)) = true := of_decide_eq_true (c.t 3 6 rfl rfl)
  have a_Row_str : W.findIn K (.ref (Xc_Row K)) "__str__" = some (some (.ref (Xf_Row_str K))) := of_decide_eq_true (c.t 3 7 rfl rfl)
  have n_Row_str : W.isFn K (.ref (Xf_Row_str K)) = true := of_decide_eq_true (c.t 3 8 rfl rfl)
  obtain ⟨d_Row_str, lx_Row_str⟩ := Df.funD (d := df_Row_str) (c.d 14 rfl).1 (c.d 14 rfl).2 rfl
  have l_Row_str : FunD K "__str__" "Row.__str__" (defArgs s_Row_str) (defBody s_Row_str) (defScope s_Row_str) [] [] (Xf_Row_str K) d_Row_str := lx_Row_str
  have k_Row_str : W.keepIn K (.ref (Xf_Row_str K)) = true := of_decide_eq_true (c.t 3 9 rfl rfl)
  have a_Page_init : W.findIn K (.ref (Xc_Page K)) "__init__" = some (some (.ref (Xf_Page_init K))) := of_decide_eq_true (c.t 3 10 rfl rfl)
  have n_Page_init : W.isFn K (.ref (Xf_Page_init K)) = true := of_decide_eq_true (c.t 3 11 rfl rfl)
  have mm_Page : W.makesIn K (Xc_Page K) = true := of_decide_eq_true (c.t 3 12 rfl rfl)
  have kc_Page : W.keepIn K (.ref (Xc_Page K)) = true := of_decide_eq_true (c.t 3 13 rfl rfl)
  obtain ⟨d_Page_init, lx_Page_init⟩ := Df.funD (d := df_Page_init) (c.d 15 rfl).1 (c.d 15 rfl).2 rfl
  have l_Page_init : FunD K "__init__" "Page.__init__" (defArgs s_Page_init) (defBody s_Page_init) (defScope s_Page_init) [.ref (Xe_Page_init_0 K)] [] (Xf_Page_init K) d_Page_init := lx_Page_init
  have k_Page_init : W.keepIn K (.ref (Xf_Page_init K)) = true := of_decide_eq_true (c.t 3 14 rfl rfl)
  have cr_Page_read : W.readsIn K (Xc_Page K) (.type "type") = true := of_decide_eq_true (c.t 3 15 rfl rfl)
  have cg_Page_read : W.specialIn K (.ref (Xc_Page K)) "__getattribute__" = some (some (.builtin "type.__getattribute__")) := of_decide_eq_true (c.t 3 16 rfl rfl)
  obtain ⟨ca_Page_read, rs_Page_read, rc_Page_read⟩ := cmT_ok (c.t 3 17 rfl rfl)
  have fi_Page_read : W.fnIn K (Xf_Page_read K) = true := of_decide_eq_true (c.t 3 18 rfl rfl)
  obtain ⟨d_Page_read, lx_Page_read⟩ := Df.funD (d := df_Page_read) (c.d 16 rfl).1 (c.d 16 rfl).2 rfl
  have l_Page_read : FunD K "read" "Page.read" (defArgs s_Page_read) (defBody s_Page_read) (defScope s_Page_read) [] [] (Xf_Page_read K) d_Page_read := lx_Page_read
  have k_Page_read : W.keepIn K (.ref (Xf_Page_read K)) = true := of_decide_eq_true (c.t 3 19 rfl rfl)
  have a_Page_need_row : W.findIn K (.ref (Xc_Page K)) "need_row" = some (some (.ref (Xf_Page_need_row K))) := of_decide_eq_true (c.t 3 20 rfl rfl)
  have n_Page_need_row : W.isFn K (.ref (Xf_Page_need_row K)) = true := of_decide_eq_true (c.t 3 21 rfl rfl)
  obtain ⟨d_Page_need_row, lx_Page_need_row⟩ := Df.funD (d := df_Page_need_row) (c.d 17 rfl).1 (c.d 17 rfl).2 rfl
  have l_Page_need_row : FunD K "need_row" "Page.need_row" (defArgs s_Page_need_row) (defBody s_Page_need_row) (defScope s_Page_need_row) [] [] (Xf_Page_need_row K) d_Page_need_row := lx_Page_need_row
  have k_Page_need_row : W.keepIn K (.ref (Xf_Page_need_row K)) = true := of_decide_eq_true (c.t 3 22 rfl rfl)
  have a_Page_without : W.findIn K (.ref (Xc_Page K)) "without" = some (some (.ref (Xf_Page_without K))) := of_decide_eq_true (c.t 3 23 rfl rfl)
  have n_Page_without : W.isFn K (.ref (Xf_Page_without K)) = true := of_decide_eq_true (c.t 3 24 rfl rfl)
  obtain ⟨d_Page_without, lx_Page_without⟩ := Df.funD (d := df_Page_without) (c.d 18 rfl).1 (c.d 18 rfl).2 rfl
  have l_Page_without : FunD K "without" "Page.without" (defArgs s_Page_without) (defBody s_Page_without) (defScope s_Page_without) [] [] (Xf_Page_without K) d_Page_without := lx_Page_without
  have k_Page_without : W.keepIn K (.ref (Xf_Page_without K)) = true := of_decide_eq_true (c.t 3 25 rfl rfl)
  have a_Page_len : W.findIn K (.ref (Xc_Page K)) "__len__" = some (some (.ref (Xf_Page_len K))) := of_decide_eq_true (c.t 3 26 rfl rfl)
  have n_Page_len : W.isFn K (.ref (Xf_Page_len K)) = true := of_decide_eq_true (c.t 3 27 rfl rfl)
  obtain ⟨d_Page_len, lx_Page_len⟩ := Df.funD (d := df_Page_len) (c.d 19 rfl).1 (c.d 19 rfl).2 rfl
  have l_Page_len : FunD K "__len__" "Page.__len__" (defArgs s_Page_len) (defBody s_Page_len) (defScope s_Page_len) [] [] (Xf_Page_len K) d_Page_len := lx_Page_len
  have k_Page_len : W.keepIn K (.ref (Xf_Page_len K)) = true := of_decide_eq_true (c.t 3 28 rfl rfl)
  have a_Page_getitem : W.findIn K (.ref (Xc_Page K)) "__getitem__" = some (some (.ref (Xf_Page_getitem K))) := of_decide_eq_true (c.t 3 29 rfl rfl)
  have n_Page_getitem : W.isFn K (.ref (Xf_Page_getitem K)) = true := of_decide_eq_true (c.t 4 0 rfl rfl)
  have fi_Page_getitem : W.fnIn K (Xf_Page_getitem K) = true := of_decide_eq_true (c.t 4 1 rfl rfl)
  obtain ⟨d_Page_getitem, lx_Page_getitem⟩ := Df.funD (d := df_Page_getitem) (c.d 20 rfl).1 (c.d 20 rfl).2 rfl
  have l_Page_getitem : FunD K "__getitem__" "Page.__getitem__" (defArgs s_Page_getitem) (defBody s_Page_getitem) (defScope s_Page_getitem) [] [] (Xf_Page_getitem K) d_Page_getitem := lx_Page_getitem
  have k_Page_getitem : W.keepIn K (.ref (Xf_Page_getitem K)) = true := of_decide_eq_true (c.t 4 2 rfl rfl)
  have a_Page_iter : W.findIn K (.ref (Xc_Page K)) "__iter__" = some (some (.ref (Xf_Page_iter K))) := of_decide_eq_true (c.t 4 3 rfl rfl)
  have n_Page_iter : W.isFn K (.ref (Xf_Page_iter K)) = true := of_decide_eq_true (c.t 4 4 rfl rfl)
  obtain ⟨d_Page_iter, lx_Page_iter⟩ := Df.funD (d := df_Page_iter) (c.d 21 rfl).1 (c.d 21 rfl).2 rfl
  have l_Page_iter : FunD K "__iter__" "Page.__iter__" (defArgs s_Page_iter) (defBody s_Page_iter) (defScope s_Page_iter) [] [] (Xf_Page_iter K) d_Page_iter := lx_Page_iter
  have k_Page_iter : W.keepIn K (.ref (Xf_Page_iter K)) = true := of_decide_eq_true (c.t 4 5 rfl rfl)
  have a_Page_add : W.findIn K (.ref (Xc_Page K)) "__add__" = some (some (.ref (Xf_Page_add K))) := of_decide_eq_true (c.t 4 6 rfl rfl)
  have n_Page_add : W.isFn K (.ref (Xf_Page_add K)) = true := of_decide_eq_true (c.t 4 7 rfl rfl)
  have sf_Page : W.selfFirst K (Xc_Page K) = true := of_decide_eq_true (c.t 4 8 rfl rfl)
  obtain ⟨d_Page_add, lx_Page_add⟩ := Df.funD (d := df_Page_add) (c.d 22 rfl).1 (c.d 22 rfl).2 rfl
  have l_Page_add : FunD K "__add__" "Page.__add__" (defArgs s_Page_add) (defBody s_Page_add) (defScope s_Page_add) [] [] (Xf_Page_add K) d_Page_add := lx_Page_add
  have k_Page_add : W.keepIn K (.ref (Xf_Page_add K)) = true := of_decide_eq_true (c.t 4 9 rfl rfl)
  have a_Page_eq : W.findIn K (.ref (Xc_Page K)) "__eq__" = some (some (.ref (Xf_Page_eq K))) := of_decide_eq_true (c.t 4 10 rfl rfl)
  have n_Page_eq : W.isFn K (.ref (Xf_Page_eq K)) = true := of_decide_eq_true (c.t 4 11 rfl rfl)
  obtain ⟨d_Page_eq, lx_Page_eq⟩ := Df.funD (d := df_Page_eq) (c.d 23 rfl).1 (c.d 23 rfl).2 rfl
  have l_Page_eq : FunD K "__eq__" "Page.__eq__" (defArgs s_Page_eq) (defBody s_Page_eq) (defScope s_Page_eq) [] [] (Xf_Page_eq K) d_Page_eq := lx_Page_eq
  have k_Page_eq : W.keepIn K (.ref (Xf_Page_eq K)) = true := of_decide_eq_true (c.t 4 12 rfl rfl)
  have a_Page_str : W.findIn K (.ref (Xc_Page K)) "__str__" = some (some (.ref (Xf_Page_str K))) := of_decide_eq_true (c.t 4 13 rfl rfl)
  have n_Page_str : W.isFn K (.ref (Xf_Page_str K)) = true := of_decide_eq_true (c.t 4 14 rfl rfl)
  obtain ⟨d_Page_str, lx_Page_str⟩ := Df.funD (d := df_Page_str) (c.d 24 rfl).1 (c.d 24 rfl).2 rfl
  have l_Page_str : FunD K "__str__" "Page.__str__" (defArgs s_Page_str) (defBody s_Page_str) (defScope s_Page_str) [] [] (Xf_Page_str K) d_Page_str := lx_Page_str
  have k_Page_str : W.keepIn K (.ref (Xf_Page_str K)) = true := of_decide_eq_true (c.t 4 15 rfl rfl)
  have a_HastyError : W.nsIn K mainGlobals "HastyError" = some (some (.ref (Xc_HastyError K))) := of_decide_eq_true (c.t 4 16 rfl rfl)
  obtain ⟨cd_HastyError, cl_HastyError⟩ := clsT_ok (c.t 4 17 rfl rfl)
  have ty_HastyError : W.typeIn K (.ref (Xc_HastyError K)) = some (.type "type") := of_decide_eq_true (c.t 4 18 rfl rfl)
  have zt_super : (PySem.Challenge.pw_hastypage_k15_pages_read.main.scope.names.lookup ("super" : Str)).isSome = false := by first | rfl | decide +kernel
  have zz_super : W.nsIn K mainGlobals "super" = some none := of_decide_eq_true (c.t 4 19 rfl rfl)
  have zz_any : W.nsIn K cStatics "thirdparty.any" = some none := of_decide_eq_true (c.t 4 20 rfl rfl)
  have a_InvalidRow : W.nsIn K mainGlobals "InvalidRow" = some (some (.ref (Xc_InvalidRow K))) := of_decide_eq_true (c.t 4 21 rfl rfl)
  obtain ⟨nm_InvalidRow, qn_InvalidRow, N_InvalidRow, bs_InvalidRow, bm_InvalidRow, sn_InvalidRow, sub_InvalidRow, ab_InvalidRow, col_InvalidRow, dd_InvalidRow, k0_InvalidRow, k1_InvalidRow, k2_InvalidRow, k3_InvalidRow, k5_InvalidRow, lc_InvalidRow, rv_InvalidRow⟩ := excT_ok (c.t 4 22 rfl rfl)
  have sa_InvalidRow : W.findIn K (.ref (Xc_InvalidRow K)) "__setattr__" = some (some (.builtin "object.__setattr__")) := of_decide_eq_true (c.t 4 23 rfl rfl)
  have ex_InvalidRow : W.subIn K (.ref (Xc_InvalidRow K)) (.type "BaseException") = some true := of_decide_eq_true (c.t 4 24 rfl rfl)
  have ty_InvalidRow : W.typeIn K (.ref (Xc_InvalidRow K)) = some (.type "type") := of_decide_eq_true (c.t 4 25 rfl rfl)
  have kc_InvalidRow : W.keepIn K (.ref (Xc_InvalidRow K)) = true := of_decide_eq_true (c.t 4 26 rfl rfl)
  have ga_InvalidRow : W.findIn K (.ref (Xc_InvalidRow K)) "__getattribute__" = some (some (.builtin "BaseException.__getattribute__")) := of_decide_eq_true (c.t 4 27 rfl rfl)
  have gg_InvalidRow : W.findIn K (.ref (Xc_InvalidRow K)) "__getattr__" = some none := of_decide_eq_true (c.t 4 28 rfl rfl)
  have hd_InvalidRow : W.hasDictIn K (Xc_InvalidRow K) = true := of_decide_eq_true (c.t 4 29 rfl rfl)
  have ca_InvalidRow : W.findIn K (.ref (Xc_InvalidRow K)) "__class__" = some (some (.builtin "object.__class__")) := of_decide_eq_true (c.t 5 0 rfl rfl)
  have cm_InvalidRow : W.mroIn K (Xc_InvalidRow K) (.type "object") = some true := of_decide_eq_true (c.t 5 1 rfl rfl)
  have na_InvalidRow_word : W.findIn K (.ref (Xc_InvalidRow K)) "word" = some none := of_decide_eq_true (c.t 5 2 rfl rfl)
  have ai_InvalidRow : W.findIn K (.ref (Xc_InvalidRow K)) "__init__" = some (some (.ref (Xf_InvalidRow_init K))) := of_decide_eq_true (c.t 5 3 rfl rfl)
  have ti_InvalidRow : W.typeIn K (.ref (Xf_InvalidRow_init K)) = some (.type "function") := of_decide_eq_true (c.t 5 4 rfl rfl)
  obtain ⟨oc_InvalidRow, od_InvalidRow, kV_InvalidRow, dc_InvalidRow, pm_InvalidRow, an_InvalidRow, ct_InvalidRow, sl_InvalidRow, lfx_InvalidRow, cix_InvalidRow⟩ := Df.sup (d := df_InvalidRow_init) (c.d 25 rfl).1 (c.d 25 rfl).2 rfl rfl (c.t 5 5 rfl rfl)
  have lf_InvalidRow : K.lookup (Xf_InvalidRow_init K) = some ⟨oc_InvalidRow, od_InvalidRow, .func (W.ksFn "__init__" "InvalidRow.__init__" (defArgs s_InvalidRow_init) (defBody s_InvalidRow_init) (defScope s_InvalidRow_init) .none kV_InvalidRow dc_InvalidRow pm_InvalidRow an_InvalidRow (.ref (Xcda_InvalidRow K)) ct_InvalidRow (Xcc_InvalidRow K)), sl_InvalidRow⟩ := lfx_InvalidRow
  have ci_InvalidRow : W.codeIn K (.ref (Xcda_InvalidRow K)) "InvalidRow.__init__" = true := cix_InvalidRow
  obtain ⟨ccl_InvalidRow, cdd_InvalidRow, vs_InvalidRow, ccs_InvalidRow, tf_InvalidRow, ld_InvalidRow, hv_InvalidRow⟩ := filT_ok (f := PySem.Challenge.pw_hastypage_k15_pages_read.main.file) (c.t 5 6 rfl rfl)
  have hf_InvalidRow : ((PySem.Challenge.pw_hastypage_k15_pages_read.main.file : Str) == PySem.Challenge.pw_hastypage_k15_pages_read.main.file) = true := beq_self_eq_true _
  obtain ⟨cl0_InvalidRow, cld_InvalidRow, csl_InvalidRow, lk_InvalidRow⟩ := celT_ok (c.t 5 7 rfl rfl)
  have si_InvalidRow : W.ks_superIn K (Xc_InvalidRow K) (Xc_InvalidRow K) "__init__" = some (some (.builtin "ValueError.__init__")) := of_decide_eq_true (c.t 5 8 rfl rfl)
  have sv_InvalidRow : W.subIn K (.ref (Xc_InvalidRow K)) (.type "ValueError") = some true := of_decide_eq_true (c.t 5 9 rfl rfl)
  have a_InvalidPage : W.nsIn K mainGlobals "InvalidPage" = some (some (.ref (Xc_InvalidPage K))) := of_decide_eq_true (c.t 5 10 rfl rfl)
  obtain ⟨nm_InvalidPage, qn_InvalidPage, N_InvalidPage, bs_InvalidPage, bm_InvalidPage, sn_InvalidPage, sub_InvalidPage, ab_InvalidPage, col_InvalidPage, dd_InvalidPage, k0_InvalidPage, k1_InvalidPage, k2_InvalidPage, k3_InvalidPage, k5_InvalidPage, lc_InvalidPage, rv_InvalidPage⟩ := excT_ok (c.t 5 11 rfl rfl)
  have sa_InvalidPage : W.findIn K (.ref (Xc_InvalidPage K)) "__setattr__" = some (some (.builtin "object.__setattr__")) := of_decide_eq_true (c.t 5 12 rfl rfl)
  have ex_InvalidPage : W.subIn K (.ref (Xc_InvalidPage K)) (.type "BaseException") = some true := of_decide_eq_true (c.t 5 13 rfl rfl)
  have ty_InvalidPage : W.typeIn K (.ref (Xc_InvalidPage K)) = some (.type "type") := of_decide_eq_true (c.t 5 14 rfl rfl)
  have kc_InvalidPage : W.keepIn K (.ref (Xc_InvalidPage K)) = true := of_decide_eq_true (c.t 5 15 rfl rfl)
  have ga_InvalidPage : W.findIn K (.ref (Xc_InvalidPage K)) "__getattribute__" = some (some (.builtin "BaseException.__getattribute__")) := of_decide_eq_true (c.t 5 16 rfl rfl)
  have gg_InvalidPage : W.findIn K (.ref (Xc_InvalidPage K)) "__getattr__" = some none := of_decide_eq_true (c.t 5 17 rfl rfl)
  have hd_InvalidPage : W.hasDictIn K (Xc_InvalidPage K) = true := of_decide_eq_true (c.t 5 18 rfl rfl)
  have ca_InvalidPage : W.findIn K (.ref (Xc_InvalidPage K)) "__class__" = some (some (.builtin "object.__class__")) := of_decide_eq_true (c.t 5 19 rfl rfl)
  have cm_InvalidPage : W.mroIn K (Xc_InvalidPage K) (.type "object") = some true := of_decide_eq_true (c.t 5 20 rfl rfl)
  have qe_InvalidPage : W.excIn K (Xc_InvalidPage K) [.type "ValueError", .type "Exception", .type "BaseException", .type "object"] "ValueError.__new__" = true := of_decide_eq_true (c.t 5 21 rfl rfl)
  have a_InvalidText : W.nsIn K mainGlobals "InvalidText" = some (some (.ref (Xc_InvalidText K))) := of_decide_eq_true (c.t 5 22 rfl rfl)
  obtain ⟨nm_InvalidText, qn_InvalidText, N_InvalidText, bs_InvalidText, bm_InvalidText, sn_InvalidText, sub_InvalidText, ab_InvalidText, col_InvalidText, dd_InvalidText, k0_InvalidText, k1_InvalidText, k2_InvalidText, k3_InvalidText, k5_InvalidText, lc_InvalidText, rv_InvalidText⟩ := excT_ok (c.t 5 23 rfl rfl)
  have sa_InvalidText : W.findIn K (.ref (Xc_InvalidText K)) "__setattr__" = some (some (.builtin "object.__setattr__")) := of_decide_eq_true (c.t 5 24 rfl rfl)
  have ex_InvalidText : W.subIn K (.ref (Xc_InvalidText K)) (.type "BaseException") = some true := of_decide_eq_true (c.t 5 25 rfl rfl)
  have ty_InvalidText : W.typeIn K (.ref (Xc_InvalidText K)) = some (.type "type") := of_decide_eq_true (c.t 5 26 rfl rfl)
  have kc_InvalidText : W.keepIn K (.ref (Xc_InvalidText K)) = true := of_decide_eq_true (c.t 5 27 rfl rfl)
  have ga_InvalidText : W.findIn K (.ref (Xc_InvalidText K)) "__getattribute__" = some (some (.builtin "BaseException.__getattribute__")) := of_decide_eq_true (c.t 5 28 rfl rfl)
  have gg_InvalidText : W.findIn K (.ref (Xc_InvalidText K)) "__getattr__" = some none := of_decide_eq_true (c.t 5 29 rfl rfl)
  have hd_InvalidText : W.hasDictIn K (Xc_InvalidText K) = true := of_decide_eq_true (c.t 6 0 rfl rfl)
  have ca_InvalidText : W.findIn K (.ref (Xc_InvalidText K)) "__class__" = some (some (.builtin "object.__class__")) := of_decide_eq_true (c.t 6 1 rfl rfl)
  have cm_InvalidText : W.mroIn K (Xc_InvalidText K) (.type "object") = some true := of_decide_eq_true (c.t 6 2 rfl rfl)
  have na_InvalidText_at : W.findIn K (.ref (Xc_InvalidText K)) "at" = some none := of_decide_eq_true (c.t 6 3 rfl rfl)
  have ai_InvalidText : W.findIn K (.ref (Xc_InvalidText K)) "__init__" = some (some (.ref (Xf_InvalidText_init K))) := of_decide_eq_true (c.t 6 4 rfl rfl)
  have ti_InvalidText : W.typeIn K (.ref (Xf_InvalidText_init K)) = some (.type "function") := of_decide_eq_true (c.t 6 5 rfl rfl)
  obtain ⟨oc_InvalidText, od_InvalidText, kV_InvalidText, dc_InvalidText, pm_InvalidText, an_InvalidText, ct_InvalidText, sl_InvalidText, lfx_InvalidText, cix_InvalidText⟩ := Df.sup (d := df_InvalidText_init) (c.d 26 rfl).1 (c.d 26 rfl).2 rfl rfl (c.t 6 6 rfl rfl)
  have lf_InvalidText : K.lookup (Xf_InvalidText_init K) = some ⟨oc_InvalidText, od_InvalidText, .func (W.ksFn "__init__" "InvalidText.__init__" (defArgs s_InvalidText_init) (defBody s_InvalidText_init) (defScope s_InvalidText_init) .none kV_InvalidText dc_InvalidText pm_InvalidText an_InvalidText (.ref (Xcda_InvalidText K)) ct_InvalidText (Xcc_InvalidText K)), sl_InvalidText⟩ := lfx_InvalidText
  have ci_InvalidText : W.codeIn K (.ref (Xcda_InvalidText K)) "InvalidText.__init__" = true := cix_InvalidText
  obtain ⟨ccl_InvalidText, cdd_InvalidText, vs_InvalidText, ccs_InvalidText, tf_InvalidText, ld_InvalidText, hv_InvalidText⟩ := filT_ok (f := PySem.Challenge.pw_hastypage_k15_pages_read.main.file) (c.t 6 7 rfl rfl)
  have hf_InvalidText : ((PySem.Challenge.pw_hastypage_k15_pages_read.main.file : Str) == PySem.Challenge.pw_hastypage_k15_pages_read.main.file) = true := beq_self_eq_true _
  obtain ⟨cl0_InvalidText, cld_InvalidText, csl_InvalidText, lk_InvalidText⟩ := celT_ok (c.t 6 8 rfl rfl)
  have si_InvalidText : W.ks_superIn K (Xc_InvalidText K) (Xc_InvalidText K) "__init__" = some (some (.builtin "ValueError.__init__")) := of_decide_eq_true (c.t 6 9 rfl rfl)
  have sv_InvalidText : W.subIn K (.ref (Xc_InvalidText K)) (.type "ValueError") = some true := of_decide_eq_true (c.t 6 10 rfl rfl)
  have a_NoRow : W.nsIn K mainGlobals "NoRow" = some (some (.ref (Xc_NoRow K))) := of_decide_eq_true (c.t 6 11 rfl rfl)
  obtain ⟨nm_NoRow, qn_NoRow, N_NoRow, bs_NoRow, bm_NoRow, sn_NoRow, sub_NoRow, ab_NoRow, col_NoRow, dd_NoRow, k0_NoRow, k1_NoRow, k2_NoRow, k3_NoRow, k5_NoRow, lc_NoRow, rv_NoRow⟩ := excT_ok (c.t 6 12 rfl rfl)
  have sa_NoRow : W.findIn K (.ref (Xc_NoRow K)) "__setattr__" = some (some (.builtin "object.__setattr__")) := of_decide_eq_true (c.t 6 13 rfl rfl)
  have ex_NoRow : W.subIn K (.ref (Xc_NoRow K)) (.type "BaseException") = some true := of_decide_eq_true (c.t 6 14 rfl rfl)
  have ty_NoRow : W.typeIn K (.ref (Xc_NoRow K)) = some (.type "type") := of_decide_eq_true (c.t 6 15 rfl rfl)
  have kc_NoRow : W.keepIn K (.ref (Xc_NoRow K)) = true := of_decide_eq_true (c.t 6 16 rfl rfl)
  have ga_NoRow : W.findIn K (.ref (Xc_NoRow K)) "__getattribute__" = some (some (.builtin "BaseException.__getattribute__")) := of_decide_eq_true (c.t 6 17 rfl rfl)
  have gg_NoRow : W.findIn K (.ref (Xc_NoRow K)) "__getattr__" = some none := of_decide_eq_true (c.t 6 18 rfl rfl)
  have hd_NoRow : W.hasDictIn K (Xc_NoRow K) = true := of_decide_eq_true (c.t 6 19 rfl rfl)
  have ca_NoRow : W.findIn K (.ref (Xc_NoRow K)) "__class__" = some (some (.builtin "object.__class__")) := of_decide_eq_true (c.t 6 20 rfl rfl)
  have cm_NoRow : W.mroIn K (Xc_NoRow K) (.type "object") = some true := of_decide_eq_true (c.t 6 21 rfl rfl)
  have na_NoRow_at : W.findIn K (.ref (Xc_NoRow K)) "at" = some none := of_decide_eq_true (c.t 6 22 rfl rfl)
  have ai_NoRow : W.findIn K (.ref (Xc_NoRow K)) "__init__" = some (some (.ref (Xf_NoRow_init K))) := of_decide_eq_true (c.t 6 23 rfl rfl)
  have ti_NoRow : W.typeIn K (.ref (Xf_NoRow_init K)) = some (.type "function") := of_decide_eq_true (c.t 6 24 rfl rfl)
  obtain ⟨oc_NoRow, od_NoRow, kV_NoRow, dc_NoRow, pm_NoRow, an_NoRow, ct_NoRow, sl_NoRow, lfx_NoRow, cix_NoRow⟩ := Df.sup (d := df_NoRow_init) (c.d 27 rfl).1 (c.d 27 rfl).2 rfl rfl (c.t 6 25 rfl rfl)
  have lf_NoRow : K.lookup (Xf_NoRow_init K) = some ⟨oc_NoRow, od_NoRow, .func (W.ksFn "__init__" "NoRow.__init__" (defArgs s_NoRow_init) (defBody s_NoRow_init) (defScope s_NoRow_init) .none kV_NoRow dc_NoRow pm_NoRow an_NoRow (.ref (Xcda_NoRow K)) ct_NoRow (Xcc_NoRow K)), sl_NoRow⟩ := lfx_NoRow
  have ci_NoRow : W.codeIn K (.ref (Xcda_NoRow K)) "NoRow.__init__" = true := cix_NoRow
  obtain ⟨ccl_NoRow, cdd_NoRow, vs_NoRow, ccs_NoRow, tf_NoRow, ld_NoRow, hv_NoRow⟩ := filT_ok (f := PySem.Challenge.pw_hastypage_k15_pages_read.main.file) (c.t 6 26 rfl rfl)
  have hf_NoRow : ((PySem.Challenge.pw_hastypage_k15_pages_read.main.file : Str) == PySem.Challenge.pw_hastypage_k15_pages_read.main.file) = true := beq_self_eq_true _
  obtain ⟨cl0_NoRow, cld_NoRow, csl_NoRow, lk_NoRow⟩ := celT_ok (c.t 6 27 rfl rfl)
  have si_NoRow : W.ks_superIn K (Xc_NoRow K) (Xc_NoRow K) "__init__" = some (some (.builtin "IndexError.__init__")) := of_decide_eq_true (c.t 6 28 rfl rfl)
  have sv_NoRow : W.subIn K (.ref (Xc_NoRow K)) (.type "IndexError") = some true := of_decide_eq_true (c.t 6 29 rfl rfl)
  have su_InvalidText_InvalidText : W.subIn K (.ref (Xc_InvalidText K)) (.ref (Xc_InvalidText K)) = some true := of_decide_eq_true (c.t 7 0 rfl rfl)
  have su_InvalidRow_InvalidRow : W.subIn K (.ref (Xc_InvalidRow K)) (.ref (Xc_InvalidRow K)) = some true := of_decide_eq_true (c.t 7 1 rfl rfl)
  have ex_HastyError : W.subIn K (.ref (Xc_HastyError K)) (.type "BaseException") = some true := of_decide_eq_true (c.t 7 2 rfl rfl)
  have hd_HastyError : W.hasDictIn K (Xc_HastyError K) = true := of_decide_eq_true (c.t 7 3 rfl rfl)
  have su_InvalidText_HastyError : W.subIn K (.ref (Xc_InvalidText K)) (.ref (Xc_HastyError K)) = some true := of_decide_eq_true (c.t 7 4 rfl rfl)
  have su_InvalidRow_HastyError : W.subIn K (.ref (Xc_InvalidRow K)) (.ref (Xc_HastyError K)) = some true := of_decide_eq_true (c.t 7 5 rfl rfl)
  have nq_InvalidRow_HastyError : ((.ref (Xc_InvalidRow K) : Value) == .ref (Xc_HastyError K)) = false := of_decide_eq_true (c.t 7 6 rfl rfl)
  have su_InvalidPage_HastyError : W.subIn K (.ref (Xc_InvalidPage K)) (.ref (Xc_HastyError K)) = some true := of_decide_eq_true (c.t 7 7 rfl rfl)
  have nq_InvalidPage_HastyError : ((.ref (Xc_InvalidPage K) : Value) == .ref (Xc_HastyError K)) = false := of_decide_eq_true (c.t 7 8 rfl rfl)
  have nq_InvalidText_HastyError : ((.ref (Xc_InvalidText K) : Value) == .ref (Xc_HastyError K)) = false := of_decide_eq_true (c.t 7 9 rfl rfl)
  have su_NoRow_HastyError : W.subIn K (.ref (Xc_NoRow K)) (.ref (Xc_HastyError K)) = some false := of_decide_eq_true (c.t 7 10 rfl rfl)
  have nq_NoRow_HastyError : ((.ref (Xc_NoRow K) : Value) == .ref (Xc_HastyError K)) = false := of_decide_eq_true (c.t 7 11 rfl rfl)
  have z_abs : W.nsIn K mainGlobals "abs" = some none := of_decide_eq_true (c.t 7 12 rfl rfl)
  have z_all : W.nsIn K mainGlobals "all" = some none := of_decide_eq_true (c.t 7 13 rfl rfl)
  have z_enumerate : W.nsIn K mainGlobals "enumerate" = some none := of_decide_eq_true (c.t 7 14 rfl rfl)
  have z_int : W.nsIn K mainGlobals "int" = some none := of_decide_eq_true (c.t 7 15 rfl rfl)
  have z_isinstance : W.nsIn K mainGlobals "isinstance" = some none := of_decide_eq_true (c.t 7 16 rfl rfl)
  have z_len : W.nsIn K mainGlobals "len" = some none := of_decide_eq_true (c.t 7 17 rfl rfl)
  have z_list : W.nsIn K mainGlobals "list" = some none := of_decide_eq_true (c.t 7 18 rfl rfl)
  have z_min : W.nsIn K mainGlobals "min" = some none := of_decide_eq_true (c.t 7 19 rfl rfl)
  have z_range : W.nsIn K mainGlobals "range" = some none := of_decide_eq_true (c.t 7 20 rfl rfl)
  have z_str : W.nsIn K mainGlobals "str" = some none := of_decide_eq_true (c.t 7 21 rfl rfl)
  have z_tuple : W.nsIn K mainGlobals "tuple" = some none := of_decide_eq_true (c.t 7 22 rfl rfl)
  have a_nLETTERS : W.nsIn K mainGlobals "LETTERS" = some (some (.ref (Xa_LETTERS K))) := of_decide_eq_true (c.t 7 23 rfl rfl)
  have l_LETTERS : ∀ H : Hp, Rep K H (.tup (cst_LETTERS.map D.str)) (.ref (Xa_LETTERS K)) := tupT_ok (c.t 7 24 rfl rfl)
  have a_nTESTS : W.nsIn K mainGlobals "TESTS" = some (some (.ref (Xa_TESTS K))) := of_decide_eq_true (c.t 7 25 rfl rfl)
  have l_TESTS : ∀ H : Hp, Rep K H (.tup (cst_TESTS.map D.str)) (.ref (Xa_TESTS K)) := tupT_ok (c.t 7 26 rfl rfl)
  have a_nDEEDS : W.nsIn K mainGlobals "DEEDS" = some (some (.ref (Xa_DEEDS K))) := of_decide_eq_true (c.t 7 27 rfl rfl)
  have l_DEEDS : ∀ H : Hp, Rep K H (.tup (cst_DEEDS.map D.str)) (.ref (Xa_DEEDS K)) := tupT_ok (c.t 7 28 rfl rfl)
  have a_nOF_ANSWERS : W.nsIn K mainGlobals "OF_ANSWERS" = some (some (.ref (Xa_OF_ANSWERS K))) := of_decide_eq_true (c.t 7 29 rfl rfl)
  have l_OF_ANSWERS : ∀ H : Hp, Rep K H (.tup (cst_OF_ANSWERS.map D.str)) (.ref (Xa_OF_ANSWERS K)) := tupT_ok (c.t 8 0 rfl rfl)
  have le_Row_init_0 : ∀ H : Hp, Rep K H (.tup []) (.ref (Xe_Row_init_0 K)) := tupT_ok (ss := []) (c.t 8 1 rfl rfl)
  have le_Row_init_1 : ∀ H : Hp, Rep K H (.tup []) (.ref (Xe_Row_init_1 K)) := tupT_ok (ss := []) (c.t 8 2 rfl rfl)
  have le_Page_init_0 : ∀ H : Hp, Rep K H (.tup []) (.ref (Xe_Page_init_0 K)) := tupT_ok (ss := []) (c.t 8 3 rfl rfl)
  exact ⟨{
       c_Row := Xc_Row K, c_Page := Xc_Page K, c_HastyError := Xc_HastyError K, c_InvalidRow := Xc_InvalidRow K, c_InvalidPage := Xc_InvalidPage K, c_InvalidText := Xc_InvalidText K, c_NoRow := Xc_NoRow K, f__wall := Xf__wall K, f_is_sequence := Xf_is_sequence K, f_fits_letter := Xf_fits_letter K, f_is_test := Xf_is_test K, f_is_deed := Xf_is_deed K, f__law_deal := Xf__law_deal K, f__law_draw := Xf__law_draw K, f__law_row := Xf__law_row K, f__law_row_text := Xf__law_row_text K, f__law_heard := Xf__law_heard K, f_law := Xf_law K, f_Row_init := Xf_Row_init K, f_Row_read := Xf_Row_read K, f_Row_eq := Xf_Row_eq K, f_Row_str := Xf_Row_str K, f_Page_init := Xf_Page_init K, f_Page_read := Xf_Page_read K, f_Page_need_row := Xf_Page_need_row K, f_Page_without := Xf_Page_without K, f_Page_len := Xf_Page_len K, f_Page_getitem := Xf_Page_getitem K, f_Page_iter := Xf_Page_iter K, f_Page_add := Xf_Page_add K, f_Page_eq := Xf_Page_eq K, f_Page_str := Xf_Page_str K, d__wall := d__wall, d_is_sequence := d_is_sequence, d_fits_letter := d_fits_letter, d_is_test := d_is_test, d_is_deed := d_is_deed, d__law_deal := d__law_deal, d__law_draw := d__law_draw, d__law_row := d__law_row, d__law_row_text := d__law_row_text, d__law_heard := d__law_heard, d_law := d_law, d_Row_init := d_Row_init, d_Row_read := d_Row_read, d_Row_eq := d_Row_eq, d_Row_str := d_Row_str, d_Page_init := d_Page_init, d_Page_read := d_Page_read, d_Page_need_row := d_Page_need_row, d_Page_without := d_Page_without, d_Page_len := d_Page_len, d_Page_getitem := d_Page_getitem, d_Page_iter := d_Page_iter, d_Page_add := d_Page_add, d_Page_eq := d_Page_eq, d_Page_str := d_Page_str, a_LETTERS := Xa_LETTERS K, a_TESTS := Xa_TESTS K, a_DEEDS := Xa_DEEDS K, a_OF_ANSWERS := Xa_OF_ANSWERS K, e_Row_init_0 := Xe_Row_init_0 K, e_Row_init_1 := Xe_Row_init_1 K, e_Page_init_0 := Xe_Page_init_0 K,
       i_Row := ⟨⟨pg_Row, hd_Row, po_Row, sa_Row⟩, ca_Row, cnn, ctt, cm_Row⟩,
       g_Row := W.mg_of X G a_Row,
       na_Row_letter := na_Row_letter,
       na_Row_tests := na_Row_tests,
       na_Row_deeds := na_Row_deeds,
       isi_Row_list := kit_ref cl_Row ty_Row ss_Row_list (by first | rfl | decide | (exact bne_of (by decide))),
       isi_Row_tuple := kit_ref cl_Row ty_Row ss_Row_tuple (by first | rfl | decide | (exact bne_of (by decide))),
       isi_Row_str := kit_ref cl_Row ty_Row ss_Row_str (by first | rfl | decide | (exact bne_of (by decide))),
       isi_Row_int := kit_ref cl_Row ty_Row ss_Row_int (by first | rfl | decide | (exact bne_of (by decide))),
       isi_Row_bool := kit_ref cl_Row ty_Row ss_Row_bool (by first | rfl | decide | (exact bne_of (by decide))),
       isi_Row_NoneType := kit_ref cl_Row ty_Row ss_Row_NoneType (by first | rfl | decide | (exact bne_of (by decide))),
       kin_Row_list := kit_tyF sk_Row_list (by decide +kernel),
       kin_Row_tuple := kit_tyF sk_Row_tuple (by decide +kernel),
       kin_Row_str := kit_tyF sk_Row_str (by decide +kernel),
       kin_Row_int := kit_tyF sk_Row_int (by decide +kernel),
       kin_Row_bool := kit_tyF sk_Row_bool (by decide +kernel),
       nf_Row_Row := nf_Row_Row,
       nf_Row_list := nf_Row_list,
       nf_Row_tuple := nf_Row_tuple,
       nf_Row_str := nf_Row_str,
       nf_Row_int := nf_Row_int,
       nf_Row_bool := nf_Row_bool,
       nf_Row_NoneType := nf_Row_NoneType,
       ne_Row := ne_Row,
       i_Page := ⟨⟨pg_Page, hd_Page, po_Page, sa_Page⟩, ca_Page, cnn, ctt, cm_Page⟩,
       g_Page := W.mg_of X G a_Page,
       na_Page_rows := na_Page_rows,
       isi_Page_list := kit_ref cl_Page ty_Page ss_Page_list (by first | rfl | decide | (exact bne_of (by decide))),
       isi_Page_tuple := kit_ref cl_Page ty_Page ss_Page_tuple (by first | rfl | decide | (exact bne_of (by decide))),
       isi_Page_str := kit_ref cl_Page ty_Page ss_Page_str (by first | rfl | decide | (exact bne_of (by decide))),
       isi_Page_int := kit_ref cl_Page ty_Page ss_Page_int (by first | rfl | decide | (exact bne_of (by decide))),
       isi_Page_bool := kit_ref cl_Page ty_Page ss_Page_bool (by first | rfl | decide | (exact bne_of (by decide))),
       isi_Page_NoneType := kit_ref cl_Page ty_Page ss_Page_NoneType (by first | rfl | decide | (exact bne_of (by decide))),
       kin_Page_list := kit_tyF sk_Page_list (by decide +kernel),
       kin_Page_tuple := kit_tyF sk_Page_tuple (by decide +kernel),
       kin_Page_str := kit_tyF sk_Page_str (by decide +kernel),
       kin_Page_int := kit_tyF sk_Page_int (by decide +kernel),
       kin_Page_bool := kit_tyF sk_Page_bool (by decide +kernel),
       nf_Page_Page := nf_Page_Page,
       nf_Page_list := nf_Page_list,
       nf_Page_tuple := nf_Page_tuple,
       nf_Page_str := nf_Page_str,
       nf_Page_int := nf_Page_int,
       nf_Page_bool := nf_Page_bool,
       nf_Page_NoneType := nf_Page_NoneType,
       ne_Page := ne_Page,
       g__wall := W.mg_of X G a__wall,
       F__wall := l__wall,
       b__wall := l__wall.bindsN fun _ _ _ _ _ _ us hl => match us, hl with | [_], _ => rfl,
       g_is_sequence := W.mg_of X G a_is_sequence,
       F_is_sequence := l_is_sequence,
       b_is_sequence := l_is_sequence.bindsN fun _ _ _ _ _ _ us hl => match us, hl with | [_], _ => rfl,
       g_fits_letter := W.mg_of X G a_fits_letter,
       F_fits_letter := l_fits_letter,
       b_fits_letter := l_fits_letter.bindsN fun _ _ _ _ _ _ us hl => match us, hl with | [_, _], _ => rfl,
       g_is_test := W.mg_of X G a_is_test,
       F_is_test := l_is_test,
       b_is_test := l_is_test.bindsN fun _ _ _ _ _ _ us hl => match us, hl with | [_, _], _ => rfl,
       g_is_deed := W.mg_of X G a_is_deed,
       F_is_deed := l_is_deed,
       b_is_deed := l_is_deed.bindsN fun _ _ _ _ _ _ us hl => match us, hl with | [_, _], _ => rfl,
       g__law_deal := W.mg_of X G a__law_deal,
       F__law_deal := l__law_deal,
       b__law_deal := l__law_deal.bindsN fun _ _ _ _ _ _ us hl => match us, hl with | [_, _], _ => rfl,
       g__law_draw := W.mg_of X G a__law_draw,
       F__law_draw := l__law_draw,
       b__law_draw := l__law_draw.bindsN fun _ _ _ _ _ _ us hl => match us, hl with | [_, _], _ => rfl,
       g__law_row := W.mg_of X G a__law_row,
       F__law_row := l__law_row,
       b__law_row := l__law_row.bindsN fun _ _ _ _ _ _ us hl => match us, hl with | [_], _ => rfl,
       g__law_row_text := W.mg_of X G a__law_row_text,
       F__law_row_text := l__law_row_text,
       b__law_row_text := l__law_row_text.bindsN fun _ _ _ _ _ _ us hl => match us, hl with | [_], _ => rfl,
       g__law_heard := W.mg_of X G a__law_heard,
       F__law_heard := l__law_heard,
       b__law_heard := l__law_heard.bindsN fun _ _ _ _ _ _ us hl => match us, hl with | [_], _ => rfl,
       g_law := W.mg_of X G a_law,
       F_law := l_law,
       b_law := l_law.bindsN fun _ _ _ _ _ _ us hl => match us, hl with | [_], _ => rfl,
       mk_Row := ⟨mm_Row, a_Row_init, n_Row_init, kc_Row⟩,
       F_Row_init := l_Row_init,
       b_Row_init := binds_all (ps := ["self", "letter", "tests", "deeds"]) l_Row_init 4 rfl (by simp) fun _ _ _ _ _ _ _ us its hu hi => match us, its, hu, hi with | [_, _, _, _], [_, _], _, _ => ⟨_, rfl, rfl⟩,
       b0_Row_init := l_Row_init.binds1 (ps := ["self", "letter", "tests", "deeds"]) 2 0 (by simp) rfl fun _ _ _ _ _ _ _ us its hu hi => match us, its, hu, hi with | [_, _], [_, _], _, _ => ⟨_, rfl, rfl⟩,
       b1_Row_init := l_Row_init.binds1 (ps := ["self", "letter", "tests", "deeds"]) 3 1 (by simp) rfl fun _ _ _ _ _ _ _ us its hu hi => match us, its, hu, hi with | [_, _, _], [_, _], _, _ => ⟨_, rfl, rfl⟩,
       m_Row_read := ⟨_, _, ⟨cr_Row_read, cg_Row_read⟩, ca_Row_read, ⟨_, rc_Row_read⟩, fi_Row_read⟩,
       F_Row_read := l_Row_read,
       b_Row_read := l_Row_read.bindsN fun _ _ _ _ _ _ us hl => match us, hl with | [_, _], _ => rfl,
       m_Row_eq := a_Row_eq,
       n_Row_eq := n_Row_eq,
       F_Row_eq := l_Row_eq,
       b_Row_eq := l_Row_eq.bindsN fun _ _ _ _ _ _ us hl => match us, hl with | [_, _], _ => rfl,
       m_Row_str := a_Row_str,
       n_Row_str := n_Row_str,
       F_Row_str := l_Row_str,
       b_Row_str := l_Row_str.bindsN fun _ _ _ _ _ _ us hl => match us, hl with | [_], _ => rfl,
       mk_Page := ⟨mm_Page, a_Page_init, n_Page_init, kc_Page⟩,
       F_Page_init := l_Page_init,
       b_Page_init := binds_all (ps := ["self", "rows"]) l_Page_init 2 rfl (by simp) fun _ _ _ _ _ _ _ us its hu hi => match us, its, hu, hi with | [_, _], [_], _, _ => ⟨_, rfl, rfl⟩,
       b0_Page_init := l_Page_init.binds1 (ps := ["self", "rows"]) 1 0 (by simp) rfl fun _ _ _ _ _ _ _ us its hu hi => match us, its, hu, hi with | [_], [_], _, _ => ⟨_, rfl, rfl⟩,
       m_Page_read := ⟨_, _, ⟨cr_Page_read, cg_Page_read⟩, ca_Page_read, ⟨_, rc_Page_read⟩, fi_Page_read⟩,
       F_Page_read := l_Page_read,
       b_Page_read := l_Page_read.bindsN fun _ _ _ _ _ _ us hl => match us, hl with | [_, _], _ => rfl,
       m_Page_need_row := ⟨a_Page_need_row, n_Page_need_row, k_Page_need_row⟩,
       F_Page_need_row := l_Page_need_row,
       b_Page_need_row := l_Page_need_row.bindsN fun _ _ _ _ _ _ us hl => match us, hl with | [_, _], _ => rfl,
       m_Page_without := ⟨a_Page_without, n_Page_without, k_Page_without⟩,
       F_Page_without := l_Page_without,
       b_Page_without := l_Page_without.bindsN fun _ _ _ _ _ _ us hl => match us, hl with | [_, _], _ => rfl,
       m_Page_len := a_Page_len,
       n_Page_len := n_Page_len,
       F_Page_len := l_Page_len,
       b_Page_len := l_Page_len.bindsN fun _ _ _ _ _ _ us hl => match us, hl with | [_], _ => rfl,
       m_Page_getitem := a_Page_getitem,
       n_Page_getitem := n_Page_getitem,
       fi_Page_getitem := fi_Page_getitem,
       F_Page_getitem := l_Page_getitem,
       b_Page_getitem := l_Page_getitem.bindsN fun _ _ _ _ _ _ us hl => match us, hl with | [_, _], _ => rfl,
       m_Page_iter := a_Page_iter,
       n_Page_iter := n_Page_iter,
       F_Page_iter := l_Page_iter,
       b_Page_iter := l_Page_iter.bindsN fun _ _ _ _ _ _ us hl => match us, hl with | [_], _ => rfl,
       m_Page_add := a_Page_add,
       n_Page_add := n_Page_add,
       sf_Page := sf_Page,
       F_Page_add := l_Page_add,
       b_Page_add := l_Page_add.bindsN fun _ _ _ _ _ _ us hl => match us, hl with | [_, _], _ => rfl,
       m_Page_eq := a_Page_eq,
       n_Page_eq := n_Page_eq,
       F_Page_eq := l_Page_eq,
       b_Page_eq := l_Page_eq.bindsN fun _ _ _ _ _ _ us hl => match us, hl with | [_, _], _ => rfl,
       m_Page_str := a_Page_str,
       n_Page_str := n_Page_str,
       F_Page_str := l_Page_str,
       b_Page_str := l_Page_str.bindsN fun _ _ _ _ _ _ us hl => match us, hl with | [_], _ => rfl,
       g_HastyError := W.mg_of X G a_HastyError,
       g_InvalidRow := W.mg_of X G a_InvalidRow,
       xf_InvalidRow := ⟨ga_InvalidRow, gg_InvalidRow, ex_InvalidRow, hd_InvalidRow⟩,
       xc_InvalidRow := ⟨ga_InvalidRow, gg_InvalidRow, ex_InvalidRow, hd_InvalidRow, ca_InvalidRow, cnn, ctt, cm_InvalidRow⟩,
       na_InvalidRow_word := na_InvalidRow_word,
       x_InvalidRow := ⟨⟨_, _, _, _, xf_ValueError, ⟨⟨_, _, _, _, _, _, _, _, _, _, _, _, _, _, _, lc_InvalidRow, rv_InvalidRow⟩, sa_InvalidRow, ex_InvalidRow, ty_InvalidRow, kc_InvalidRow⟩⟩, _, ai_InvalidRow, ti_InvalidRow, sup_InvalidRow lc_InvalidRow rv_InvalidRow sa_InvalidRow na_InvalidRow_word lf_InvalidRow ld_InvalidRow hv_InvalidRow hf_InvalidRow ci_InvalidRow lk_InvalidRow (W.mg_none_of X G zz_super) zt_super zz_any si_InvalidRow sv_InvalidRow⟩,
       g_InvalidPage := W.mg_of X G a_InvalidPage,
       xf_InvalidPage := ⟨ga_InvalidPage, gg_InvalidPage, ex_InvalidPage, hd_InvalidPage⟩,
       xc_InvalidPage := ⟨ga_InvalidPage, gg_InvalidPage, ex_InvalidPage, hd_InvalidPage, ca_InvalidPage, cnn, ctt, cm_InvalidPage⟩,
       x0_InvalidPage := ⟨qe_InvalidPage, kc_InvalidPage, ex_InvalidPage, ty_InvalidPage⟩,
       g_InvalidText := W.mg_of X G a_InvalidText,
       xf_InvalidText := ⟨ga_InvalidText, gg_InvalidText, ex_InvalidText, hd_InvalidText⟩,
       xc_InvalidText := ⟨ga_InvalidText, gg_InvalidText, ex_InvalidText, hd_InvalidText, ca_InvalidText, cnn, ctt, cm_InvalidText⟩,
       na_InvalidText_at := na_InvalidText_at,
       x_InvalidText := ⟨⟨_, _, _, _, xf_ValueError, ⟨⟨_, _, _, _, _, _, _, _, _, _, _, _, _, _, _, lc_InvalidText, rv_InvalidText⟩, sa_InvalidText, ex_InvalidText, ty_InvalidText, kc_InvalidText⟩⟩, _, ai_InvalidText, ti_InvalidText, sup_InvalidText lc_InvalidText rv_InvalidText sa_InvalidText na_InvalidText_at lf_InvalidText ld_InvalidText hv_InvalidText hf_InvalidText ci_InvalidText lk_InvalidText (W.mg_none_of X G zz_super) zt_super zz_any si_InvalidText sv_InvalidText⟩,
       g_NoRow := W.mg_of X G a_NoRow,
       xf_NoRow := ⟨ga_NoRow, gg_NoRow, ex_NoRow, hd_NoRow⟩,
       xc_NoRow := ⟨ga_NoRow, gg_NoRow, ex_NoRow, hd_NoRow, ca_NoRow, cnn, ctt, cm_NoRow⟩,
       na_NoRow_at := na_NoRow_at,
       x_NoRow := ⟨⟨_, _, _, _, xf_IndexError, ⟨⟨_, _, _, _, _, _, _, _, _, _, _, _, _, _, _, lc_NoRow, rv_NoRow⟩, sa_NoRow, ex_NoRow, ty_NoRow, kc_NoRow⟩⟩, _, ai_NoRow, ti_NoRow, sup_NoRow lc_NoRow rv_NoRow sa_NoRow na_NoRow_at lf_NoRow ld_NoRow hv_NoRow hf_NoRow ci_NoRow lk_NoRow (W.mg_none_of X G zz_super) zt_super zz_any si_NoRow sv_NoRow⟩,
       exm_InvalidText_InvalidText := W.exm_ref ex_InvalidText hd_InvalidText ty_InvalidText su_InvalidText_InvalidText,
       exm_InvalidRow_InvalidRow := W.exm_ref ex_InvalidRow hd_InvalidRow ty_InvalidRow su_InvalidRow_InvalidRow,
       exm_InvalidText_HastyError := W.exm_ref ex_HastyError hd_HastyError ty_HastyError su_InvalidText_HastyError,
       isx_InvalidRow_HastyError := kit_ref cl_HastyError ty_HastyError su_InvalidRow_HastyError nq_InvalidRow_HastyError,
       isx_InvalidPage_HastyError := kit_ref cl_HastyError ty_HastyError su_InvalidPage_HastyError nq_InvalidPage_HastyError,
       isx_InvalidText_HastyError := kit_ref cl_HastyError ty_HastyError su_InvalidText_HastyError nq_InvalidText_HastyError,
       isx_NoRow_HastyError := kit_ref cl_HastyError ty_HastyError su_NoRow_HastyError nq_NoRow_HastyError,
       z_abs := W.mg_none_of X G z_abs,
       z_all := W.mg_none_of X G z_all,
       z_enumerate := W.mg_none_of X G z_enumerate,
       z_int := W.mg_none_of X G z_int,
       z_isinstance := W.mg_none_of X G z_isinstance,
       z_len := W.mg_none_of X G z_len,
       z_list := W.mg_none_of X G z_list,
       z_min := W.mg_none_of X G z_min,
       z_range := W.mg_none_of X G z_range,
       z_str := W.mg_none_of X G z_str,
       z_tuple := W.mg_none_of X G z_tuple,
       g_LETTERS := W.mg_of X G a_nLETTERS,
       r_LETTERS := l_LETTERS,
       g_TESTS := W.mg_of X G a_nTESTS,
       r_TESTS := l_TESTS,
       g_DEEDS := W.mg_of X G a_nDEEDS,
       r_DEEDS := l_DEEDS,
       g_OF_ANSWERS := W.mg_of X G a_nOF_ANSWERS,
       r_OF_ANSWERS := l_OF_ANSWERS,
       re_Row_init_0 := le_Row_init_0,
       re_Row_init_1 := le_Row_init_1,
       re_Page_init_0 := le_Page_init_0
     }⟩
def nms0 : List Str := ["_wall", "HastyError", "InvalidRow", "InvalidPage", "InvalidText", "NoRow", "is_sequence", "LETTERS", "TESTS", "DEEDS", "OF_ANSWERS", "fits_letter", "is_test", "is_deed", "Row", "Page", "_law_deal", "_law_draw", "_law_row", "_law_row_text", "_law_heard"]
def nms : List Str := nms0
def asL : List Addr := upTo 1500 []
abbrev hk : W.Hook := hookX asL chs dfs
theorem runc0 (w : World) : HandSHeadRun.RunEq (W.OpenLaw.row PySem.Challenge.rw_hastypage_k15_pages_read) (W.view PySem.Challenge.pw_hastypage_k15_pages_read [26]) (hookX asL ([ts0, ts1, ts2, ts3, ts4, ts5, ts6, ts7, ts8]) ([])) (obX asL ([ts0, ts1, ts2, ts3, ts4, ts5, ts6, ts7, ts8]) ([])) 30000 nms w := by
  intro os
  kernel_rfl
theorem rund0 (w : World) : HandSHeadRun.RunEq (W.OpenLaw.row PySem.Challenge.rw_hastypage_k15_pages_read) (W.view PySem.Challenge.pw_hastypage_k15_pages_read [26]) (hookX asL ([]) (dfs0)) (obX asL ([]) (dfs0)) 30000 nms w := by
  intro os
  kernel_rfl
theorem run (w : World) : HandSHeadRun.RunEq (W.OpenLaw.row PySem.Challenge.rw_hastypage_k15_pages_read) (W.view PySem.Challenge.pw_hastypage_k15_pages_read [26]) hk (obX asL chs dfs) 30000 nms w := run_cat (chs := chs) (dfs := dfs) (c1 := [ts0, ts1, ts2, ts3, ts4, ts5, ts6, ts7, ts8]) (c2 := []) (d1 := []) (d2 := dfs0) rfl rfl (runc0 w) (rund0 w)
theorem law_of (hL : ∀ {P : Program} {w : World} {K : W.Frag} {mg : Str → Option Value} {base : Heap} (T : Tp P K mg), FnG P w K mg base 12 T.f_law T.d_law ["_law_script"] lawFS) : PySem.Challenge.rw_hastypage_k15_pages_read.Holds := by
  w_on; o_law
  refine HandSHeadRun.head_any (r := W.OpenLaw.row PySem.Challenge.rw_hastypage_k15_pages_read) (q := W.view PySem.Challenge.pw_hastypage_k15_pages_read [26]) (H := Kk.hk) (ob := Tr.obX Kk.asL Kk.chs Kk.dfs) (M := 30000) (loose := Kk.nms) (d := HandSHeadRun.topDef PySem.Challenge.pw_hastypage_k15_pages_read 26) (kwd := []) (Tr.obX_eq Kk.asL Kk.chs Kk.dfs)
    (by kernel_rfl) (fun s => by kernel_rfl) Kk.run (by kernel_rfl) (by kernel_rfl) (by kernel_rfl) (by rfl) (by first | assumption | decide +kernel) (by decide +kernel) ⟨rfl, rfl, rfl, rfl, rfl, by decide +kernel⟩ ?hw ?hc
  case hw => w_witness2
  case hc =>
    refine Tr.law_walkX (l := PySem.Challenge.rw_hastypage_k15_pages_read) (k := 12) (x := "_law_script") rfl (by kernel_rfl) ⟨⟨rfl, by decide, by decide⟩, rfl⟩ ?F
    intro w mg fa h K KX c G hmg0
    have hmg : mg ("law" : PySem.Str) = some (.ref fa) := by
      have e : (HandSHeadRun.topDef PySem.Challenge.pw_hastypage_k15_pages_read 26).name = ("law" : PySem.Str) := by kernel_rfl
      rw [← e]
      exact hmg0
    obtain ⟨T, eT⟩ := Kk.tp_fa hmg (Kk.tp_of KX G c)
    subst eT
    exact ⟨T.d_law, Kk.law_binds T, fun base _ _ => hL T⟩
end Kk

set_option maxHeartbeats 4000000
namespace Kk
open PySem L2 PySem.Spec PyProof.Rows Tr
set_option hygiene false
local macro_rules | `(tactic| walk_at "le") => `(tactic| repeat (first | exact LeR.nil | refine LeR.keep ?_ | refine LeR.drop ?_))
section
variable {P : Program} {w : World} {K : W.Frag} {mg : Str → Option Value} {base : Heap}
def w__law_deal_a2 (T : Tp P K mg) (x_cells : D) (Qx : QX) (Q : QE) (s1 : D) : MB := mRet (eDrop (eArgs (aCons (eApp (eLc1 (iApp (eVal x_cells) pIter) (fun x_cell1 => (tBin (eVal x_cell1) (eBin (eVal (.int 10)) (eVal (.int 18)) oPow) oGe)) (fun x_cell1 => (eVal x_cell1))) pRevC) (aCons (eVal s1) aNil)) pLstC)) Q
def w__law_deal_l1 (T : Tp P K mg)  (Qx : QX) (Q : QE) (d1 : D) (s1 : D) (nx1 : (D) → MB) (bk1 : (D) → MB) : MB := mSet (eBin (eArgs (aCons (eBin (eBin (eVal s1) (eVal (.int 16807)) oMul) (eBin (eArgs (aCons (eVal d1) aNil) (on1 pInt1)) (eVal (.int 2147483629)) oMod) oAdd) aNil) (on1 pInt1)) (eVal (.int 2147483647)) oMod) fun x_blend1 => mPart (nx1 x_blend1)
def w__law_deal (T : Tp P K mg) (x_script x_base : D) (Qx : QX) (Q : QE) : MB := mSet (eLc (iApp (eSl (eVal x_script) (oSome (eVal x_base)) (oSome (eVal (.int 63)))) pIter) (fun x_cell => (eArgs (aCons (eVal x_cell) aNil) (on1 pAbs1)))) fun x_cells => mSet (eBin (eVal (.int 15485863)) (eBin (eVal (.int 11)) (eVal x_base) oMul) oAdd) fun x_blend => mFor (α := D) (iApp (eVal x_cells) pIter) (w__law_deal_l1 T Qx Q) x_blend (w__law_deal_a2 T x_cells Qx Q)
def fw__law_deal (T : Tp P K mg) : FS := fun ds C Q Qx => match ds with
  | [x_script, x_base] => w__law_deal T x_script x_base Qx Q C
  | _ => False
theorem ok__law_deal (T : Tp P K mg) : FnG P w K mg base 1 T.f__law_deal T.d__law_deal ["_law_script", "_law_base"] (fw__law_deal T) := by
  refine fnT T.F__law_deal sc__law_deal (fun ds C Q Qx h => ?_) (fun cdv A outer s H E X ds C Q hr h => ?_)
  · unfold fw__law_deal at h; split at h
    · rfl
    · exact h.elim
  · unfold fw__law_deal at h; split at h
    rotate_left
    · exact h.elim
    have hN := sc__law_deal.nd
    have hu := hu_G hr
    have hg := hr.gd
    rename_i x_script x_base
    generalize hQx : (fun cls fs C' => ∀ ρ, X.XQ cls fs ρ C' : QX) = Qx at h
    have hX : ∀ ρ cls fs C, Qx cls fs C → X.XQ cls fs ρ C := by subst hQx; exact fun ρ cls fs C h => h ρ
    clear hQx
    revert h; revert C
    show SB X _ [some x_script, some x_base, none, none, none] (w__law_deal T x_script x_base Qx Q) _
    unfold w__law_deal
    first | refine sb_setLc (r := fun x_cells => [some x_script, some x_base, some x_cells, none, none]) [("_law_cell", 4)] (.one 4) 2 rfl hN rfl rfl (sw_true rfl rfl rfl rfl) (blkOk_by rfl) (fun _ _ _ _ _ => pg_name (i := 4) hN rfl (by first | exact .inl rfl | exact .inr rfl)) (by decide) (si_iter (se_slice (se_var 0 rfl (pv 0)) (so_some (se_var 1 rfl (pv 1))) (so_some se_int))) (bd_one (r := fun x_cell => [some x_script, some x_base, none, none, some x_cell]) (fun _ => rfl) (fun x_cell _ _ _ _ _ => (se_callB (id := "abs") rfl T.z_abs (by decide +kernel) (sa_cons (se_var 4 rfl (pv 4)) sa_nil) pAbs_ok))) (fun _ => rfl) (fun x_cells => ?_) | refine sb_set (r := fun x_cells => [some x_script, some x_base, some x_cells, none, none]) 2 hN rfl (by first | exact .inl rfl | exact .inr rfl) (fun _ => rfl) (se_lc [("_law_cell", 4)] (.one 4) rfl hN (blkOk_by rfl) (fun _ _ _ _ _ => pg_name (i := 4) hN rfl (by first | exact .inl rfl | exact .inr rfl)) (by decide) (si_iter (se_slice (se_var 0 rfl (pv 0)) (so_some (se_var 1 rfl (pv 1))) (so_some se_int))) (bd_one (r := fun x_cell => [some x_script, some x_base, none, none, some x_cell]) (fun _ => rfl) (fun x_cell _ _ _ _ _ => (se_callB (id := "abs") rfl T.z_abs (by decide +kernel) (sa_cons (se_var 4 rfl (pv 4)) sa_nil) pAbs_ok)))) (fun x_cells => ?_)
    refine sb_set (r := fun x_blend => [some x_script, some x_base, some x_cells, some x_blend, none]) 3 hN rfl (by first | exact .inl rfl | exact .inr rfl) (fun _ => rfl) (se_bin se_int (se_bin se_int (se_var 1 rfl (pv 1)) oMul_ok) oAdd_ok) (fun x_blend => ?_)
    refine sb_for (α := D) (fun s1 => [some x_script, some x_base, some x_cells, some s1, none]) rfl (si_iter (se_var 2 rfl (pv 2))) (by walk_at "le") (fun d1 s1 nx1 bk1 W V hW1 hV1 => ?_) (fun s1 => ?_)
    · unfold w__law_deal_l1
      refine sg_name (r := [some x_script, some x_base, some x_cells, some s1, some d1]) 4 rfl ?_ (pg_name (i := 4) hN rfl (by first | exact .inl rfl | exact .inr rfl))
      refine sb_set (r := fun x_blend1 => [some x_script, some x_base, some x_cells, some x_blend1, some d1]) 3 hN rfl (by first | exact .inl rfl | exact .inr rfl) (fun _ => rfl) (se_bin (se_callTy (id := "int") rfl T.z_int (by decide +kernel) (sa_cons (se_bin (se_bin (se_var 3 rfl (pv 3)) se_int oMul_ok) (se_bin (se_callTy (id := "int") rfl T.z_int (by decide +kernel) (sa_cons (se_var 4 rfl (pv 4)) sa_nil) pInt_ok) se_int oMod_ok) oAdd_ok) sa_nil) pInt_ok) se_int oMod_ok) (fun x_blend1 => ?_)
      refine sb_part ?_
      exact sb_le hW1 (by walk_at "le")
    · unfold w__law_deal_a2
      exact sb_ret (se_drop (se_lstC (sa_cons (se_revC (se_lc1 [("_law_cell", 4)] (.one 4) rfl hN (blkOk_by rfl) (fun _ _ _ _ _ => pg_name (i := 4) hN rfl (by first | exact .inl rfl | exact .inr rfl)) (by decide) (si_iter (se_var 2 rfl (pv 2))) (bdT_one (r := fun x_cell1 => [some x_script, some x_base, some x_cells, some s1, some x_cell1]) (fun _ => rfl) (fun x_cell1 _ _ _ _ _ => (st_cmp (se_var 4 rfl (pv 4)) (se_bin se_int se_int oPow_ok) oGe_ok))) (bd_one (r := fun x_cell1 => [some x_script, some x_base, some x_cells, some s1, some x_cell1]) (fun _ => rfl) (fun x_cell1 _ _ _ _ _ => (se_var 4 rfl (pv 4)))))) (sa_cons (se_var 3 rfl (pv 3)) sa_nil)))) (fun _ _ h => h)
def w_is_sequence (T : Tp P K mg) (x_value : D) (Qx : QX) (Q : QE) : MB := mRet (eArgs (aCons (eVal x_value) (aCons (eArgs (aCons (eVal (.raw (.ty "list"))) (aCons (eVal (.raw (.ty "tuple"))) aNil)) pTup) aNil)) (on2 (pIsI K))) Q
def fw_is_sequence (T : Tp P K mg) : FS := fun ds C Q Qx => match ds with
  | [x_value] => w_is_sequence T x_value Qx Q C
  | _ => False
theorem ok_is_sequence (T : Tp P K mg) : FnG P w K mg base 1 T.f_is_sequence T.d_is_sequence ["value"] (fw_is_sequence T) := by
  refine fnT T.F_is_sequence sc_is_sequence (fun ds C Q Qx h => ?_) (fun cdv A outer s H E X ds C Q hr h => ?_)
  · unfold fw_is_sequence at h; split at h
    · rfl
    · exact h.elim
  · unfold fw_is_sequence at h; split at h
    rotate_left
    · exact h.elim
    have hN := sc_is_sequence.nd
    have hu := hu_G hr
    have hg := hr.gd
    rename_i x_value
    generalize hQx : (fun cls fs C' => ∀ ρ, X.XQ cls fs ρ C' : QX) = Qx at h
    have hX : ∀ ρ cls fs C, Qx cls fs C → X.XQ cls fs ρ C := by subst hQx; exact fun ρ cls fs C h => h ρ
    clear hQx
    revert h; revert C
    show SB X _ [some x_value] (w_is_sequence T x_value Qx Q) _
    unfold w_is_sequence
    exact sb_ret (se_callB (id := "isinstance") rfl T.z_isinstance (by decide +kernel) (sa_cons (se_var 0 rfl (pv 0)) (sa_cons (se_tup (sa_cons (se_ty rfl T.z_list (by decide +kernel)) (sa_cons (se_ty rfl T.z_tuple (by decide +kernel)) sa_nil))) sa_nil)) pIsI_ok) (fun _ _ h => h)
def w_Page_init (T : Tp P K mg) (x_self x_rows : D) (Qx : QX) (Q : QE) : MB := mIf (tOr (tNot (tVal (eArgs (aCons (eVal x_rows) aNil) fun ds => callW (fw_is_sequence T) Qx (ds ++ [])))) (tNot (tVal (eArgs (aCons (eLc (iApp (eVal x_rows) pIter) (fun x_row => (eArgs (aCons (eVal x_row) (aCons (eVal (.raw (.ref T.c_Row))) aNil)) (on2 (pIsI K))))) aNil) (on1 pAll1))))) (mRaise0 T.c_InvalidPage Qx) (mFld K (eArgs (aCons (eVal x_rows) aNil) (on1 pTuple1)) (eVal x_self) "rows" (mRet (eVal .non) Q))
def fw_Page_init (T : Tp P K mg) : FS := fun ds C Q Qx => match ds with
  | [x_self, x_rows] => w_Page_init T x_self x_rows Qx Q C
  | _ => False
theorem ok_Page_init (T : Tp P K mg) : FnG P w K mg base 2 T.f_Page_init T.d_Page_init ["self", "rows"] (fw_Page_init T) := by
  refine fnT T.F_Page_init sc_Page_init (fun ds C Q Qx h => ?_) (fun cdv A outer s H E X ds C Q hr h => ?_)
  · unfold fw_Page_init at h; split at h
    · rfl
    · exact h.elim
  · unfold fw_Page_init at h; split at h
    rotate_left
    · exact h.elim
    have hN := sc_Page_init.nd
    have hu := hu_G hr
    have hg := hr.gd
    rename_i x_self x_rows
    generalize hQx : (fun cls fs C' => ∀ ρ, X.XQ cls fs ρ C' : QX) = Qx at h
    have hX : ∀ ρ cls fs C, Qx cls fs C → X.XQ cls fs ρ C := by subst hQx; exact fun ρ cls fs C h => h ρ
    clear hQx
    revert h; revert C
    show SB X _ [some x_self, some x_rows, none] (w_Page_init T x_self x_rows Qx Q) _
    unfold w_Page_init
    refine sb_if (st_p (sp_or (st_not (st_val (se_call (dds := []) (ok_is_sequence T) (hr.mono (by omega)) rfl T.g_is_sequence T.F_is_sequence.kp T.b_is_sequence .nil (fun _ => Reps.nil) (hX _) (sa_cons (se_var 1 rfl (pv 1)) sa_nil)))) (sp_or1 (st_not (st_val (se_callB (id := "all") rfl T.z_all (by decide +kernel) (sa_cons (se_lc [("row", 2)] (.one 2) rfl hN (blkOk_by rfl) (fun _ _ _ _ _ => pg_name (i := 2) hN rfl (by first | exact .inl rfl | exact .inr rfl)) (by decide) (si_iter (se_var 1 rfl (pv 1))) (bd_one (r := fun x_row => [some x_self, some x_rows, some x_row]) (fun _ => rfl) (fun x_row _ _ _ _ _ => (se_callB (id := "isinstance") rfl T.z_isinstance (by decide +kernel) (sa_cons (se_var 2 rfl (pv 2)) (sa_cons (se_glob (d := .raw (.ref T.c_Row)) (pe_glob (v := .ref T.c_Row) rfl T.g_Row rfl) (fun _ => rfl)) sa_nil)) pIsI_ok)))) sa_nil) (pAll_ok rfl))))))) ?_ ?_
    · exact sb_raise0 T.x0_InvalidPage rfl T.g_InvalidPage (hX _)
    · refine sb_more ?_
      refine sb_fld (se_callTy (id := "tuple") rfl T.z_tuple (by decide +kernel) (sa_cons (se_var 1 rfl (pv 1)) sa_nil) pTuple_ok) (se_var 0 rfl (pv 0)) ?_
      exact sb_nil (fun _ h => h)
def w_fits_letter (T : Tp P K mg) (x_word x_letter : D) (Qx : QX) (Q : QE) : MB := mRet (eOr (eBin (eVal x_letter) (eVal (.str "list")) (oNe noOwn)) (eBin (eVal x_word) (eVal (.tup (cst_OF_ANSWERS.map D.str))) oNotIn)) Q
def fw_fits_letter (T : Tp P K mg) : FS := fun ds C Q Qx => match ds with
  | [x_word, x_letter] => w_fits_letter T x_word x_letter Qx Q C
  | _ => False
theorem ok_fits_letter (T : Tp P K mg) : FnG P w K mg base 1 T.f_fits_letter T.d_fits_letter ["word", "letter"] (fw_fits_letter T) := by
  refine fnT T.F_fits_letter sc_fits_letter (fun ds C Q Qx h => ?_) (fun cdv A outer s H E X ds C Q hr h => ?_)
  · unfold fw_fits_letter at h; split at h
    · rfl
    · exact h.elim
  · unfold fw_fits_letter at h; split at h
    rotate_left
    · exact h.elim
    have hN := sc_fits_letter.nd
    have hu := hu_G hr
    have hg := hr.gd
    rename_i x_word x_letter
    generalize hQx : (fun cls fs C' => ∀ ρ, X.XQ cls fs ρ C' : QX) = Qx at h
    have hX : ∀ ρ cls fs C, Qx cls fs C → X.XQ cls fs ρ C := by subst hQx; exact fun ρ cls fs C h => h ρ
    clear hQx
    revert h; revert C
    show SB X _ [some x_word, some x_letter] (w_fits_letter T x_word x_letter Qx Q) _
    unfold w_fits_letter
    exact sb_ret (se_or (se_cmp (se_var 1 rfl (pv 1)) se_str (oNe_ok hu noOwn_ok)) (se_one (se_cmp (se_var 0 rfl (pv 0)) (se_glob (d := .tup (cst_OF_ANSWERS.map D.str)) (pe_glob (v := .ref T.a_OF_ANSWERS) rfl T.g_OF_ANSWERS rfl) T.r_OF_ANSWERS) oNotIn_ok))) (fun _ _ h => h)
def w_is_test (T : Tp P K mg) (x_value x_letter : D) (Qx : QX) (Q : QE) : MB := mIf (tNot (tVal (eArgs (aCons (eVal x_value) (aCons (eVal (.raw (.ty "str"))) aNil)) (on2 (pIsI K))))) (mRet (eVal (.bl false)) Q) (mSet (eIf (tVal (eStr1 (eVal x_value) (eVal (.str "not ")) pStarts)) (eSl (eVal x_value) (oSome (eVal (.int 4))) oNone) (eVal x_value)) fun x_word => mRet (eAnd (eBin (eVal x_word) (eVal (.tup (cst_TESTS.map D.str))) oIn) (eArgs (aCons (eVal x_word) (aCons (eVal x_letter) aNil)) fun ds => callW (fw_fits_letter T) Qx (ds ++ []))) Q)
def fw_is_test (T : Tp P K mg) : FS := fun ds C Q Qx => match ds with
  | [x_value, x_letter] => w_is_test T x_value x_letter Qx Q C
  | _ => False
theorem ok_is_test (T : Tp P K mg) : FnG P w K mg base 2 T.f_is_test T.d_is_test ["value", "letter"] (fw_is_test T) := by
  refine fnT T.F_is_test sc_is_test (fun ds C Q Qx h => ?_) (fun cdv A outer s H E X ds C Q hr h => ?_)
  · unfold fw_is_test at h; split at h
    · rfl
    · exact h.elim
  · unfold fw_is_test at h; split at h
    rotate_left
    · exact h.elim
    have hN := sc_is_test.nd
    have hu := hu_G hr
    have hg := hr.gd
    rename_i x_value x_letter
    generalize hQx : (fun cls fs C' => ∀ ρ, X.XQ cls fs ρ C' : QX) = Qx at h
    have hX : ∀ ρ cls fs C, Qx cls fs C → X.XQ cls fs ρ C := by subst hQx; exact fun ρ cls fs C h => h ρ
    clear hQx
    revert h; revert C
    show SB X _ [some x_value, some x_letter, none] (w_is_test T x_value x_letter Qx Q) _
    unfold w_is_test
    refine sb_if (st_not (st_val (se_callB (id := "isinstance") rfl T.z_isinstance (by decide +kernel) (sa_cons (se_var 0 rfl (pv 0)) (sa_cons (se_ty rfl T.z_str (by decide +kernel)) sa_nil)) pIsI_ok))) ?_ ?_
    · exact sb_ret se_bl (fun _ _ h => h)
    · refine sb_more ?_
      refine sb_set (r := fun x_word => [some x_value, some x_letter, some x_word]) 2 hN rfl (by first | exact .inl rfl | exact .inr rfl) (fun _ => rfl) (se_if (st_val (se_startswith (se_var 0 rfl (pv 0)) se_str)) (se_slice (se_var 0 rfl (pv 0)) (so_some se_int) so_none) (se_var 0 rfl (pv 0))) (fun x_word => ?_)
      exact sb_ret (se_and (se_cmp (se_var 2 rfl (pv 2)) (se_glob (d := .tup (cst_TESTS.map D.str)) (pe_glob (v := .ref T.a_TESTS) rfl T.g_TESTS rfl) T.r_TESTS) oIn_ok) (se_one (se_call (dds := []) (ok_fits_letter T) (hr.mono (by omega)) rfl T.g_fits_letter T.F_fits_letter.kp T.b_fits_letter .nil (fun _ => Reps.nil) (hX _) (sa_cons (se_var 2 rfl (pv 2)) (sa_cons (se_var 1 rfl (pv 1)) sa_nil))))) (fun _ _ h => h)
def w_is_deed (T : Tp P K mg) (x_value x_letter : D) (Qx : QX) (Q : QE) : MB := mRet (eAnd (eArgs (aCons (eVal x_value) (aCons (eVal (.raw (.ty "str"))) aNil)) (on2 (pIsI K))) (eAnd (eBin (eVal x_value) (eVal (.tup (cst_DEEDS.map D.str))) oIn) (eArgs (aCons (eVal x_value) (aCons (eVal x_letter) aNil)) fun ds => callW (fw_fits_letter T) Qx (ds ++ [])))) Q
def fw_is_deed (T : Tp P K mg) : FS := fun ds C Q Qx => match ds with
  | [x_value, x_letter] => w_is_deed T x_value x_letter Qx Q C
  | _ => False
theorem ok_is_deed (T : Tp P K mg) : FnG P w K mg base 2 T.f_is_deed T.d_is_deed ["value", "letter"] (fw_is_deed T) := by
  refine fnT T.F_is_deed sc_is_deed (fun ds C Q Qx h => ?_) (fun cdv A outer s H E X ds C Q hr h => ?_)
  · unfold fw_is_deed at h; split at h
    · rfl
    · exact h.elim
  · unfold fw_is_deed at h; split at h
    rotate_left
    · exact h.elim
    have hN := sc_is_deed.nd
    have hu := hu_G hr
    have hg := hr.gd
    rename_i x_value x_letter
    generalize hQx : (fun cls fs C' => ∀ ρ, X.XQ cls fs ρ C' : QX) = Qx at h
    have hX : ∀ ρ cls fs C, Qx cls fs C → X.XQ cls fs ρ C := by subst hQx; exact fun ρ cls fs C h => h ρ
    clear hQx
    revert h; revert C
    show SB X _ [some x_value, some x_letter] (w_is_deed T x_value x_letter Qx Q) _
    unfold w_is_deed
    exact sb_ret (se_and (se_callB (id := "isinstance") rfl T.z_isinstance (by decide +kernel) (sa_cons (se_var 0 rfl (pv 0)) (sa_cons (se_ty rfl T.z_str (by decide +kernel)) sa_nil)) pIsI_ok) (se_and (se_cmp (se_var 0 rfl (pv 0)) (se_glob (d := .tup (cst_DEEDS.map D.str)) (pe_glob (v := .ref T.a_DEEDS) rfl T.g_DEEDS rfl) T.r_DEEDS) oIn_ok) (se_one (se_call (dds := []) (ok_fits_letter T) (hr.mono (by omega)) rfl T.g_fits_letter T.F_fits_letter.kp T.b_fits_letter .nil (fun _ => Reps.nil) (hX _) (sa_cons (se_var 0 rfl (pv 0)) (sa_cons (se_var 1 rfl (pv 1)) sa_nil)))))) (fun _ _ h => h)
def w_Row_init (T : Tp P K mg) (x_self x_letter x_tests x_deeds : D) (Qx : QX) (Q : QE) : MB := mIf (tOr (tNot (tVal (eArgs (aCons (eVal x_letter) (aCons (eVal (.raw (.ty "str"))) aNil)) (on2 (pIsI K))))) (tBin (eVal x_letter) (eVal (.tup (cst_LETTERS.map D.str))) oNotIn)) (mRaise (eVal (.str "letter")) T.c_InvalidRow "word" Qx) (mIf (tOr (tNot (tVal (eArgs (aCons (eVal x_tests) aNil) fun ds => callW (fw_is_sequence T) Qx (ds ++ [])))) (tNot (tVal (eArgs (aCons (eLc (iApp (eVal x_tests) pIter) (fun x_test => (eArgs (aCons (eVal x_test) (aCons (eVal x_letter) aNil)) fun ds => callW (fw_is_test T) (fun _ _ _ => False) (ds ++ [])))) aNil) (on1 pAll1))))) (mRaise (eVal (.str "tests")) T.c_InvalidRow "word" Qx) (mIf (tOr (tNot (tVal (eArgs (aCons (eVal x_deeds) aNil) fun ds => callW (fw_is_sequence T) Qx (ds ++ [])))) (tNot (tVal (eArgs (aCons (eLc (iApp (eVal x_deeds) pIter) (fun x_deed => (eArgs (aCons (eVal x_deed) (aCons (eVal x_letter) aNil)) fun ds => callW (fw_is_deed T) (fun _ _ _ => False) (ds ++ [])))) aNil) (on1 pAll1))))) (mRaise (eVal (.str "deeds")) T.c_InvalidRow "word" Qx) (mFld K (eVal x_letter) (eVal x_self) "letter" (mFld K (eArgs (aCons (eVal x_tests) aNil) (on1 pTuple1)) (eVal x_self) "tests" (mFld K (eArgs (aCons (eVal x_deeds) aNil) (on1 pTuple1)) (eVal x_self) "deeds" (mRet (eVal .non) Q))))))
def fw_Row_init (T : Tp P K mg) : FS := fun ds C Q Qx => match ds with
  | [x_self, x_letter, x_tests, x_deeds] => w_Row_init T x_self x_letter x_tests x_deeds Qx Q C
  | _ => False
theorem ok_Row_init (T : Tp P K mg) : FnG P w K mg base 3 T.f_Row_init T.d_Row_init ["self", "letter", "tests", "deeds"] (fw_Row_init T) := by
  refine fnT T.F_Row_init sc_Row_init (fun ds C Q Qx h => ?_) (fun cdv A outer s H E X ds C Q hr h => ?_)
  · unfold fw_Row_init at h; split at h
    · rfl
    · exact h.elim
  · unfold fw_Row_init at h; split at h
    rotate_left
    · exact h.elim
    have hN := sc_Row_init.nd
    have hu := hu_G hr
    have hg := hr.gd
    rename_i x_self x_letter x_tests x_deeds
    generalize hQx : (fun cls fs C' => ∀ ρ, X.XQ cls fs ρ C' : QX) = Qx at h
    have hX : ∀ ρ cls fs C, Qx cls fs C → X.XQ cls fs ρ C := by subst hQx; exact fun ρ cls fs C h => h ρ
    clear hQx
    revert h; revert C
    show SB X _ [some x_self, some x_letter, some x_tests, some x_deeds, none, none] (w_Row_init T x_self x_letter x_tests x_deeds Qx Q) _
    unfold w_Row_init
    refine sb_if (st_p (sp_or (st_not (st_val (se_callB (id := "isinstance") rfl T.z_isinstance (by decide +kernel) (sa_cons (se_var 1 rfl (pv 1)) (sa_cons (se_ty rfl T.z_str (by decide +kernel)) sa_nil)) pIsI_ok))) (sp_or1 (st_cmp (se_var 1 rfl (pv 1)) (se_glob (d := .tup (cst_LETTERS.map D.str)) (pe_glob (v := .ref T.a_LETTERS) rfl T.g_LETTERS rfl) T.r_LETTERS) oNotIn_ok)))) ?_ ?_
    · exact sb_raise (k := 0) T.x_InvalidRow (hr.mono (by omega)) rfl T.g_InvalidRow se_str (hX _)
    · refine sb_more ?_
      refine sb_if (st_p (sp_or (st_not (st_val (se_call (dds := []) (ok_is_sequence T) (hr.mono (by omega)) rfl T.g_is_sequence T.F_is_sequence.kp T.b_is_sequence .nil (fun _ => Reps.nil) (hX _) (sa_cons (se_var 2 rfl (pv 2)) sa_nil)))) (sp_or1 (st_not (st_val (se_callB (id := "all") rfl T.z_all (by decide +kernel) (sa_cons (se_lc [("test", 4)] (.one 4) rfl hN (blkOk_by rfl) (fun _ _ _ _ _ => pg_name (i := 4) hN rfl (by first | exact .inl rfl | exact .inr rfl)) (by decide) (si_iter (se_var 2 rfl (pv 2))) (bd_one (r := fun x_test => [some x_self, some x_letter, some x_tests, some x_deeds, some x_test, none]) (fun _ => rfl) (fun x_test _ _ _ _ _ => (se_call (dds := []) (ok_is_test T) (hr.mono (by omega)) rfl T.g_is_test T.F_is_test.kp T.b_is_test .nil (fun _ => Reps.nil) (fun _ _ _ h => h.elim) (sa_cons (se_var 4 rfl (pv 4)) (sa_cons (se_var 1 rfl (pv 1)) sa_nil)))))) sa_nil) (pAll_ok rfl))))))) ?_ ?_
      · exact sb_raise (k := 0) T.x_InvalidRow (hr.mono (by omega)) rfl T.g_InvalidRow se_str (hX _)
      · refine sb_more ?_
        refine sb_if (st_p (sp_or (st_not (st_val (se_call (dds := []) (ok_is_sequence T) (hr.mono (by omega)) rfl T.g_is_sequence T.F_is_sequence.kp T.b_is_sequence .nil (fun _ => Reps.nil) (hX _) (sa_cons (se_var 3 rfl (pv 3)) sa_nil)))) (sp_or1 (st_not (st_val (se_callB (id := "all") rfl T.z_all (by decide +kernel) (sa_cons (se_lc [("deed", 5)] (.one 5) rfl hN (blkOk_by rfl) (fun _ _ _ _ _ => pg_name (i := 5) hN rfl (by first | exact .inl rfl | exact .inr rfl)) (by decide) (si_iter (se_var 3 rfl (pv 3))) (bd_one (r := fun x_deed => [some x_self, some x_letter, some x_tests, some x_deeds, none, some x_deed]) (fun _ => rfl) (fun x_deed _ _ _ _ _ => (se_call (dds := []) (ok_is_deed T) (hr.mono (by omega)) rfl T.g_is_deed T.F_is_deed.kp T.b_is_deed .nil (fun _ => Reps.nil) (fun _ _ _ h => h.elim) (sa_cons (se_var 5 rfl (pv 5)) (sa_cons (se_var 1 rfl (pv 1)) sa_nil)))))) sa_nil) (pAll_ok rfl))))))) ?_ ?_
        · exact sb_raise (k := 0) T.x_InvalidRow (hr.mono (by omega)) rfl T.g_InvalidRow se_str (hX _)
        · refine sb_more ?_
          refine sb_fld (se_var 1 rfl (pv 1)) (se_var 0 rfl (pv 0)) ?_
          refine sb_fld (se_callTy (id := "tuple") rfl T.z_tuple (by decide +kernel) (sa_cons (se_var 2 rfl (pv 2)) sa_nil) pTuple_ok) (se_var 0 rfl (pv 0)) ?_
          refine sb_fld (se_callTy (id := "tuple") rfl T.z_tuple (by decide +kernel) (sa_cons (se_var 3 rfl (pv 3)) sa_nil) pTuple_ok) (se_var 0 rfl (pv 0)) ?_
          exact sb_nil (fun _ h => h)
def w_Row_read_j1 (T : Tp P K mg)  (Qx : QX) (Q : QE) (j1 : D) : MB := mRet (eVal j1) Q
def w_Row_read (T : Tp P K mg) (x_cls x_text : D) (Qx : QX) (Q : QE) : MB := mSet (eStr1 (eVal x_text) (eVal (.str " do ")) pPart) fun x_d => mUn3 x_d fun x_head x_mark x_tail => mSet (eStr1 (eVal x_head) (eVal (.str " if ")) pPart) fun x_d1 => mUn3 x_d1 fun x_letter x_sign x_rest => mSet (eIf (tBin (eVal x_sign) (eVal (.str "")) (oNe noOwn)) (eStr1 (eVal x_rest) (eVal (.str " and ")) pSplit) (eArgs aNil pLst)) fun x_tests => mTry K (.ref T.c_InvalidRow) (fun X' => mSet (eArgs (aCons (eVal x_letter) (aCons (eVal x_tests) (aCons (eIf (tBin (eVal x_mark) (eVal (.str "")) (oNe noOwn)) (eStr1 (eVal x_tail) (eVal (.str " then ")) pSplit) (eArgs aNil pLst)) aNil))) fun ds => pMkF (fw_Row_init T) X' T.c_Row (ds ++ [])) fun x_row => w_Row_read_j1 T Qx Q x_row) (fun _ cls => mRaiseF K (eVal (.int 0)) T.c_InvalidText "at" Qx cls) Qx
def fw_Row_read (T : Tp P K mg) : FS := fun ds C Q Qx => match ds with
  | [x_cls, x_text] => w_Row_read T x_cls x_text Qx Q C
  | _ => False
theorem cl_Row_read (T : Tp P K mg) {x_cls x_text : D} {Qx : QX} {C : Cells} {Q : QE} (h : w_Row_read T x_cls x_text Qx Q C) : callW (fw_Row_read T) Qx [x_cls, x_text] C Q := call_all h
theorem ok_Row_read (T : Tp P K mg) : FnG P w K mg base 5 T.f_Row_read T.d_Row_read ["cls", "text"] (fw_Row_read T) := by
  refine fnT T.F_Row_read sc_Row_read (fun ds C Q Qx h => ?_) (fun cdv A outer s H E X ds C Q hr h => ?_)
  · unfold fw_Row_read at h; split at h
    · rfl
    · exact h.elim
  · unfold fw_Row_read at h; split at h
    rotate_left
    · exact h.elim
    have hN := sc_Row_read.nd
    have hu := hu_G hr
    have hg := hr.gd
    rename_i x_cls x_text
    generalize hQx : (fun cls fs C' => ∀ ρ, X.XQ cls fs ρ C' : QX) = Qx at h
    have hX : ∀ ρ cls fs C, Qx cls fs C → X.XQ cls fs ρ C := by subst hQx; exact fun ρ cls fs C h => h ρ
    clear hQx
    revert h; revert C
    show SB X _ [some x_cls, some x_text, none, none, none, none, none, none, none, none, none] (w_Row_read T x_cls x_text Qx Q) _
    unfold w_Row_read
    refine sb_asg (se_partition (se_var 1 rfl (pv 1)) se_str) (fun x_d => ?_)
    refine sg_three (r := fun x_head x_mark x_tail => [some x_cls, some x_text, some x_head, some x_mark, some x_tail, none, none, none, none, none, none]) rfl (fun _ _ _ => (gs_cons 2 (pg_name (i := 2) hN rfl (by first | exact .inl rfl | exact .inr rfl)) (gs_cons 3 (pg_name (i := 3) hN rfl (by first | exact .inl rfl | exact .inr rfl)) (gs_cons 4 (pg_name (i := 4) hN rfl (by first | exact .inl rfl | exact .inr rfl)) gs_nil)))) (fun x_head x_mark x_tail => ?_)
    refine sb_asg (se_partition (se_var 2 rfl (pv 2)) se_str) (fun x_d1 => ?_)
    refine sg_three (r := fun x_letter x_sign x_rest => [some x_cls, some x_text, some x_head, some x_mark, some x_tail, some x_letter, some x_sign, some x_rest, none, none, none]) rfl (fun _ _ _ => (gs_cons 5 (pg_name (i := 5) hN rfl (by first | exact .inl rfl | exact .inr rfl)) (gs_cons 6 (pg_name (i := 6) hN rfl (by first | exact .inl rfl | exact .inr rfl)) (gs_cons 7 (pg_name (i := 7) hN rfl (by first | exact .inl rfl | exact .inr rfl)) gs_nil)))) (fun x_letter x_sign x_rest => ?_)
    refine sb_set (r := fun x_tests => [some x_cls, some x_text, some x_head, some x_mark, some x_tail, some x_letter, some x_sign, some x_rest, some x_tests, none, none]) 8 hN rfl (by first | exact .inl rfl | exact .inr rfl) (fun _ => rfl) (se_if (st_cmp (se_var 6 rfl (pv 6)) se_str (oNe_ok hu noOwn_ok)) (se_split (se_var 7 rfl (pv 7)) se_str) (se_lst sa_nil)) (fun x_tests => ?_)
    refine sb_tryR (k := 0) (α := D) (i := 10) (cv := (.ref T.c_InvalidRow)) (fun j1 => [some x_cls, some x_text, some x_head, some x_mark, some x_tail, some x_letter, some x_sign, some x_rest, some x_tests, some j1, none]) (w_Row_read_j1 T Qx Q) [some x_cls, some x_text, some x_head, some x_mark, some x_tail, some x_letter, some x_sign, some x_rest, some x_tests, none, none] rfl rfl hN rfl rfl ⟨rfl, by decide, .inl T.g_InvalidRow⟩ (fun ρ' cls fs C h => hX _ _ _ _ h) (fun j1 => ?_) (fun j1 d hd => by cases hd) (fun pn xe T' X' hX' W hj1 => ?_) T.x_InvalidText (hr.mono (by omega)) rfl T.g_InvalidText (fun a pl xe T' => se_int) (by show 10 < 11; decide)
    · unfold w_Row_read_j1
      exact sb_ret (se_var 9 rfl (pv 9)) (fun _ _ h => h)
    · refine sb_set (r := fun x_row => [some x_cls, some x_text, some x_head, some x_mark, some x_tail, some x_letter, some x_sign, some x_rest, some x_tests, some x_row, none]) 9 hN rfl (by first | exact .inl rfl | exact .inr rfl) (fun _ => rfl) (se_mkF (se_make (dds := []) T.mk_Row (ok_Row_init T) (hr.mono (by omega)) rfl T.g_Row T.b_Row_init .nil (fun _ => Reps.nil) (fun _ _ _ h => hX' _ (by walk_at "le") _ _ _ h) (sa_cons (se_var 5 rfl (pv 5)) (sa_cons (se_var 8 rfl (pv 8)) (sa_cons (se_if (st_cmp (se_var 3 rfl (pv 3)) se_str (oNe_ok hu noOwn_ok)) (se_split (se_var 4 rfl (pv 4)) se_str) (se_lst sa_nil)) sa_nil))))) (fun x_row => ?_)
      exact sb_le hj1 (by walk_at "le")
def w_Page_read_a2 (T : Tp P K mg) (x_rows : D) (Qx : QX) (Q : QE) (s1 : Unit) : MB := mFrz x_rows fun x_rows1 => mRet (eDrop (eArgs (aCons (eVal x_rows1) aNil) fun ds => pMkF (fw_Page_init T) Qx T.c_Page (ds ++ []))) Q
def w_Page_read_j3 (T : Tp P K mg) (x_rows : D) (nx1 : (Unit) → MB) (Qx : QX) (Q : QE) (j3 : D) : MB := mExp (eL1 (eVal x_rows) (eVal j3) pApp) (mPart (nx1 ()))
def w_Page_read_l1 (T : Tp P K mg) (x_rows : D) (Qx : QX) (Q : QE) (d1 : D) (s1 : Unit) (nx1 : (Unit) → MB) (bk1 : (Unit) → MB) : MB := mUn2 d1 fun x_at x_line => mTry K (.ref T.c_InvalidText) (fun X' => mSet (eArgs (aCons (eVal x_line) aNil) fun ds => callW (fw_Row_read T) X' (.raw (.ref T.c_Row) :: (ds ++ []))) fun x_row => w_Page_read_j3 T x_rows nx1 Qx Q x_row) (fun _ cls => mRaiseF K (eVal x_at) T.c_InvalidText "at" Qx cls) Qx
def w_Page_read (T : Tp P K mg) (x_cls x_text : D) (Qx : QX) (Q : QE) : MB := mSet (eArgs aNil pLstC) fun x_rows => mFor (α := Unit) (iApp (eIf (tBin (eVal x_text) (eVal (.str "")) (oNe noOwn)) (eStr1 (eVal x_text) (eVal (.str "\n")) pSplit) (eArgs aNil pLst)) pEnum) (w_Page_read_l1 T x_rows Qx Q) () (w_Page_read_a2 T x_rows Qx Q)
def fw_Page_read (T : Tp P K mg) : FS := fun ds C Q Qx => match ds with
  | [x_cls, x_text] => w_Page_read T x_cls x_text Qx Q C
  | _ => False
theorem ok_Page_read (T : Tp P K mg) : FnG P w K mg base 6 T.f_Page_read T.d_Page_read ["cls", "text"] (fw_Page_read T) := by
  refine fnT T.F_Page_read sc_Page_read (fun ds C Q Qx h => ?_) (fun cdv A outer s H E X ds C Q hr h => ?_)
  · unfold fw_Page_read at h; split at h
    · rfl
    · exact h.elim
  · unfold fw_Page_read at h; split at h
    rotate_left
    · exact h.elim
    have hN := sc_Page_read.nd
    have hu := hu_G hr
    have hg := hr.gd
    rename_i x_cls x_text
    generalize hQx : (fun cls fs C' => ∀ ρ, X.XQ cls fs ρ C' : QX) = Qx at h
    have hX : ∀ ρ cls fs C, Qx cls fs C → X.XQ cls fs ρ C := by subst hQx; exact fun ρ cls fs C h => h ρ
    clear hQx
    revert h; revert C
    show SB X _ [some x_cls, some x_text, none, none, none, none, none] (w_Page_read T x_cls x_text Qx Q) _
    unfold w_Page_read
    refine sb_set (r := fun x_rows => [some x_cls, some x_text, some x_rows, none, none, none, none]) 2 hN rfl (by first | exact .inl rfl | exact .inr rfl) (fun _ => rfl) (se_lstC sa_nil) (fun x_rows => ?_)
    refine sb_for (α := Unit) (fun s1 => [some x_cls, some x_text, some x_rows, none, none, none, none]) rfl (si_enum rfl T.z_enumerate (se_if (st_cmp (se_var 1 rfl (pv 1)) se_str (oNe_ok hu noOwn_ok)) (se_split (se_var 1 rfl (pv 1)) se_str) (se_lst sa_nil))) (by walk_at "le") (fun d1 s1 nx1 bk1 W V hW1 hV1 => ?_) (fun s1 => ?_)
    · unfold w_Page_read_l1
      refine sg_two (r := fun x_at x_line => [some x_cls, some x_text, some x_rows, some x_at, some x_line, none, none]) rfl (fun _ _ => (gs_cons 3 (pg_name (i := 3) hN rfl (by first | exact .inl rfl | exact .inr rfl)) (gs_cons 4 (pg_name (i := 4) hN rfl (by first | exact .inl rfl | exact .inr rfl)) gs_nil))) (fun x_at x_line => ?_)
      refine sb_tryR (k := 0) (α := D) (i := 6) (cv := (.ref T.c_InvalidText)) (fun j3 => [some x_cls, some x_text, some x_rows, some x_at, some x_line, some j3, none]) (w_Page_read_j3 T x_rows nx1 Qx Q) [some x_cls, some x_text, some x_rows, some x_at, some x_line, none, none] rfl rfl hN rfl rfl ⟨rfl, by decide, .inl T.g_InvalidText⟩ (fun ρ' cls fs C h => hX _ _ _ _ h) (fun j3 => ?_) (fun j3 d hd => by cases hd) (fun pn xe T' X' hX' W hj3 => ?_) T.x_InvalidText (hr.mono (by omega)) rfl T.g_InvalidText (fun a pl xe T' => (se_var 3 rfl (pv 3))) (by show 6 < 7; decide)
      · unfold w_Page_read_j3
        refine sb_exp (se_append (se_var 2 rfl (pv 2)) (se_var 5 rfl (pv 5))) ?_
        refine sb_part ?_
        exact sb_le hW1 (by walk_at "le")
      · refine sb_set (r := fun x_row => [some x_cls, some x_text, some x_rows, some x_at, some x_line, some x_row, none]) 5 hN rfl (by first | exact .inl rfl | exact .inr rfl) (fun _ => rfl) (se_cmeth (dds := []) T.m_Row_read (ok_Row_read T) (hr.mono (by omega)) T.b_Row_read .nil (fun _ => Reps.nil) (fun _ _ _ h => hX' _ (by walk_at "le") _ _ _ h) (se_glob (d := .raw (.ref T.c_Row)) (pe_glob (v := .ref T.c_Row) rfl T.g_Row rfl) (fun _ => rfl)) (sa_cons (se_var 4 rfl (pv 4)) sa_nil)) (fun x_row => ?_)
        exact sb_le hj3 (by walk_at "le")
    · unfold w_Page_read_a2
      refine sb_frz (r := fun x_rows1 => [some x_cls, some x_text, some x_rows1, none, none, none, none]) 2 rfl (fun _ => rfl) (fun x_rows1 => ?_)
      exact sb_ret (se_drop (se_mkF (se_make (dds := []) T.mk_Page (ok_Page_init T) (hr.mono (by omega)) rfl T.g_Page T.b_Page_init .nil (fun _ => Reps.nil) (hX _) (sa_cons (se_var 2 rfl (pv 2)) sa_nil)))) (fun _ _ h => h)
def w_Row_str (T : Tp P K mg) (x_self : D) (Qx : QX) (Q : QE) : MB := mSet (eIf (tBin (eArgs (aCons (eApp (eVal x_self) (pFld K "tests")) aNil) (on1 (pLen1 no1))) (eVal (.int 0)) oGt) (eJoin (jCons (eVal (.str " if ")) (jCons (eApp (eStr1 (eVal (.str " and ")) (eApp (eVal x_self) (pFld K "tests")) pJoin) pFmt) jNil))) (eVal (.str ""))) fun x_tests => mSet (eIf (tBin (eArgs (aCons (eApp (eVal x_self) (pFld K "deeds")) aNil) (on1 (pLen1 no1))) (eVal (.int 0)) oGt) (eJoin (jCons (eVal (.str " do ")) (jCons (eApp (eStr1 (eVal (.str " then ")) (eApp (eVal x_self) (pFld K "deeds")) pJoin) pFmt) jNil))) (eVal (.str ""))) fun x_deeds => mRet (eJoin (jCons (eApp (eApp (eVal x_self) (pFld K "letter")) pFmt) (jCons (eApp (eVal x_tests) pFmt) (jCons (eApp (eVal x_deeds) pFmt) jNil)))) Q
def fw_Row_str (T : Tp P K mg) : FS := fun ds C Q Qx => match ds with
  | [x_self] => w_Row_str T x_self Qx Q C
  | _ => False
theorem ok_Row_str (T : Tp P K mg) : FnG P w K mg base 1 T.f_Row_str T.d_Row_str ["self"] (fw_Row_str T) := by
  refine fnT T.F_Row_str sc_Row_str (fun ds C Q Qx h => ?_) (fun cdv A outer s H E X ds C Q hr h => ?_)
  · unfold fw_Row_str at h; split at h
    · rfl
    · exact h.elim
  · unfold fw_Row_str at h; split at h
    rotate_left
    · exact h.elim
    have hN := sc_Row_str.nd
    have hu := hu_G hr
    have hg := hr.gd
    rename_i x_self
    generalize hQx : (fun cls fs C' => ∀ ρ, X.XQ cls fs ρ C' : QX) = Qx at h
    have hX : ∀ ρ cls fs C, Qx cls fs C → X.XQ cls fs ρ C := by subst hQx; exact fun ρ cls fs C h => h ρ
    clear hQx
    revert h; revert C
    show SB X _ [some x_self, none, none] (w_Row_str T x_self Qx Q) _
    unfold w_Row_str
    refine sb_set (r := fun x_tests => [some x_self, some x_tests, none]) 1 hN rfl (by first | exact .inl rfl | exact .inr rfl) (fun _ => rfl) (se_if (st_cmp (se_callB (id := "len") rfl T.z_len (by decide +kernel) (sa_cons (se_fld (se_var 0 rfl (pv 0))) sa_nil) (pLen_ok no1_ok)) se_int oGt_ok) (se_joined (sj_cons se_str (sj_cons (se_fmt (se_join se_str (se_fld (se_var 0 rfl (pv 0))))) sj_nil))) se_str) (fun x_tests => ?_)
    refine sb_set (r := fun x_deeds => [some x_self, some x_tests, some x_deeds]) 2 hN rfl (by first | exact .inl rfl | exact .inr rfl) (fun _ => rfl) (se_if (st_cmp (se_callB (id := "len") rfl T.z_len (by decide +kernel) (sa_cons (se_fld (se_var 0 rfl (pv 0))) sa_nil) (pLen_ok no1_ok)) se_int oGt_ok) (se_joined (sj_cons se_str (sj_cons (se_fmt (se_join se_str (se_fld (se_var 0 rfl (pv 0))))) sj_nil))) se_str) (fun x_deeds => ?_)
    exact sb_ret (se_joined (sj_cons (se_fmt (se_fld (se_var 0 rfl (pv 0)))) (sj_cons (se_fmt (se_var 1 rfl (pv 1))) (sj_cons (se_fmt (se_var 2 rfl (pv 2))) sj_nil)))) (fun _ _ h => h)
def w_Page_str (T : Tp P K mg) (x_self : D) (Qx : QX) (Q : QE) : MB := mRet (eStr1 (eVal (.str "\n")) (eLc (iApp (eApp (eVal x_self) (pFld K "rows")) pIter) (fun x_row => (eArgs (aCons (eVal x_row) aNil) (on1 (pStr1 (ownStr T.c_Row (fw_Row_str T))))))) pJoin) Q
def fw_Page_str (T : Tp P K mg) : FS := fun ds C Q Qx => match ds with
  | [x_self] => w_Page_str T x_self Qx Q C
  | _ => False
theorem ok_Page_str (T : Tp P K mg) : FnG P w K mg base 4 T.f_Page_str T.d_Page_str ["self"] (fw_Page_str T) := by
  refine fnT T.F_Page_str sc_Page_str (fun ds C Q Qx h => ?_) (fun cdv A outer s H E X ds C Q hr h => ?_)
  · unfold fw_Page_str at h; split at h
    · rfl
    · exact h.elim
  · unfold fw_Page_str at h; split at h
    rotate_left
    · exact h.elim
    have hN := sc_Page_str.nd
    have hu := hu_G hr
    have hg := hr.gd
    rename_i x_self
    generalize hQx : (fun cls fs C' => ∀ ρ, X.XQ cls fs ρ C' : QX) = Qx at h
    have hX : ∀ ρ cls fs C, Qx cls fs C → X.XQ cls fs ρ C := by subst hQx; exact fun ρ cls fs C h => h ρ
    clear hQx
    revert h; revert C
    show SB X _ [some x_self, none] (w_Page_str T x_self Qx Q) _
    unfold w_Page_str
    exact sb_ret (se_join se_str (se_lc [("row", 1)] (.one 1) rfl hN (blkOk_by rfl) (fun _ _ _ _ _ => pg_name (i := 1) hN rfl (by first | exact .inl rfl | exact .inr rfl)) (by decide) (si_iter (se_fld (se_var 0 rfl (pv 0)))) (bd_one (r := fun x_row => [some x_self, some x_row]) (fun _ => rfl) (fun x_row _ _ _ _ _ => (se_callTy (id := "str") rfl T.z_str (by decide +kernel) (sa_cons (se_var 1 rfl (pv 1)) sa_nil) (pStr_ok (ownStr_ok T.m_Row_str T.n_Row_str (ok_Row_str T) (hr.mono (by omega)) T.b_Row_str))))))) (fun _ _ h => h)
def w_Page_eq (T : Tp P K mg) (x_self x_other : D) (Qx : QX) (Q : QE) : MB := mRet (eAnd (eArgs (aCons (eVal x_other) (aCons (eVal (.raw (.ref T.c_Page))) aNil)) (on2 (pIsI K))) (eBin (eArgs (aCons (eVal x_self) aNil) (on1 (pStr1 (ownStr T.c_Page (fw_Page_str T))))) (eArgs (aCons (eVal x_other) aNil) (on1 (pStr1 (ownStr T.c_Page (fw_Page_str T))))) (oEq noOwn))) Q
def fw_Page_eq (T : Tp P K mg) : FS := fun ds C Q Qx => match ds with
  | [x_self, x_other] => w_Page_eq T x_self x_other Qx Q C
  | _ => False
theorem ok_Page_eq (T : Tp P K mg) : FnG P w K mg base 7 T.f_Page_eq T.d_Page_eq ["self", "other"] (fw_Page_eq T) := by
  refine fnT T.F_Page_eq sc_Page_eq (fun ds C Q Qx h => ?_) (fun cdv A outer s H E X ds C Q hr h => ?_)
  · unfold fw_Page_eq at h; split at h
    · rfl
    · exact h.elim
  · unfold fw_Page_eq at h; split at h
    rotate_left
    · exact h.elim
    have hN := sc_Page_eq.nd
    have hu := hu_G hr
    have hg := hr.gd
    rename_i x_self x_other
    generalize hQx : (fun cls fs C' => ∀ ρ, X.XQ cls fs ρ C' : QX) = Qx at h
    have hX : ∀ ρ cls fs C, Qx cls fs C → X.XQ cls fs ρ C := by subst hQx; exact fun ρ cls fs C h => h ρ
    clear hQx
    revert h; revert C
    show SB X _ [some x_self, some x_other] (w_Page_eq T x_self x_other Qx Q) _
    unfold w_Page_eq
    exact sb_ret (se_and (se_callB (id := "isinstance") rfl T.z_isinstance (by decide +kernel) (sa_cons (se_var 1 rfl (pv 1)) (sa_cons (se_glob (d := .raw (.ref T.c_Page)) (pe_glob (v := .ref T.c_Page) rfl T.g_Page rfl) (fun _ => rfl)) sa_nil)) pIsI_ok) (se_one (se_cmp (se_callTy (id := "str") rfl T.z_str (by decide +kernel) (sa_cons (se_var 0 rfl (pv 0)) sa_nil) (pStr_ok (ownStr_ok T.m_Page_str T.n_Page_str (ok_Page_str T) (hr.mono (by omega)) T.b_Page_str))) (se_callTy (id := "str") rfl T.z_str (by decide +kernel) (sa_cons (se_var 1 rfl (pv 1)) sa_nil) (pStr_ok (ownStr_ok T.m_Page_str T.n_Page_str (ok_Page_str T) (hr.mono (by omega)) T.b_Page_str))) (oEq_ok hu noOwn_ok)))) (fun _ _ h => h)
def w__law_heard_j1 (T : Tp P K mg)  (Qx : QX) (Q : QE) (j1 : D) : MB := mRet (eVal j1) Q
def w__law_heard (T : Tp P K mg) (x_text : D) (Qx : QX) (Q : QE) : MB := mSet (eVal (.str "other")) fun x_found => mTry K (.ref T.c_InvalidText) (fun X' => mSet (eArgs (aCons (eArgs (aCons (eVal x_text) aNil) fun ds => callW (fw_Page_read T) X' (.raw (.ref T.c_Page) :: (ds ++ []))) aNil) (on1 (pStr1 (ownStr T.c_Page (fw_Page_str T))))) fun x_found1 => w__law_heard_j1 T Qx Q x_found1) (fun fs cls => mPart (mSet (eArgs (aCons (eVal (.str "text")) (aCons (eXf K "at" cls fs) (aCons (eIsX K cls (eVal (.raw (.ref T.c_HastyError)))) aNil))) pTup) fun x_found2 => w__law_heard_j1 T Qx Q x_found2)) Qx
def fw__law_heard (T : Tp P K mg) : FS := fun ds C Q Qx => match ds with
  | [x_text] => w__law_heard T x_text Qx Q C
  | _ => False
theorem cl__law_heard (T : Tp P K mg) {x_text : D} {Qx : QX} {C : Cells} {Q : QE} (h : w__law_heard T x_text Qx Q C) : callW (fw__law_heard T) Qx [x_text] C Q := call_all h
theorem ok__law_heard (T : Tp P K mg) : FnG P w K mg base 7 T.f__law_heard T.d__law_heard ["_law_text"] (fw__law_heard T) := by
  refine fnT T.F__law_heard sc__law_heard (fun ds C Q Qx h => ?_) (fun cdv A outer s H E X ds C Q hr h => ?_)
  · unfold fw__law_heard at h; split at h
    · rfl
    · exact h.elim
  · unfold fw__law_heard at h; split at h
    rotate_left
    · exact h.elim
    have hN := sc__law_heard.nd
    have hu := hu_G hr
    have hg := hr.gd
    rename_i x_text
    generalize hQx : (fun cls fs C' => ∀ ρ, X.XQ cls fs ρ C' : QX) = Qx at h
    have hX : ∀ ρ cls fs C, Qx cls fs C → X.XQ cls fs ρ C := by subst hQx; exact fun ρ cls fs C h => h ρ
    clear hQx
    revert h; revert C
    show SB X _ [some x_text, none, none] (w__law_heard T x_text Qx Q) _
    unfold w__law_heard
    refine sb_set (r := fun x_found => [some x_text, some x_found, none]) 1 hN rfl (by first | exact .inl rfl | exact .inr rfl) (fun _ => rfl) se_str (fun x_found => ?_)
    refine sb_try (α := D) (i := 2) (cv := (.ref T.c_InvalidText)) (fun j1 => [some x_text, some j1, none]) (w__law_heard_j1 T Qx Q) [some x_text, some x_found, none] rfl rfl hN rfl rfl ⟨rfl, by decide, .inl T.g_InvalidText⟩ (fun ρ' cls fs C h => hX _ _ _ _ h) (fun j1 => ?_) (fun j1 d hd => by cases hd) (fun pn xe T' X' hX' W hj1 => ?_) (fun cls fs a oe dd pn T' hz hfl hA W V B hj1 => ?_)
    · unfold w__law_heard_j1
      exact sb_ret (se_var 1 rfl (pv 1)) (fun _ _ h => h)
    · refine sb_set (r := fun x_found1 => [some x_text, some x_found1, none]) 1 hN rfl (by first | exact .inl rfl | exact .inr rfl) (fun _ => rfl) (se_callTy (id := "str") rfl T.z_str (by decide +kernel) (sa_cons (se_cmeth (dds := []) T.m_Page_read (ok_Page_read T) (hr.mono (by omega)) T.b_Page_read .nil (fun _ => Reps.nil) (fun _ _ _ h => hX' _ (by walk_at "le") _ _ _ h) (se_glob (d := .raw (.ref T.c_Page)) (pe_glob (v := .ref T.c_Page) rfl T.g_Page rfl) (fun _ => rfl)) (sa_cons (se_var 0 rfl (pv 0)) sa_nil)) sa_nil) (pStr_ok (ownStr_ok T.m_Page_str T.n_Page_str (ok_Page_str T) (hr.mono (by omega)) T.b_Page_str))) (fun x_found1 => ?_)
      exact sb_le hj1 (by walk_at "le")
    · refine sb_part ?_
      refine sb_set (r := fun x_found2 => [some x_text, some x_found2, some ((.raw (.ref a)))]) 1 hN rfl (by first | exact .inl rfl | exact .inr rfl) (fun _ => rfl) (se_tup (sa_cons se_str (sa_cons (se_xf hz hfl hA (se_var 2 rfl (pv 2))) (sa_cons (se_isX hz hfl hA rfl T.z_isinstance (se_var 2 rfl (pv 2)) (se_glob (d := .raw (.ref T.c_HastyError)) (pe_glob (v := .ref T.c_HastyError) rfl T.g_HastyError rfl) (fun _ => rfl))) sa_nil)))) (fun x_found2 => ?_)
      exact sb_le hj1 (by walk_at "le")
def w__law_draw_t1 (T : Tp P K mg) (x_deal_here : D) (Qx : QX) (Q : QE) (s1 : Unit) : MT := (tAnd (tBin (eBin (eVal x_deal_here) (eVal (.int 0)) pIx) (eArgs aNil pLst) (oNe noOwn)) (tBin (eBin (eBin (eVal x_deal_here) (eVal (.int 0)) pIx) (eApp (eVal (.int 1)) pNeg) pIx) (eVal (.int 0)) (oEq noOwn)))
def w__law_draw_a3 (T : Tp P K mg) (x_deal_here : D) (x_amount : D) (Qx : QX) (Q : QE) (s1 : Unit) : MB := mIf (tBin (eBin (eVal x_deal_here) (eVal (.int 0)) pIx) (eArgs aNil pLst) (oNe noOwn)) (mSet (eApp (eBin (eVal x_deal_here) (eVal (.int 0)) pIx) pPop) fun x_left => mExp (eL1 (eBin (eVal x_deal_here) (eVal (.int 0)) pIx) (eBin (eVal x_left) (eVal x_amount) oFdiv) pApp) (mRet (eBin (eArgs (aCons (eVal x_left) aNil) (on1 pInt1)) (eVal x_amount) oMod) Q)) (mSet (eBin (eArgs (aCons (eBin (eBin (eBin (eVal x_deal_here) (eVal (.int 1)) pIx) (eVal (.int 48271)) oMul) (eVal (.int 11)) oAdd) aNil) (on1 pInt1)) (eVal (.int 2147483647)) oMod) fun x_d => mSub (eVal x_deal_here) (eVal (.int 1)) x_d (mRet (eBin (eArgs (aCons (eBin (eBin (eVal x_deal_here) (eVal (.int 1)) pIx) (eVal (.int 8)) oFdiv) aNil) (on1 pInt1)) (eVal x_amount) oMod) Q))
def w__law_draw_l2 (T : Tp P K mg) (x_deal_here : D) (Qx : QX) (Q : QE) (s1 : Unit) (nx1 : (Unit) → MB) (bk1 : (Unit) → MB) : MB := mExp (eApp (eBin (eVal x_deal_here) (eVal (.int 0)) pIx) pPop) (mPart (nx1 ()))
def w__law_draw (T : Tp P K mg) (x_deal_here x_amount : D) (Qx : QX) (Q : QE) : MB := mWhile (α := Unit) (w__law_draw_t1 T x_deal_here Qx Q) (w__law_draw_l2 T x_deal_here Qx Q) () (w__law_draw_a3 T x_deal_here x_amount Qx Q)
def fw__law_draw (T : Tp P K mg) : FS := fun ds C Q Qx => match ds with
  | [x_deal_here, x_amount] => w__law_draw T x_deal_here x_amount Qx Q C
  | _ => False
theorem ok__law_draw (T : Tp P K mg) : FnG P w K mg base 1 T.f__law_draw T.d__law_draw ["_law_deal_here", "_law_amount"] (fw__law_draw T) := by
  refine fnT T.F__law_draw sc__law_draw (fun ds C Q Qx h => ?_) (fun cdv A outer s H E X ds C Q hr h => ?_)
  · unfold fw__law_draw at h; split at h
    · rfl
    · exact h.elim
  · unfold fw__law_draw at h; split at h
    rotate_left
    · exact h.elim
    have hN := sc__law_draw.nd
    have hu := hu_G hr
    have hg := hr.gd
    rename_i x_deal_here x_amount
    generalize hQx : (fun cls fs C' => ∀ ρ, X.XQ cls fs ρ C' : QX) = Qx at h
    have hX : ∀ ρ cls fs C, Qx cls fs C → X.XQ cls fs ρ C := by subst hQx; exact fun ρ cls fs C h => h ρ
    clear hQx
    revert h; revert C
    show SB X _ [some x_deal_here, some x_amount, none] (w__law_draw T x_deal_here x_amount Qx Q) _
    unfold w__law_draw
    refine sb_while (α := Unit) (fun s1 => [some x_deal_here, some x_amount, none]) (by walk_at "le") (fun s1 => ?_) (fun s1 nx1 bk1 W V hW1 hV1 => ?_) (fun s1 => ?_)
    · unfold w__law_draw_t1
      exact (st_p (sp_and (st_cmp (se_ix (se_var 0 rfl (pv 0)) se_int) (se_lst sa_nil) (oNe_ok hu noOwn_ok)) (sp_and1 (st_cmp (se_ix (se_ix (se_var 0 rfl (pv 0)) se_int) (se_neg se_int)) se_int (oEq_ok hu noOwn_ok)))))
    · unfold w__law_draw_l2
      refine sb_exp (se_pop (se_ix (se_var 0 rfl (pv 0)) se_int)) ?_
      refine sb_part ?_
      exact sb_le hW1 (by walk_at "le")
    · unfold w__law_draw_a3
      refine sb_if (st_cmp (se_ix (se_var 0 rfl (pv 0)) se_int) (se_lst sa_nil) (oNe_ok hu noOwn_ok)) ?_ ?_
      · refine sb_set (r := fun x_left => [some x_deal_here, some x_amount, some x_left]) 2 hN rfl (by first | exact .inl rfl | exact .inr rfl) (fun _ => rfl) (se_pop (se_ix (se_var 0 rfl (pv 0)) se_int)) (fun x_left => ?_)
        refine sb_exp (se_append (se_ix (se_var 0 rfl (pv 0)) se_int) (se_bin (se_var 2 rfl (pv 2)) (se_var 1 rfl (pv 1)) oFdiv_ok)) ?_
        exact sb_ret (se_bin (se_callTy (id := "int") rfl T.z_int (by decide +kernel) (sa_cons (se_var 2 rfl (pv 2)) sa_nil) pInt_ok) (se_var 1 rfl (pv 1)) oMod_ok) (fun _ _ h => h)
      · refine sb_more ?_
        refine sb_asg (se_bin (se_callTy (id := "int") rfl T.z_int (by decide +kernel) (sa_cons (se_bin (se_bin (se_ix (se_var 0 rfl (pv 0)) se_int) se_int oMul_ok) se_int oAdd_ok) sa_nil) pInt_ok) se_int oMod_ok) (fun x_d => ?_)
        refine sg_sub (se_var 0 rfl (pv 0)) se_int ?_
        exact sb_ret (se_bin (se_callTy (id := "int") rfl T.z_int (by decide +kernel) (sa_cons (se_bin (se_ix (se_var 0 rfl (pv 0)) se_int) se_int oFdiv_ok) sa_nil) pInt_ok) (se_var 1 rfl (pv 1)) oMod_ok) (fun _ _ h => h)
def w__law_row_text_j2 (T : Tp P K mg) (x_words : D) (Qx : QX) (Q : QE) (j2 : Unit) : MB := mRet (eDrop (eStr1 (eVal (.str " ")) (eVal x_words) pJoin)) Q
def w__law_row_text_j1 (T : Tp P K mg) (x_deeds : D) (x_words : D) (Qx : QX) (Q : QE) (j1 : Unit) : MB := mIf (tBin (eVal x_deeds) (eArgs aNil pLst) (oNe noOwn)) (mExp (eL1 (eVal x_words) (eBin (eVal (.str "do ")) (eStr1 (eVal (.str " then ")) (eVal x_deeds) pJoin) oAdd) pApp) (w__law_row_text_j2 T x_words Qx Q ())) (w__law_row_text_j2 T x_words Qx Q ())
def w__law_row_text (T : Tp P K mg) (x_row_here : D) (Qx : QX) (Q : QE) : MB := mSet (eVal x_row_here) fun x_d => mUn3 x_d fun x_letter x_tests x_deeds => mSet (eArgs (aCons (eVal x_letter) aNil) pLstC) fun x_words => mIf (tBin (eVal x_tests) (eArgs aNil pLst) (oNe noOwn)) (mExp (eL1 (eVal x_words) (eBin (eVal (.str "if ")) (eStr1 (eVal (.str " and ")) (eVal x_tests) pJoin) oAdd) pApp) (w__law_row_text_j1 T x_deeds x_words Qx Q ())) (w__law_row_text_j1 T x_deeds x_words Qx Q ())
def fw__law_row_text (T : Tp P K mg) : FS := fun ds C Q Qx => match ds with
  | [x_row_here] => w__law_row_text T x_row_here Qx Q C
  | _ => False
theorem cl__law_row_text (T : Tp P K mg) {x_row_here : D} {Qx : QX} {C : Cells} {Q : QE} (h : w__law_row_text T x_row_here Qx Q C) : callW (fw__law_row_text T) Qx [x_row_here] C Q := call_all h
theorem ok__law_row_text (T : Tp P K mg) : FnG P w K mg base 1 T.f__law_row_text T.d__law_row_text ["_law_row_here"] (fw__law_row_text T) := by
  refine fnT T.F__law_row_text sc__law_row_text (fun ds C Q Qx h => ?_) (fun cdv A outer s H E X ds C Q hr h => ?_)
  · unfold fw__law_row_text at h; split at h
    · rfl
    · exact h.elim
  · unfold fw__law_row_text at h; split at h
    rotate_left
    · exact h.elim
    have hN := sc__law_row_text.nd
    have hu := hu_G hr
    have hg := hr.gd
    rename_i x_row_here
    generalize hQx : (fun cls fs C' => ∀ ρ, X.XQ cls fs ρ C' : QX) = Qx at h
    have hX : ∀ ρ cls fs C, Qx cls fs C → X.XQ cls fs ρ C := by subst hQx; exact fun ρ cls fs C h => h ρ
    clear hQx
    revert h; revert C
    show SB X _ [some x_row_here, none, none, none, none] (w__law_row_text T x_row_here Qx Q) _
    unfold w__law_row_text
    refine sb_asg (se_var 0 rfl (pv 0)) (fun x_d => ?_)
    refine sg_three (r := fun x_letter x_tests x_deeds => [some x_row_here, some x_letter, some x_tests, some x_deeds, none]) rfl (fun _ _ _ => (gs_cons 1 (pg_name (i := 1) hN rfl (by first | exact .inl rfl | exact .inr rfl)) (gs_cons 2 (pg_name (i := 2) hN rfl (by first | exact .inl rfl | exact .inr rfl)) (gs_cons 3 (pg_name (i := 3) hN rfl (by first | exact .inl rfl | exact .inr rfl)) gs_nil)))) (fun x_letter x_tests x_deeds => ?_)
    refine sb_set (r := fun x_words => [some x_row_here, some x_letter, some x_tests, some x_deeds, some x_words]) 4 hN rfl (by first | exact .inl rfl | exact .inr rfl) (fun _ => rfl) (se_lstC (sa_cons (se_var 1 rfl (pv 1)) sa_nil)) (fun x_words => ?_)
    refine sb_ifJ (α := Unit) (fun j1 => [some x_row_here, some x_letter, some x_tests, some x_deeds, some x_words]) (w__law_row_text_j1 T x_deeds x_words Qx Q) (st_cmp (se_var 2 rfl (pv 2)) (se_lst sa_nil) (oNe_ok hu noOwn_ok)) (fun j1 => ?_) (fun W hj1 => ?_) (fun W hj1 => ?_)
    · unfold w__law_row_text_j1
      refine sb_ifJ (α := Unit) (fun j2 => [some x_row_here, some x_letter, some x_tests, some x_deeds, some x_words]) (w__law_row_text_j2 T x_words Qx Q) (st_cmp (se_var 3 rfl (pv 3)) (se_lst sa_nil) (oNe_ok hu noOwn_ok)) (fun j2 => ?_) (fun W hj2 => ?_) (fun W hj2 => ?_)
      · unfold w__law_row_text_j2
        exact sb_ret (se_drop (se_join se_str (se_var 4 rfl (pv 4)))) (fun _ _ h => h)
      · refine sb_exp (se_append (se_var 4 rfl (pv 4)) (se_bin se_str (se_join se_str (se_var 3 rfl (pv 3))) oAdd_ok)) ?_
        exact sb_le hj2 (by walk_at "le")
      · exact sb_le hj2 (by walk_at "le")
    · refine sb_exp (se_append (se_var 4 rfl (pv 4)) (se_bin se_str (se_join se_str (se_var 2 rfl (pv 2))) oAdd_ok)) ?_
      exact sb_le hj1 (by walk_at "le")
    · exact sb_le hj1 (by walk_at "le")
def w__law_row_j1 (T : Tp P K mg) (x_deal_here : D) (x_letter : D) (Qx : QX) (Q : QE) (j1 : D × D) : MB := mSet (eLc (iApp (eArgs (aCons (eVal x_deal_here) (aCons (eVal (.int 5)) aNil)) fun ds => callW (fw__law_draw T) Qx (ds ++ [])) pRange1) (fun x_turn => (eBin (eVal j1.1) (eArgs (aCons (eVal x_deal_here) (aCons (eArgs (aCons (eVal j1.1) aNil) (on1 (pLen1 no1))) aNil)) fun ds => callW (fw__law_draw T) (fun _ _ _ => False) (ds ++ [])) pIx))) fun x_some => mSet (eLc (iApp (eVal x_some) pIter) (fun x_test => (eIf (tBin (eArgs (aCons (eVal x_deal_here) (aCons (eVal (.int 3)) aNil)) fun ds => callW (fw__law_draw T) (fun _ _ _ => False) (ds ++ [])) (eVal (.int 0)) (oEq noOwn)) (eBin (eVal (.str "not ")) (eVal x_test) oAdd) (eVal x_test)))) fun x_some1 => mRet (eArgs (aCons (eVal x_letter) (aCons (eVal x_some1) (aCons (eLc (iApp (eArgs (aCons (eVal x_deal_here) (aCons (eVal (.int 5)) aNil)) fun ds => callW (fw__law_draw T) Qx (ds ++ [])) pRange1) (fun x_turn1 => (eBin (eVal j1.2) (eArgs (aCons (eVal x_deal_here) (aCons (eArgs (aCons (eVal j1.2) aNil) (on1 (pLen1 no1))) aNil)) fun ds => callW (fw__law_draw T) (fun _ _ _ => False) (ds ++ [])) pIx))) aNil))) pTup) Q
def w__law_row (T : Tp P K mg) (x_deal_here : D) (Qx : QX) (Q : QE) : MB := mSet (eBin (eArgs (aCons (eVal (.str "yes")) (aCons (eVal (.str "no")) (aCons (eVal (.str "list")) aNil))) pLst) (eArgs (aCons (eVal x_deal_here) (aCons (eVal (.int 3)) aNil)) fun ds => callW (fw__law_draw T) Qx (ds ++ [])) pIx) fun x_letter => mSet (eArgs (aCons (eArgs (aCons (eVal (.str "old")) (aCons (eVal (.str "all")) (aCons (eVal (.str "open")) (aCons (eVal (.str "same")) aNil)))) pLst) (aCons (eArgs (aCons (eVal (.str "take")) (aCons (eVal (.str "sweep")) (aCons (eVal (.str "clear")) aNil))) pLst) aNil)) pTup) fun x_d => mUn2 x_d fun x_tests x_deeds => mIf (tBin (eVal x_letter) (eVal (.str "list")) (oNe noOwn)) (mSet (eArgs (aCons (eBin (eVal x_tests) (eArgs (aCons (eVal (.str "first")) (aCons (eVal (.str "gone")) aNil)) pLst) oAdd) (aCons (eBin (eVal x_deeds) (eArgs (aCons (eVal (.str "do")) (aCons (eVal (.str "drop")) aNil)) pLst) oAdd) aNil)) pTup) fun x_d1 => mUn2 x_d1 fun x_tests1 x_deeds1 => w__law_row_j1 T x_deal_here x_letter Qx Q (x_tests1, x_deeds1)) (w__law_row_j1 T x_deal_here x_letter Qx Q (x_tests, x_deeds))
def fw__law_row (T : Tp P K mg) : FS := fun ds C Q Qx => match ds with
  | [x_deal_here] => w__law_row T x_deal_here Qx Q C
  | _ => False
theorem ok__law_row (T : Tp P K mg) : FnG P w K mg base 2 T.f__law_row T.d__law_row ["_law_deal_here"] (fw__law_row T) := by
  refine fnT T.F__law_row sc__law_row (fun ds C Q Qx h => ?_) (fun cdv A outer s H E X ds C Q hr h => ?_)
  · unfold fw__law_row at h; split at h
    · rfl
    · exact h.elim
  · unfold fw__law_row at h; split at h
    rotate_left
    · exact h.elim
    have hN := sc__law_row.nd
    have hu := hu_G hr
    have hg := hr.gd
    rename_i x_deal_here
    generalize hQx : (fun cls fs C' => ∀ ρ, X.XQ cls fs ρ C' : QX) = Qx at h
    have hX : ∀ ρ cls fs C, Qx cls fs C → X.XQ cls fs ρ C := by subst hQx; exact fun ρ cls fs C h => h ρ
    clear hQx
    revert h; revert C
    show SB X _ [some x_deal_here, none, none, none, none, none, none] (w__law_row T x_deal_here Qx Q) _
    unfold w__law_row
    refine sb_set (r := fun x_letter => [some x_deal_here, some x_letter, none, none, none, none, none]) 1 hN rfl (by first | exact .inl rfl | exact .inr rfl) (fun _ => rfl) (se_ix (se_lst (sa_cons se_str (sa_cons se_str (sa_cons se_str sa_nil)))) (se_call (dds := []) (ok__law_draw T) (hr.mono (by omega)) rfl T.g__law_draw T.F__law_draw.kp T.b__law_draw .nil (fun _ => Reps.nil) (hX _) (sa_cons (se_var 0 rfl (pv 0)) (sa_cons se_int sa_nil)))) (fun x_letter => ?_)
    refine sb_asg (se_tup (sa_cons (se_lst (sa_cons se_str (sa_cons se_str (sa_cons se_str (sa_cons se_str sa_nil))))) (sa_cons (se_lst (sa_cons se_str (sa_cons se_str (sa_cons se_str sa_nil)))) sa_nil))) (fun x_d => ?_)
    refine sg_two (r := fun x_tests x_deeds => [some x_deal_here, some x_letter, some x_tests, some x_deeds, none, none, none]) rfl (fun _ _ => (gs_cons 2 (pg_name (i := 2) hN rfl (by first | exact .inl rfl | exact .inr rfl)) (gs_cons 3 (pg_name (i := 3) hN rfl (by first | exact .inl rfl | exact .inr rfl)) gs_nil))) (fun x_tests x_deeds => ?_)
    refine sb_ifJ (α := D × D) (fun j1 => [some x_deal_here, some x_letter, some j1.1, some j1.2, none, none, none]) (w__law_row_j1 T x_deal_here x_letter Qx Q) (st_cmp (se_var 1 rfl (pv 1)) se_str (oNe_ok hu noOwn_ok)) (fun j1 => ?_) (fun W hj1 => ?_) (fun W hj1 => ?_)
    · unfold w__law_row_j1
      first | refine sb_setLc (r := fun x_some => [some x_deal_here, some x_letter, some j1.1, some j1.2, some x_some, none, none]) [("_law_turn", 5)] (.one 5) 4 rfl hN rfl rfl (sw_true rfl rfl rfl rfl) (blkOk_by rfl) (fun _ _ _ _ _ => pg_name (i := 5) hN rfl (by first | exact .inl rfl | exact .inr rfl)) (by decide) (si_range1 rfl T.z_range (se_call (dds := []) (ok__law_draw T) (hr.mono (by omega)) rfl T.g__law_draw T.F__law_draw.kp T.b__law_draw .nil (fun _ => Reps.nil) (hX _) (sa_cons (se_var 0 rfl (pv 0)) (sa_cons se_int sa_nil)))) (bd_one (r := fun x_turn => [some x_deal_here, some x_letter, some j1.1, some j1.2, none, some x_turn, none]) (fun _ => rfl) (fun x_turn _ _ _ _ _ => (se_ix (se_var 2 rfl (pv 2)) (se_call (dds := []) (ok__law_draw T) (hr.mono (by omega)) rfl T.g__law_draw T.F__law_draw.kp T.b__law_draw .nil (fun _ => Reps.nil) (fun _ _ _ h => h.elim) (sa_cons (se_var 0 rfl (pv 0)) (sa_cons (se_callB (id := "len") rfl T.z_len (by decide +kernel) (sa_cons (se_var 2 rfl (pv 2)) sa_nil) (pLen_ok no1_ok)) sa_nil)))))) (fun _ => rfl) (fun x_some => ?_) | refine sb_set (r := fun x_some => [some x_deal_here, some x_letter, some j1.1, some j1.2, some x_some, none, none]) 4 hN rfl (by first | exact .inl rfl | exact .inr rfl) (fun _ => rfl) (se_lc [("_law_turn", 5)] (.one 5) rfl hN (blkOk_by rfl) (fun _ _ _ _ _ => pg_name (i := 5) hN rfl (by first | exact .inl rfl | exact .inr rfl)) (by decide) (si_range1 rfl T.z_range (se_call (dds := []) (ok__law_draw T) (hr.mono (by omega)) rfl T.g__law_draw T.F__law_draw.kp T.b__law_draw .nil (fun _ => Reps.nil) (hX _) (sa_cons (se_var 0 rfl (pv 0)) (sa_cons se_int sa_nil)))) (bd_one (r := fun x_turn => [some x_deal_here, some x_letter, some j1.1, some j1.2, none, some x_turn, none]) (fun _ => rfl) (fun x_turn _ _ _ _ _ => (se_ix (se_var 2 rfl (pv 2)) (se_call (dds := []) (ok__law_draw T) (hr.mono (by omega)) rfl T.g__law_draw T.F__law_draw.kp T.b__law_draw .nil (fun _ => Reps.nil) (fun _ _ _ h => h.elim) (sa_cons (se_var 0 rfl (pv 0)) (sa_cons (se_callB (id := "len") rfl T.z_len (by decide +kernel) (sa_cons (se_var 2 rfl (pv 2)) sa_nil) (pLen_ok no1_ok)) sa_nil))))))) (fun x_some => ?_)
      first | refine sb_setLc (r := fun x_some1 => [some x_deal_here, some x_letter, some j1.1, some j1.2, some x_some1, none, none]) [("_law_test", 6)] (.one 6) 4 rfl hN rfl rfl (sw_true rfl rfl rfl rfl) (blkOk_by rfl) (fun _ _ _ _ _ => pg_name (i := 6) hN rfl (by first | exact .inl rfl | exact .inr rfl)) (by decide) (si_iter (se_var 4 rfl (pv 4))) (bd_one (r := fun x_test => [some x_deal_here, some x_letter, some j1.1, some j1.2, some x_some, none, some x_test]) (fun _ => rfl) (fun x_test _ _ _ _ _ => (se_if (st_cmp (se_call (dds := []) (ok__law_draw T) (hr.mono (by omega)) rfl T.g__law_draw T.F__law_draw.kp T.b__law_draw .nil (fun _ => Reps.nil) (fun _ _ _ h => h.elim) (sa_cons (se_var 0 rfl (pv 0)) (sa_cons se_int sa_nil))) se_int (oEq_ok hu noOwn_ok)) (se_bin se_str (se_var 6 rfl (pv 6)) oAdd_ok) (se_var 6 rfl (pv 6))))) (fun _ => rfl) (fun x_some1 => ?_) | refine sb_set (r := fun x_some1 => [some x_deal_here, some x_letter, some j1.1, some j1.2, some x_some1, none, none]) 4 hN rfl (by first | exact .inl rfl | exact .inr rfl) (fun _ => rfl) (se_lc [("_law_test", 6)] (.one 6) rfl hN (blkOk_by rfl) (fun _ _ _ _ _ => pg_name (i := 6) hN rfl (by first | exact .inl rfl | exact .inr rfl)) (by decide) (si_iter (se_var 4 rfl (pv 4))) (bd_one (r := fun x_test => [some x_deal_here, some x_letter, some j1.1, some j1.2, some x_some, none, some x_test]) (fun _ => rfl) (fun x_test _ _ _ _ _ => (se_if (st_cmp (se_call (dds := []) (ok__law_draw T) (hr.mono (by omega)) rfl T.g__law_draw T.F__law_draw.kp T.b__law_draw .nil (fun _ => Reps.nil) (fun _ _ _ h => h.elim) (sa_cons (se_var 0 rfl (pv 0)) (sa_cons se_int sa_nil))) se_int (oEq_ok hu noOwn_ok)) (se_bin se_str (se_var 6 rfl (pv 6)) oAdd_ok) (se_var 6 rfl (pv 6)))))) (fun x_some1 => ?_)
      exact sb_ret (se_tup (sa_cons (se_var 1 rfl (pv 1)) (sa_cons (se_var 4 rfl (pv 4)) (sa_cons (se_lc [("_law_turn", 5)] (.one 5) rfl hN (blkOk_by rfl) (fun _ _ _ _ _ => pg_name (i := 5) hN rfl (by first | exact .inl rfl | exact .inr rfl)) (by decide) (si_range1 rfl T.z_range (se_call (dds := []) (ok__law_draw T) (hr.mono (by omega)) rfl T.g__law_draw T.F__law_draw.kp T.b__law_draw .nil (fun _ => Reps.nil) (hX _) (sa_cons (se_var 0 rfl (pv 0)) (sa_cons se_int sa_nil)))) (bd_one (r := fun x_turn1 => [some x_deal_here, some x_letter, some j1.1, some j1.2, some x_some1, some x_turn1, none]) (fun _ => rfl) (fun x_turn1 _ _ _ _ _ => (se_ix (se_var 3 rfl (pv 3)) (se_call (dds := []) (ok__law_draw T) (hr.mono (by omega)) rfl T.g__law_draw T.F__law_draw.kp T.b__law_draw .nil (fun _ => Reps.nil) (fun _ _ _ h => h.elim) (sa_cons (se_var 0 rfl (pv 0)) (sa_cons (se_callB (id := "len") rfl T.z_len (by decide +kernel) (sa_cons (se_var 3 rfl (pv 3)) sa_nil) (pLen_ok no1_ok)) sa_nil))))))) sa_nil)))) (fun _ _ h => h)
    · refine sb_asg (se_tup (sa_cons (se_bin (se_var 2 rfl (pv 2)) (se_lst (sa_cons se_str (sa_cons se_str sa_nil))) oAdd_ok) (sa_cons (se_bin (se_var 3 rfl (pv 3)) (se_lst (sa_cons se_str (sa_cons se_str sa_nil))) oAdd_ok) sa_nil))) (fun x_d1 => ?_)
      refine sg_two (r := fun x_tests1 x_deeds1 => [some x_deal_here, some x_letter, some x_tests1, some x_deeds1, none, none, none]) rfl (fun _ _ => (gs_cons 2 (pg_name (i := 2) hN rfl (by first | exact .inl rfl | exact .inr rfl)) (gs_cons 3 (pg_name (i := 3) hN rfl (by first | exact .inl rfl | exact .inr rfl)) gs_nil))) (fun x_tests1 x_deeds1 => ?_)
      exact sb_le hj1 (by walk_at "le")
    · exact sb_le hj1 (by walk_at "le")
def w_Page_len (T : Tp P K mg) (x_self : D) (Qx : QX) (Q : QE) : MB := mRet (eArgs (aCons (eApp (eVal x_self) (pFld K "rows")) aNil) (on1 (pLen1 no1))) Q
def fw_Page_len (T : Tp P K mg) : FS := fun ds C Q Qx => match ds with
  | [x_self] => w_Page_len T x_self Qx Q C
  | _ => False
theorem ok_Page_len (T : Tp P K mg) : FnG P w K mg base 1 T.f_Page_len T.d_Page_len ["self"] (fw_Page_len T) := by
  refine fnT T.F_Page_len sc_Page_len (fun ds C Q Qx h => ?_) (fun cdv A outer s H E X ds C Q hr h => ?_)
  · unfold fw_Page_len at h; split at h
    · rfl
    · exact h.elim
  · unfold fw_Page_len at h; split at h
    rotate_left
    · exact h.elim
    have hN := sc_Page_len.nd
    have hu := hu_G hr
    have hg := hr.gd
    rename_i x_self
    generalize hQx : (fun cls fs C' => ∀ ρ, X.XQ cls fs ρ C' : QX) = Qx at h
    have hX : ∀ ρ cls fs C, Qx cls fs C → X.XQ cls fs ρ C := by subst hQx; exact fun ρ cls fs C h => h ρ
    clear hQx
    revert h; revert C
    show SB X _ [some x_self] (w_Page_len T x_self Qx Q) _
    unfold w_Page_len
    exact sb_ret (se_callB (id := "len") rfl T.z_len (by decide +kernel) (sa_cons (se_fld (se_var 0 rfl (pv 0))) sa_nil) (pLen_ok no1_ok)) (fun _ _ h => h)
def w_law_a2 (T : Tp P K mg)  (Qx : QX) (Q : QE) (s1 : Unit) : MB := mRet (eDrop (eAnd (eBin (eArgs (aCons (eVal (.str "")) aNil) fun ds => callW (fw_Page_read T) Qx (.raw (.ref T.c_Page) :: (ds ++ []))) (pMkF (fw_Page_init T) Qx T.c_Page [.tup []]) (oEq (ownB K T.c_Page (fw_Page_eq T) false))) (eBin (eArgs (aCons (eVal (.str "yes\n")) aNil) fun ds => callW (fw__law_heard T) Qx (ds ++ [])) (eArgs (aCons (eVal (.str "text")) (aCons (eVal (.int 1)) (aCons (eVal (.bl true)) aNil))) pTup) (oEq (ownB K T.c_Page (fw_Page_eq T) false))))) Q
def w_law_t3 (T : Tp P K mg)  (Qx : QX) (Q : QE) (s3 : D) : MT := (tBin (eArgs (aCons (eStr1 (eVal (.str "\n")) (eVal s3) pJoin) aNil) (on1 (pLen1 (ownLen T.c_Page (fw_Page_len T))))) (eVal (.int 900)) oGt)
def w_law_a5 (T : Tp P K mg) (x_deal_here : D) (x_odd : D) (nx1 : (Unit) → MB) (Qx : QX) (Q : QE) (s3 : D) : MB := mSet (eStr1 (eVal (.str "\n")) (eVal s3) pJoin) fun x_text => mIf (tOr (tBin (eArgs (aCons (eVal x_text) aNil) fun ds => callW (fw__law_heard T) Qx (ds ++ [])) (eVal x_text) (oNe (ownB K T.c_Page (fw_Page_eq T) true))) (tBin (eArgs (aCons (eArgs (aCons (eVal x_text) aNil) fun ds => callW (fw_Page_read T) Qx (.raw (.ref T.c_Page) :: (ds ++ []))) aNil) (on1 (pLen1 (ownLen T.c_Page (fw_Page_len T))))) (eArgs (aCons (eVal s3) aNil) (on1 (pLen1 (ownLen T.c_Page (fw_Page_len T))))) (oNe (ownB K T.c_Page (fw_Page_eq T) true)))) (mRet (eDrop (eVal (.bl false))) Q) (mSet (eSl (eVal s3) oNone (oSome (eVal (.int 6)))) fun x_lines1 => mSet (eArgs (aCons (eVal x_deal_here) (aCons (eBin (eArgs (aCons (eVal x_lines1) aNil) (on1 (pLen1 (ownLen T.c_Page (fw_Page_len T))))) (eVal (.int 1)) oAdd) aNil)) fun ds => callW (fw__law_draw T) Qx (ds ++ [])) fun x_at => mSet (eBin (eVal x_odd) (eArgs (aCons (eVal x_deal_here) (aCons (eVal (.int 10)) aNil)) fun ds => callW (fw__law_draw T) Qx (ds ++ [])) pIx) fun x_bad => mSet (eBin (eBin (eSl (eVal x_lines1) oNone (oSome (eVal x_at))) (eArgs (aCons (eVal x_bad) aNil) pLst) oAdd) (eSl (eVal x_lines1) (oSome (eVal x_at)) oNone) oAdd) fun x_spoilt => mIf (tAnd (tBin (eVal x_spoilt) (eArgs (aCons (eVal (.str "")) aNil) pLst) (oNe (ownB K T.c_Page (fw_Page_eq T) true))) (tBin (eArgs (aCons (eStr1 (eVal (.str "\n")) (eVal x_spoilt) pJoin) aNil) fun ds => callW (fw__law_heard T) Qx (ds ++ [])) (eArgs (aCons (eVal (.str "text")) (aCons (eVal x_at) (aCons (eVal (.bl true)) aNil))) pTup) (oNe (ownB K T.c_Page (fw_Page_eq T) true)))) (mRet (eDrop (eVal (.bl false))) Q) (mSet (eArgs (aCons (eVal x_deal_here) (aCons (eBin (eArgs (aCons (eVal x_spoilt) aNil) (on1 (pLen1 (ownLen T.c_Page (fw_Page_len T))))) (eVal (.int 1)) oAdd) aNil)) fun ds => callW (fw__law_draw T) Qx (ds ++ [])) fun x_to => mSet (eBin (eBin (eSl (eVal x_spoilt) oNone (oSome (eVal x_to))) (eArgs (aCons (eBin (eVal x_odd) (eVal (.int 1)) pIx) aNil) pLst) oAdd) (eSl (eVal x_spoilt) (oSome (eVal x_to)) oNone) oAdd) fun x_more => mIf (tBin (eArgs (aCons (eStr1 (eVal (.str "\n")) (eVal x_more) pJoin) aNil) fun ds => callW (fw__law_heard T) Qx (ds ++ [])) (eArgs (aCons (eVal (.str "text")) (aCons (eArgs (aCons (eVal x_at) (aCons (eVal x_to) aNil)) (on2 pMin2)) (aCons (eVal (.bl true)) aNil))) pTup) (oNe (ownB K T.c_Page (fw_Page_eq T) true))) (mRet (eDrop (eVal (.bl false))) Q) (mSet (eBin (eSl (eVal x_lines1) oNone (oSome (eVal x_at))) (eSl (eVal x_lines1) oNone (oSome (eVal x_at))) oAdd) fun x_doubled => mIf (tBin (eArgs (aCons (eStr1 (eVal (.str "\n")) (eVal x_doubled) pJoin) aNil) fun ds => callW (fw__law_heard T) Qx (ds ++ [])) (eStr1 (eVal (.str "\n")) (eVal x_doubled) pJoin) (oNe (ownB K T.c_Page (fw_Page_eq T) true))) (mRet (eDrop (eVal (.bl false))) Q) (mPart (nx1 ())))))
def w_law_l4 (T : Tp P K mg)  (Qx : QX) (Q : QE) (s3 : D) (nx3 : (D) → MB) (bk3 : (D) → MB) : MB := mSet (eSl (eVal s3) oNone (oSome (eApp (eVal (.int 1)) pNeg))) fun x_lines2 => mPart (nx3 x_lines2)
def w_law_l1 (T : Tp P K mg) (x_deal_here : D) (x_odd : D) (Qx : QX) (Q : QE) (d1 : D) (s1 : Unit) (nx1 : (Unit) → MB) (bk1 : (Unit) → MB) : MB := mSet (eLc (iApp (eArgs (aCons (eVal x_deal_here) (aCons (eVal (.int 13)) aNil)) fun ds => callW (fw__law_draw T) Qx (ds ++ [])) pRange1) (fun x_row_here => (eArgs (aCons (eArgs (aCons (eVal x_deal_here) aNil) fun ds => callW (fw__law_row T) (fun _ _ _ => False) (ds ++ [])) aNil) fun ds => callW (fw__law_row_text T) (fun _ _ _ => False) (ds ++ [])))) fun x_lines => mWhile (α := D) (w_law_t3 T Qx Q) (w_law_l4 T Qx Q) x_lines (w_law_a5 T x_deal_here x_odd nx1 Qx Q)
def w_law (T : Tp P K mg) (x_script : D) (Qx : QX) (Q : QE) : MB := mSet (eArgs (aCons (eVal x_script) (aCons (eVal (.int 0)) aNil)) fun ds => callW (fw__law_deal T) Qx (ds ++ [])) fun x_deal_here => mSet (eArgs (aCons (eVal (.str "")) (aCons (eVal (.str "yes do")) (aCons (eVal (.str "list do drop")) (aCons (eVal (.str "Yes")) (aCons (eVal (.str "no if")) (aCons (eVal (.str "yes if old and")) (aCons (eVal (.str "yes if not")) (aCons (eVal (.str " list")) (aCons (eVal (.str "no do take then")) aNil))))))))) pLstC) fun x_odd => mExp (eL1 (eVal x_odd) (eVal (.str "yes no")) pApp) (mFor (α := Unit) (iApp (eVal (.int 6)) pRange1) (w_law_l1 T x_deal_here x_odd Qx Q) () (w_law_a2 T Qx Q))
def fw_law (T : Tp P K mg) : FS := fun ds C Q Qx => match ds with
  | [x_script] => w_law T x_script Qx Q C
  | _ => False
theorem ok_law (T : Tp P K mg) : FnG P w K mg base 9 T.f_law T.d_law ["_law_script"] (fw_law T) := by
  refine fnT T.F_law sc_law (fun ds C Q Qx h => ?_) (fun cdv A outer s H E X ds C Q hr h => ?_)
  · unfold fw_law at h; split at h
    · rfl
    · exact h.elim
  · unfold fw_law at h; split at h
    rotate_left
    · exact h.elim
    have hN := sc_law.nd
    have hu := hu_G hr
    have hg := hr.gd
    rename_i x_script
    generalize hQx : (fun cls fs C' => ∀ ρ, X.XQ cls fs ρ C' : QX) = Qx at h
    have hX : ∀ ρ cls fs C, Qx cls fs C → X.XQ cls fs ρ C := by subst hQx; exact fun ρ cls fs C h => h ρ
    clear hQx
    revert h; revert C
    show SB X _ [some x_script, none, none, none, none, none, none, none, none, none, none, none, none] (w_law T x_script Qx Q) _
    unfold w_law
    refine sb_set (r := fun x_deal_here => [some x_script, some x_deal_here, none, none, none, none, none, none, none, none, none, none, none]) 1 hN rfl (by first | exact .inl rfl | exact .inr rfl) (fun _ => rfl) (se_call (dds := []) (ok__law_deal T) (hr.mono (by omega)) rfl T.g__law_deal T.F__law_deal.kp T.b__law_deal .nil (fun _ => Reps.nil) (hX _) (sa_cons (se_var 0 rfl (pv 0)) (sa_cons se_int sa_nil))) (fun x_deal_here => ?_)
    refine sb_set (r := fun x_odd => [some x_script, some x_deal_here, some x_odd, none, none, none, none, none, none, none, none, none, none]) 2 hN rfl (by first | exact .inl rfl | exact .inr rfl) (fun _ => rfl) (se_lstC (sa_cons se_str (sa_cons se_str (sa_cons se_str (sa_cons se_str (sa_cons se_str (sa_cons se_str (sa_cons se_str (sa_cons se_str (sa_cons se_str sa_nil)))))))))) (fun x_odd => ?_)
    refine sb_exp (se_append (se_var 2 rfl (pv 2)) se_str) ?_
    refine sb_for (α := Unit) (fun s1 => [some x_script, some x_deal_here, some x_odd, none, none, none, none, none, none, none, none, none, none]) rfl (si_range1 rfl T.z_range se_int) (by walk_at "le") (fun d1 s1 nx1 bk1 W V hW1 hV1 => ?_) (fun s1 => ?_)
    · unfold w_law_l1
      refine sg_name (r := [some x_script, some x_deal_here, some x_odd, some d1, none, none, none, none, none, none, none, none, none]) 3 rfl ?_ (pg_name (i := 3) hN rfl (by first | exact .inl rfl | exact .inr rfl))
      first | refine sb_setLc (r := fun x_lines => [some x_script, some x_deal_here, some x_odd, some d1, some x_lines, none, none, none, none, none, none, none, none]) [("_law_row_here", 12)] (.one 12) 4 rfl hN rfl rfl (sw_true rfl rfl rfl rfl) (blkOk_by rfl) (fun _ _ _ _ _ => pg_name (i := 12) hN rfl (by first | exact .inl rfl | exact .inr rfl)) (by decide) (si_range1 rfl T.z_range (se_call (dds := []) (ok__law_draw T) (hr.mono (by omega)) rfl T.g__law_draw T.F__law_draw.kp T.b__law_draw .nil (fun _ => Reps.nil) (hX _) (sa_cons (se_var 1 rfl (pv 1)) (sa_cons se_int sa_nil)))) (bd_one (r := fun x_row_here => [some x_script, some x_deal_here, some x_odd, some d1, none, none, none, none, none, none, none, none, some x_row_here]) (fun _ => rfl) (fun x_row_here _ _ _ _ _ => (se_call (dds := []) (ok__law_row_text T) (hr.mono (by omega)) rfl T.g__law_row_text T.F__law_row_text.kp T.b__law_row_text .nil (fun _ => Reps.nil) (fun _ _ _ h => h.elim) (sa_cons (se_call (dds := []) (ok__law_row T) (hr.mono (by omega)) rfl T.g__law_row T.F__law_row.kp T.b__law_row .nil (fun _ => Reps.nil) (fun _ _ _ h => h.elim) (sa_cons (se_var 1 rfl (pv 1)) sa_nil)) sa_nil)))) (fun _ => rfl) (fun x_lines => ?_) | refine sb_set (r := fun x_lines => [some x_script, some x_deal_here, some x_odd, some d1, some x_lines, none, none, none, none, none, none, none, none]) 4 hN rfl (by first | exact .inl rfl | exact .inr rfl) (fun _ => rfl) (se_lc [("_law_row_here", 12)] (.one 12) rfl hN (blkOk_by rfl) (fun _ _ _ _ _ => pg_name (i := 12) hN rfl (by first | exact .inl rfl | exact .inr rfl)) (by decide) (si_range1 rfl T.z_range (se_call (dds := []) (ok__law_draw T) (hr.mono (by omega)) rfl T.g__law_draw T.F__law_draw.kp T.b__law_draw .nil (fun _ => Reps.nil) (hX _) (sa_cons (se_var 1 rfl (pv 1)) (sa_cons se_int sa_nil)))) (bd_one (r := fun x_row_here => [some x_script, some x_deal_here, some x_odd, some d1, none, none, none, none, none, none, none, none, some x_row_here]) (fun _ => rfl) (fun x_row_here _ _ _ _ _ => (se_call (dds := []) (ok__law_row_text T) (hr.mono (by omega)) rfl T.g__law_row_text T.F__law_row_text.kp T.b__law_row_text .nil (fun _ => Reps.nil) (fun _ _ _ h => h.elim) (sa_cons (se_call (dds := []) (ok__law_row T) (hr.mono (by omega)) rfl T.g__law_row T.F__law_row.kp T.b__law_row .nil (fun _ => Reps.nil) (fun _ _ _ h => h.elim) (sa_cons (se_var 1 rfl (pv 1)) sa_nil)) sa_nil))))) (fun x_lines => ?_)
      refine sb_while (α := D) (fun s3 => [some x_script, some x_deal_here, some x_odd, some d1, some s3, none, none, none, none, none, none, none, none]) (by walk_at "le") (fun s3 => ?_) (fun s3 nx3 bk3 W V hW3 hV3 => ?_) (fun s3 => ?_)
      · unfold w_law_t3
        exact (st_cmp (se_callB (id := "len") rfl T.z_len (by decide +kernel) (sa_cons (se_join se_str (se_var 4 rfl (pv 4))) sa_nil) (pLen_ok (ownLen_ok T.m_Page_len T.n_Page_len (ok_Page_len T) (hr.mono (by omega)) T.b_Page_len))) se_int oGt_ok)
      · unfold w_law_l4
        refine sb_set (r := fun x_lines2 => [some x_script, some x_deal_here, some x_odd, some d1, some x_lines2, none, none, none, none, none, none, none, none]) 4 hN rfl (by first | exact .inl rfl | exact .inr rfl) (fun _ => rfl) (se_slice (se_var 4 rfl (pv 4)) so_none (so_some (se_neg se_int))) (fun x_lines2 => ?_)
        refine sb_part ?_
        exact sb_le hW3 (by walk_at "le")
      · unfold w_law_a5
        refine sb_set (r := fun x_text => [some x_script, some x_deal_here, some x_odd, some d1, some s3, some x_text, none, none, none, none, none, none, none]) 5 hN rfl (by first | exact .inl rfl | exact .inr rfl) (fun _ => rfl) (se_join se_str (se_var 4 rfl (pv 4))) (fun x_text => ?_)
        refine sb_if (st_p (sp_or (st_cmp (se_call (dds := []) (ok__law_heard T) (hr.mono (by omega)) rfl T.g__law_heard T.F__law_heard.kp T.b__law_heard .nil (fun _ => Reps.nil) (hX _) (sa_cons (se_var 5 rfl (pv 5)) sa_nil)) (se_var 5 rfl (pv 5)) (oNe_ok hu (ownNe_ok T.ne_Page T.i_Page.cm T.m_Page_eq T.n_Page_eq (ok_Page_eq T) (hr.mono (by omega)) T.b_Page_eq))) (sp_or1 (st_cmp (se_callB (id := "len") rfl T.z_len (by decide +kernel) (sa_cons (se_cmeth (dds := []) T.m_Page_read (ok_Page_read T) (hr.mono (by omega)) T.b_Page_read .nil (fun _ => Reps.nil) (hX _) (se_glob (d := .raw (.ref T.c_Page)) (pe_glob (v := .ref T.c_Page) rfl T.g_Page rfl) (fun _ => rfl)) (sa_cons (se_var 5 rfl (pv 5)) sa_nil)) sa_nil) (pLen_ok (ownLen_ok T.m_Page_len T.n_Page_len (ok_Page_len T) (hr.mono (by omega)) T.b_Page_len))) (se_callB (id := "len") rfl T.z_len (by decide +kernel) (sa_cons (se_var 4 rfl (pv 4)) sa_nil) (pLen_ok (ownLen_ok T.m_Page_len T.n_Page_len (ok_Page_len T) (hr.mono (by omega)) T.b_Page_len))) (oNe_ok hu (ownNe_ok T.ne_Page T.i_Page.cm T.m_Page_eq T.n_Page_eq (ok_Page_eq T) (hr.mono (by omega)) T.b_Page_eq)))))) ?_ ?_
        · exact sb_ret (se_drop se_bl) (fun _ _ h => h)
        · refine sb_more ?_
          refine sb_set (r := fun x_lines1 => [some x_script, some x_deal_here, some x_odd, some d1, some x_lines1, some x_text, none, none, none, none, none, none, none]) 4 hN rfl (by first | exact .inl rfl | exact .inr rfl) (fun _ => rfl) (se_slice (se_var 4 rfl (pv 4)) so_none (so_some se_int)) (fun x_lines1 => ?_)
          refine sb_par (r := fun x_at x_bad => [some x_script, some x_deal_here, some x_odd, some d1, some x_lines1, some x_text, some x_at, some x_bad, none, none, none, none, none]) 6 7 hN rfl rfl (by decide) rfl rfl rfl (se_call (dds := []) (ok__law_draw T) (hr.mono (by omega)) rfl T.g__law_draw T.F__law_draw.kp T.b__law_draw .nil (fun _ => Reps.nil) (hX _) (sa_cons (se_var 1 rfl (pv 1)) (sa_cons (se_bin (se_callB (id := "len") rfl T.z_len (by decide +kernel) (sa_cons (se_var 4 rfl (pv 4)) sa_nil) (pLen_ok (ownLen_ok T.m_Page_len T.n_Page_len (ok_Page_len T) (hr.mono (by omega)) T.b_Page_len))) se_int oAdd_ok) sa_nil))) (se_ix (se_var 2 rfl (pv 2)) (se_call (dds := []) (ok__law_draw T) (hr.mono (by omega)) rfl T.g__law_draw T.F__law_draw.kp T.b__law_draw .nil (fun _ => Reps.nil) (hX _) (sa_cons (se_var 1 rfl (pv 1)) (sa_cons se_int sa_nil)))) (fun _ _ => rfl) (fun x_at x_bad => ?_)
          refine sb_set (r := fun x_spoilt => [some x_script, some x_deal_here, some x_odd, some d1, some x_lines1, some x_text, some x_at, some x_bad, some x_spoilt, none, none, none, none]) 8 hN rfl (by first | exact .inl rfl | exact .inr rfl) (fun _ => rfl) (se_bin (se_bin (se_slice (se_var 4 rfl (pv 4)) so_none (so_some (se_var 6 rfl (pv 6)))) (se_lst (sa_cons (se_var 7 rfl (pv 7)) sa_nil)) oAdd_ok) (se_slice (se_var 4 rfl (pv 4)) (so_some (se_var 6 rfl (pv 6))) so_none) oAdd_ok) (fun x_spoilt => ?_)
          refine sb_if (st_p (sp_and (st_cmp (se_var 8 rfl (pv 8)) (se_lst (sa_cons se_str sa_nil)) (oNe_ok hu (ownNe_ok T.ne_Page T.i_Page.cm T.m_Page_eq T.n_Page_eq (ok_Page_eq T) (hr.mono (by omega)) T.b_Page_eq))) (sp_and1 (st_cmp (se_call (dds := []) (ok__law_heard T) (hr.mono (by omega)) rfl T.g__law_heard T.F__law_heard.kp T.b__law_heard .nil (fun _ => Reps.nil) (hX _) (sa_cons (se_join se_str (se_var 8 rfl (pv 8))) sa_nil)) (se_tup (sa_cons se_str (sa_cons (se_var 6 rfl (pv 6)) (sa_cons se_bl sa_nil)))) (oNe_ok hu (ownNe_ok T.ne_Page T.i_Page.cm T.m_Page_eq T.n_Page_eq (ok_Page_eq T) (hr.mono (by omega)) T.b_Page_eq)))))) ?_ ?_
          · exact sb_ret (se_drop se_bl) (fun _ _ h => h)
          · refine sb_more ?_
            refine sb_set (r := fun x_to => [some x_script, some x_deal_here, some x_odd, some d1, some x_lines1, some x_text, some x_at, some x_bad, some x_spoilt, some x_to, none, none, none]) 9 hN rfl (by first | exact .inl rfl | exact .inr rfl) (fun _ => rfl) (se_call (dds := []) (ok__law_draw T) (hr.mono (by omega)) rfl T.g__law_draw T.F__law_draw.kp T.b__law_draw .nil (fun _ => Reps.nil) (hX _) (sa_cons (se_var 1 rfl (pv 1)) (sa_cons (se_bin (se_callB (id := "len") rfl T.z_len (by decide +kernel) (sa_cons (se_var 8 rfl (pv 8)) sa_nil) (pLen_ok (ownLen_ok T.m_Page_len T.n_Page_len (ok_Page_len T) (hr.mono (by omega)) T.b_Page_len))) se_int oAdd_ok) sa_nil))) (fun x_to => ?_)
            refine sb_set (r := fun x_more => [some x_script, some x_deal_here, some x_odd, some d1, some x_lines1, some x_text, some x_at, some x_bad, some x_spoilt, some x_to, some x_more, none, none]) 10 hN rfl (by first | exact .inl rfl | exact .inr rfl) (fun _ => rfl) (se_bin (se_bin (se_slice (se_var 8 rfl (pv 8)) so_none (so_some (se_var 9 rfl (pv 9)))) (se_lst (sa_cons (se_ix (se_var 2 rfl (pv 2)) se_int) sa_nil)) oAdd_ok) (se_slice (se_var 8 rfl (pv 8)) (so_some (se_var 9 rfl (pv 9))) so_none) oAdd_ok) (fun x_more => ?_)
            refine sb_if (st_cmp (se_call (dds := []) (ok__law_heard T) (hr.mono (by omega)) rfl T.g__law_heard T.F__law_heard.kp T.b__law_heard .nil (fun _ => Reps.nil) (hX _) (sa_cons (se_join se_str (se_var 10 rfl (pv 10))) sa_nil)) (se_tup (sa_cons se_str (sa_cons (se_callB (id := "min") rfl T.z_min (by decide +kernel) (sa_cons (se_var 6 rfl (pv 6)) (sa_cons (se_var 9 rfl (pv 9)) sa_nil)) (pMin_ok rfl)) (sa_cons se_bl sa_nil)))) (oNe_ok hu (ownNe_ok T.ne_Page T.i_Page.cm T.m_Page_eq T.n_Page_eq (ok_Page_eq T) (hr.mono (by omega)) T.b_Page_eq))) ?_ ?_
            · exact sb_ret (se_drop se_bl) (fun _ _ h => h)
            · refine sb_more ?_
              refine sb_set (r := fun x_doubled => [some x_script, some x_deal_here, some x_odd, some d1, some x_lines1, some x_text, some x_at, some x_bad, some x_spoilt, some x_to, some x_more, some x_doubled, none]) 11 hN rfl (by first | exact .inl rfl | exact .inr rfl) (fun _ => rfl) (se_bin (se_slice (se_var 4 rfl (pv 4)) so_none (so_some (se_var 6 rfl (pv 6)))) (se_slice (se_var 4 rfl (pv 4)) so_none (so_some (se_var 6 rfl (pv 6)))) oAdd_ok) (fun x_doubled => ?_)
              refine sb_if (st_cmp (se_call (dds := []) (ok__law_heard T) (hr.mono (by omega)) rfl T.g__law_heard T.F__law_heard.kp T.b__law_heard .nil (fun _ => Reps.nil) (hX _) (sa_cons (se_join se_str (se_var 11 rfl (pv 11))) sa_nil)) (se_join se_str (se_var 11 rfl (pv 11))) (oNe_ok hu (ownNe_ok T.ne_Page T.i_Page.cm T.m_Page_eq T.n_Page_eq (ok_Page_eq T) (hr.mono (by omega)) T.b_Page_eq))) ?_ ?_
              · exact sb_ret (se_drop se_bl) (fun _ _ h => h)
              · refine sb_more ?_
                refine sb_part ?_
                exact sb_le hW1 (by walk_at "le")
    · unfold w_law_a2
      exact sb_ret (se_drop (se_and (se_cmp (se_cmeth (dds := []) T.m_Page_read (ok_Page_read T) (hr.mono (by omega)) T.b_Page_read .nil (fun _ => Reps.nil) (hX _) (se_glob (d := .raw (.ref T.c_Page)) (pe_glob (v := .ref T.c_Page) rfl T.g_Page rfl) (fun _ => rfl)) (sa_cons se_str sa_nil)) (se_mkF0 (se_make0D (dds := [.tup []]) T.mk_Page (ok_Page_init T) (hr.mono (by omega)) rfl T.g_Page T.b0_Page_init (fun H => (Reps.cons (T.re_Page_init_0 H) Reps.nil)) (hX _))) (oEq_ok hu (ownEq_ok T.m_Page_eq T.n_Page_eq (ok_Page_eq T) (hr.mono (by omega)) T.b_Page_eq))) (se_one (se_cmp (se_call (dds := []) (ok__law_heard T) (hr.mono (by omega)) rfl T.g__law_heard T.F__law_heard.kp T.b__law_heard .nil (fun _ => Reps.nil) (hX _) (sa_cons se_str sa_nil)) (se_tup (sa_cons se_str (sa_cons se_int (sa_cons se_bl sa_nil)))) (oEq_ok hu (ownEq_ok T.m_Page_eq T.n_Page_eq (ok_Page_eq T) (hr.mono (by omega)) T.b_Page_eq)))))) (fun _ _ h => h)
end
end Kk

namespace Kk
open PySem L2 PySem.Spec PyProof.Rows Tr
set_option hygiene false
local macro_rules | `(tactic| walk_at "cell") => `(tactic| first | exact LstD.l | exact LstD.c (i := 0) rfl | exact LstD.c (i := 1) rfl | exact LstD.c (i := 2) rfl | exact LstD.c (i := 3) rfl | exact LstD.c (i := 4) rfl | exact LstD.c (i := 5) rfl | exact LstD.c (i := 6) rfl | exact LstD.c (i := 7) rfl | with_reducible assumption | walk_at "cellx")
local macro_rules | `(tactic| walk_at "sq") => `(tactic| first | exact SeqD.l | exact SeqD.t | exact SeqD.c (i := 0) rfl | exact SeqD.c (i := 1) rfl | exact SeqD.c (i := 2) rfl | exact SeqD.c (i := 3) rfl | exact SeqD.c (i := 4) rfl | exact SeqD.c (i := 5) rfl | exact SeqD.c (i := 6) rfl | exact SeqD.c (i := 7) rfl | with_reducible assumption | exact .inl (by walk_at "cellx"))
local macro_rules | `(tactic| walk_at "n") => `(tactic| first | with_reducible assumption | omega | (simp only [List.length_cons, List.length_nil, List.length_map, List.length_append, rangeD_len]; omega) | decide | (simp; done) | (simp; omega) | (simp at *; omega) | exact Or.inl ⟨by decide, by decide⟩ | exact Or.inr ⟨by decide, by decide⟩ | exact ⟨by decide, by decide⟩ | exact ⟨by decide, by decide, by decide⟩)
local macro_rules | `(tactic| walk_at "nm") => `(tactic| first | exact Or.inl (by decide) | exact Or.inr (by decide) | exact Or.inl (by omega) | exact Or.inr (by omega))
local macro_rules | `(tactic| walk_at "p") => `(tactic| first
  | ((with_reducible show oAdd _ _ _ _); first | with_reducible refine s_add_int ?_ | with_reducible refine s_add_str ?_ | with_reducible refine s_add_tup ?_ | with_reducible refine s_add_lst ?_ | refine s_add_cell (by walk_at "cell") (by walk_at "cell") ?_)
  | ((with_reducible show oAddO _ _ _ _ _); first | refine s_addO rfl ?_ | refine s_addOI ?_)
  | ((with_reducible show pIxO _ _ _ _ _ _ _); refine s_ixO rfl ?_)
  | ((with_reducible show oSub _ _ _ _); first | with_reducible refine s_sub ?_)
  | ((with_reducible show oMul _ _ _ _); first | with_reducible refine s_mul ?_)
  | ((with_reducible show oFdiv _ _ _ _); first | with_reducible refine s_fdiv ?_)
  | ((with_reducible show oMod _ _ _ _); first | with_reducible refine s_mod ?_)
  | ((with_reducible show oPow _ _ _ _); first | with_reducible refine s_pow ?_)
  | ((with_reducible show oLt _ _ _ _); first | with_reducible refine s_lt ?_ | with_reducible refine s_lt_str ?_)
  | ((with_reducible show oLe _ _ _ _); first | with_reducible refine s_le ?_ | with_reducible refine s_le_str ?_)
  | ((with_reducible show oGt _ _ _ _); first | with_reducible refine s_gt ?_)
  | ((with_reducible show oGe _ _ _ _); first | with_reducible refine s_ge ?_)
  | ((with_reducible show pII _ _ _ _ _); first | with_reducible refine s_ii ?_)
  | ((with_reducible show oEq _ _ _ _ _); first | with_reducible refine s_eq_int ?_ | with_reducible refine s_eq_str ?_ | with_reducible refine s_eq_bl ?_ | walk_at "eq")
  | ((with_reducible show oNe _ _ _ _ _); first | with_reducible refine s_ne_int ?_ | with_reducible refine s_ne_str ?_ | with_reducible refine s_ne_bl ?_ | walk_at "ne")
  | ((with_reducible show oIs _ _ _ _); first | with_reducible refine s_is_bl ?_ | with_reducible refine s_isN_ref ?_ | refine s_isN rfl ?_)
  | ((with_reducible show oIsNot _ _ _ _); first | with_reducible refine s_isnot_bl ?_ | with_reducible refine s_isNotN_ref ?_ | refine s_isNotN rfl ?_)
  | ((with_reducible show oIn (.str _) (.tup (_ :: _)) _ _); first | refine s_inS (xs := [_]) .t ?_ | refine s_inS (xs := [_, _]) .t ?_ | refine s_inS (xs := [_, _, _]) .t ?_ | refine s_inS (xs := [_, _, _, _]) .t ?_ | refine s_inS (xs := [_, _, _, _, _]) .t ?_ | refine s_inS (xs := [_, _, _, _, _, _]) .t ?_ | refine s_inS (xs := [_, _, _, _, _, _, _]) .t ?_ | refine s_inS (xs := [_, _, _, _, _, _, _, _]) .t ?_ | refine s_inS (xs := [_, _, _, _, _, _, _, _, _]) .t ?_ | refine s_inS (xs := [_, _, _, _, _, _, _, _, _, _]) .t ?_ | refine s_inS (xs := [_, _, _, _, _, _, _, _, _, _, _]) .t ?_ | refine s_inS (xs := [_, _, _, _, _, _, _, _, _, _, _, _]) .t ?_ | refine s_inS (xs := [_, _, _, _, _, _, _, _, _, _, _, _, _]) .t ?_)
  | ((with_reducible show oIn (.str _) (.lst (_ :: _)) _ _); first | refine s_inS (xs := [_]) .l ?_ | refine s_inS (xs := [_, _]) .l ?_ | refine s_inS (xs := [_, _, _]) .l ?_ | refine s_inS (xs := [_, _, _, _]) .l ?_ | refine s_inS (xs := [_, _, _, _, _]) .l ?_ | refine s_inS (xs := [_, _, _, _, _, _]) .l ?_ | refine s_inS (xs := [_, _, _, _, _, _, _]) .l ?_ | refine s_inS (xs := [_, _, _, _, _, _, _, _]) .l ?_ | refine s_inS (xs := [_, _, _, _, _, _, _, _, _]) .l ?_ | refine s_inS (xs := [_, _, _, _, _, _, _, _, _, _]) .l ?_ | refine s_inS (xs := [_, _, _, _, _, _, _, _, _, _, _]) .l ?_ | refine s_inS (xs := [_, _, _, _, _, _, _, _, _, _, _, _]) .l ?_ | refine s_inS (xs := [_, _, _, _, _, _, _, _, _, _, _, _, _]) .l ?_)
  | ((with_reducible show oNotIn (.str _) (.tup (_ :: _)) _ _); first | refine s_notInS (xs := [_]) .t ?_ | refine s_notInS (xs := [_, _]) .t ?_ | refine s_notInS (xs := [_, _, _]) .t ?_ | refine s_notInS (xs := [_, _, _, _]) .t ?_ | refine s_notInS (xs := [_, _, _, _, _]) .t ?_ | refine s_notInS (xs := [_, _, _, _, _, _]) .t ?_ | refine s_notInS (xs := [_, _, _, _, _, _, _]) .t ?_ | refine s_notInS (xs := [_, _, _, _, _, _, _, _]) .t ?_ | refine s_notInS (xs := [_, _, _, _, _, _, _, _, _]) .t ?_ | refine s_notInS (xs := [_, _, _, _, _, _, _, _, _, _]) .t ?_ | refine s_notInS (xs := [_, _, _, _, _, _, _, _, _, _, _]) .t ?_ | refine s_notInS (xs := [_, _, _, _, _, _, _, _, _, _, _, _]) .t ?_ | refine s_notInS (xs := [_, _, _, _, _, _, _, _, _, _, _, _, _]) .t ?_)
  | ((with_reducible show oNotIn (.str _) (.lst (_ :: _)) _ _); first | refine s_notInS (xs := [_]) .l ?_ | refine s_notInS (xs := [_, _]) .l ?_ | refine s_notInS (xs := [_, _, _]) .l ?_ | refine s_notInS (xs := [_, _, _, _]) .l ?_ | refine s_notInS (xs := [_, _, _, _, _]) .l ?_ | refine s_notInS (xs := [_, _, _, _, _, _]) .l ?_ | refine s_notInS (xs := [_, _, _, _, _, _, _]) .l ?_ | refine s_notInS (xs := [_, _, _, _, _, _, _, _]) .l ?_ | refine s_notInS (xs := [_, _, _, _, _, _, _, _, _]) .l ?_ | refine s_notInS (xs := [_, _, _, _, _, _, _, _, _, _]) .l ?_ | refine s_notInS (xs := [_, _, _, _, _, _, _, _, _, _, _]) .l ?_ | refine s_notInS (xs := [_, _, _, _, _, _, _, _, _, _, _, _]) .l ?_ | refine s_notInS (xs := [_, _, _, _, _, _, _, _, _, _, _, _, _]) .l ?_)
  | ((with_reducible show oIn _ _ _ _); first | with_reducible refine s_inSign ?_ | refine s_inS (by walk_at "sq") ?_)
  | ((with_reducible show oNotIn _ _ _ _); refine s_notInS (by walk_at "sq") ?_)
  | ((with_reducible show oNotInS _ _ _ _); refine s_notInSign ?_)
  | ((with_reducible show pTup _ _ _); first | with_reducible refine s_tup ?_)
  | ((with_reducible show pLst _ _ _); first | with_reducible refine s_lst ?_)
  | ((with_reducible show pLstC _ _ _); first | with_reducible refine s_lstC ?_)
  | ((with_reducible show pTru _ _ _); first | with_reducible refine s_tru ?_)
  | ((with_reducible show pNeg _ _ _); first | with_reducible refine s_neg ?_)
  | ((with_reducible show pFld _ _ _ _ _); walk_at "fld")
  | ((with_reducible show pIx _ _ _ _); first | refine s_ix_tup (by rfl) ?_ | refine s_ix_lst (by rfl) ?_ | refine s_ix_cell (by walk_at "cell") (by rfl) ?_ | walk_at "ix")
  | ((with_reducible show pOI _ _ _); first | with_reducible refine s_oi ?_)
  | ((with_reducible show pSl _ _ _ _ _); first | with_reducible refine s_sl_tup ?_ | with_reducible refine s_sl_lst ?_ | with_reducible refine s_sl_str ?_ | refine s_sl_cell (by walk_at "cell") ?_)
  | ((with_reducible show pRev _ _ _); refine s_rev (by walk_at "cell") ?_)
  | ((with_reducible show pRevC _ _ _); refine s_revC (by walk_at "cell") ?_)
  | ((with_reducible show pIter _ _ _); first | with_reducible refine s_it_lst ?_ | with_reducible refine s_it_tup ?_ | refine s_it_cell (by walk_at "sq") ?_)
  | ((with_reducible show pIterS _ _ _); first | with_reducible refine s_itS ?_)
  | ((with_reducible show pRange1 _ _ _); first | with_reducible refine s_rg1 ?_)
  | ((with_reducible show pRange2 _ _ _ _); first | with_reducible refine s_rg2 ?_)
  | ((with_reducible show pEnum _ _ _); first | with_reducible refine s_en_lst ?_ | with_reducible refine s_en_tup ?_ | refine s_en_cell (by walk_at "sq") ?_)
  | ((with_reducible show un2 _ _ _ _); first | with_reducible refine s_un2 ?_)
  | ((with_reducible show un3 _ _ _ _); first | with_reducible refine s_un3 ?_)
  | ((with_reducible show mUn2 _ _ _); first | with_reducible refine s_mun2 ?_)
  | ((with_reducible show mUn3 _ _ _); first | with_reducible refine s_mun3 ?_)
  | ((with_reducible show mUn4 _ _ _); first | with_reducible refine s_mun4 ?_)
  | ((with_reducible show mUn5 _ _ _); first | with_reducible refine s_mun5 ?_)
  | ((with_reducible show mUn6 _ _ _); first | with_reducible refine s_mun6 ?_)
  | ((with_reducible show on1 _ _ _ _); first | ((with_reducible show on1 (pLen1 _) _ _ _); first | with_reducible refine s_len_lst ?_ | with_reducible refine s_len_tup ?_ | with_reducible refine s_len_str ?_ | with_reducible refine s_len_own ?_ | refine s_len_cell (by walk_at "cell") ?_) | ((with_reducible show on1 (pStr1 _) _ _ _); first | with_reducible refine s_str_str ?_ | with_reducible refine s_str_int ?_ | with_reducible refine s_str_own ?_ | with_reducible refine s_str_ownC ?_) | ((with_reducible show on1 pInt1 _ _ _); first | with_reducible refine s_int_int ?_ | with_reducible refine s_int_bl ?_ | with_reducible refine s_int_str ?_) | ((with_reducible show on1 pList1 _ _ _); first | with_reducible refine s_list_lst ?_ | with_reducible refine s_list_tup ?_ | refine s_list_cell (by walk_at "sq") ?_ | refine s_list_seq (by with_reducible assumption) ?_) | ((with_reducible show on1 pListC1 _ _ _); first | with_reducible refine s_listC_lst ?_ | with_reducible refine s_listC_tup ?_ | refine s_listC_cell (by walk_at "sq") ?_) | ((with_reducible show on1 pTuple1 _ _ _); first | with_reducible refine s_tuple_lst ?_ | with_reducible refine s_tuple_tup ?_ | refine s_tuple_seq (by walk_at "sq") ?_) | ((with_reducible show on1 pAbs1 _ _ _); first | with_reducible refine s_abs ?_) | ((with_reducible show on1 pAll1 _ _ _); refine s_allM ?_) | ((with_reducible show on1 pAny1 _ _ _); refine s_anyM ?_))
  | ((with_reducible show on2 pMax2 _ _ _); first | with_reducible refine s_max ?_)
  | ((with_reducible show on2 pMin2 _ _ _); first | with_reducible refine s_min ?_)
  | ((with_reducible show on2 (pIsI _) _ _ _); walk_at "isi")
  | ((with_reducible show onStr _ _ _ _); first | with_reducible refine s_onStr ?_)
  | ((with_reducible show pSplit _ _ _ _); first | with_reducible refine s_split ?_)
  | ((with_reducible show pPart _ _ _ _); first | with_reducible refine s_part ?_)
  | ((with_reducible show pStarts _ _ _ _); first | with_reducible refine s_starts ?_)
  | ((with_reducible show pJoin _ _ _ _); refine s_join (by walk_at "sq") ?_)
  | ((with_reducible show pFmt _ _ _); first | with_reducible refine s_fmt_str ?_ | with_reducible refine s_fmt_int ?_)
  | ((with_reducible show pApp _ _ _ _); first | refine s_app 0 rfl ?_ | refine s_app 1 rfl ?_ | refine s_app 2 rfl ?_ | refine s_app 3 rfl ?_ | refine s_app 4 rfl ?_)
  | ((with_reducible show mFrz _ _ _); first | refine s_frz 0 rfl ?_ | refine s_frz 1 rfl ?_ | refine s_frz 2 rfl ?_ | refine s_frz 3 rfl ?_ | refine s_frz 4 rfl ?_)
  | ((with_reducible show if true = true then _ else _); first | with_reducible refine ifT ?_)
  | ((with_reducible show if false = true then _ else _); first | with_reducible refine ifF ?_)
  | ((with_reducible show if (!false) = true then _ else _); refine ifT ?_)
  | ((with_reducible show if (!true) = true then _ else _); refine ifF ?_)
  | ((with_reducible show if Tr.isNon .non = true then _ else _); refine ifT ?_)
  | ((with_reducible show if (!Tr.isNon .non) = true then _ else _); refine ifF ?_)
  | ((with_reducible show if Tr.isNon (.str _) = true then _ else _); refine ifF ?_)
  | ((with_reducible show if (!Tr.isNon (.str _)) = true then _ else _); refine ifT ?_)
  | ((with_reducible show if Tr.isNon (.int _) = true then _ else _); refine ifF ?_)
  | ((with_reducible show if (!Tr.isNon (.int _)) = true then _ else _); refine ifT ?_)
  | ((with_reducible show if Tr.isNon (.bl _) = true then _ else _); refine ifF ?_)
  | ((with_reducible show if (!Tr.isNon (.bl _)) = true then _ else _); refine ifT ?_)
  | ((with_reducible show if Tr.isNon (.lst _) = true then _ else _); refine ifF ?_)
  | ((with_reducible show if (!Tr.isNon (.lst _)) = true then _ else _); refine ifT ?_)
  | ((with_reducible show if Tr.isNon (.tup _) = true then _ else _); refine ifF ?_)
  | ((with_reducible show if (!Tr.isNon (.tup _)) = true then _ else _); refine ifT ?_)
  | ((with_reducible show if Tr.isNon (.ins _ _ _) = true then _ else _); refine ifF ?_)
  | ((with_reducible show if (!Tr.isNon (.ins _ _ _)) = true then _ else _); refine ifT ?_)
  | ((with_reducible show if Tr.isNon (oN none) = true then _ else _); refine ifT ?_)
  | ((with_reducible show if (!Tr.isNon (oN none)) = true then _ else _); refine ifF ?_)
  | ((with_reducible show if Tr.isNon (oN (some _)) = true then _ else _); refine ifF ?_)
  | ((with_reducible show if (!Tr.isNon (oN (some _))) = true then _ else _); refine ifT ?_)
  | ((with_reducible show if Tr.isNon (oD none) = true then _ else _); refine ifT ?_)
  | ((with_reducible show if (!Tr.isNon (oD none)) = true then _ else _); refine ifF ?_)
  | ((with_reducible show if Tr.isNon (oD (some _)) = true then _ else _); refine ifF ?_)
  | ((with_reducible show if (!Tr.isNon (oD (some _))) = true then _ else _); refine ifT ?_)
  | ((with_reducible show if (decide (true = true)) = true then _ else _); refine ifT ?_)
  | ((with_reducible show if (!decide (true = true)) = true then _ else _); refine ifF ?_)
  | ((with_reducible show if ((true == true)) = true then _ else _); refine ifT ?_)
  | ((with_reducible show if (!(true == true)) = true then _ else _); refine ifF ?_)
  | ((with_reducible show if ((true != true)) = true then _ else _); refine ifF ?_)
  | ((with_reducible show if (decide (true = false)) = true then _ else _); refine ifF ?_)
  | ((with_reducible show if (!decide (true = false)) = true then _ else _); refine ifT ?_)
  | ((with_reducible show if ((true == false)) = true then _ else _); refine ifF ?_)
  | ((with_reducible show if (!(true == false)) = true then _ else _); refine ifT ?_)
  | ((with_reducible show if ((true != false)) = true then _ else _); refine ifT ?_)
  | ((with_reducible show if (decide (false = true)) = true then _ else _); refine ifF ?_)
  | ((with_reducible show if (!decide (false = true)) = true then _ else _); refine ifT ?_)
  | ((with_reducible show if ((false == true)) = true then _ else _); refine ifF ?_)
  | ((with_reducible show if (!(false == true)) = true then _ else _); refine ifT ?_)
  | ((with_reducible show if ((false != true)) = true then _ else _); refine ifT ?_)
  | ((with_reducible show if (decide (false = false)) = true then _ else _); refine ifT ?_)
  | ((with_reducible show if (!decide (false = false)) = true then _ else _); refine ifF ?_)
  | ((with_reducible show if ((false == false)) = true then _ else _); refine ifT ?_)
  | ((with_reducible show if (!(false == false)) = true then _ else _); refine ifF ?_)
  | ((with_reducible show if ((false != false)) = true then _ else _); refine ifF ?_)
  | ((with_reducible show if decide ((_ : Int) < _) = true then _ else _); first | refine ifPos (decide_eq_true (by walk_at "om")) ?_ | refine ifNeg (decide_eq_false (by walk_at "om")) ?_)
  | ((with_reducible show if (!decide ((_ : Int) < _)) = true then _ else _); first | refine ifPosN (decide_eq_false (by walk_at "om")) ?_ | refine ifNegN (decide_eq_true (by walk_at "om")) ?_)
  | ((with_reducible show if decide ((_ : Int) ≤ _) = true then _ else _); first | refine ifPos (decide_eq_true (by walk_at "om")) ?_ | refine ifNeg (decide_eq_false (by walk_at "om")) ?_)
  | ((with_reducible show if (!decide ((_ : Int) ≤ _)) = true then _ else _); first | refine ifPosN (decide_eq_false (by walk_at "om")) ?_ | refine ifNegN (decide_eq_true (by walk_at "om")) ?_)
  | ((with_reducible show if decide ((_ : Int) = _) = true then _ else _); first | refine ifPos (decide_eq_true (by walk_at "om")) ?_ | refine ifNeg (decide_eq_false (by walk_at "om")) ?_)
  | ((with_reducible show if (!decide ((_ : Int) = _)) = true then _ else _); first | refine ifPosN (decide_eq_false (by walk_at "om")) ?_ | refine ifNegN (decide_eq_true (by walk_at "om")) ?_)
  | ((with_reducible show lcB _ _ _ (List.map _ _) [] _); walk_at "L")
  | ((with_reducible show lcB _ _ _ (signsD _) [] _); (unfold signsD; walk_at "L"))
  | ((with_reducible show (∃ (ns : List Str) (fds : List D), InsD _ _ _ ns fds ∧ ns.contains _ = false) ∧ _); refine ⟨⟨_, _, .inl rfl, by decide⟩, ?_⟩)
  | ((with_reducible show True ∧ _); refine ⟨trivial, ?_⟩)
  | ((with_reducible show isL _ _ ∧ _); refine ⟨s_isL (by walk_at "cell"), ?_⟩)
  | ((with_reducible show CMul _ _ ∧ _); refine ⟨by walk_at "nm", ?_⟩)
  | ((with_reducible show CPow _ _ ∧ _); refine ⟨⟨by decide, by decide, by decide⟩, ?_⟩)
  | ((with_reducible show _ ∧ _); refine ⟨by walk_at "n", ?_⟩)
  | ((with_reducible show ∃ (i : Nat) (z Cl : Addr) (ns : List Str) (ds : List D), _ = D.raw (V.ref z) ∧ _ ∧ Cls _ Cl ∧ _ ∧ _ ∧ _); walk_at "sfld"))
local macro_rules | `(tactic| walk_at "sfld") => `(tactic| first
  | fail)
local macro_rules | `(tactic| walk_at "few") => `(tactic| first | decide | exact (show (1 : Nat) < 1000 by decide) | exact (show (2 : Nat) < 1000 by decide) | exact (show (3 : Nat) < 1000 by decide) | exact (show (4 : Nat) < 1000 by decide) | exact (show (5 : Nat) < 1000 by decide) | exact (show (6 : Nat) < 1000 by decide) | exact (show (7 : Nat) < 1000 by decide) | exact (show (8 : Nat) < 1000 by decide) | exact (show (9 : Nat) < 1000 by decide) | exact (show (10 : Nat) < 1000 by decide) | exact (show (11 : Nat) < 1000 by decide) | exact (show (12 : Nat) < 1000 by decide))
local macro_rules | `(tactic| walk_at "eq") => `(tactic| first
  | fail)
local macro_rules | `(tactic| walk_at "ne") => `(tactic| first
  | fail)
local macro_rules | `(tactic| walk_at "fld") => `(tactic| first
  | fail)
local macro_rules | `(tactic| walk_at "ix") => `(tactic| first
  | fail)
local macro_rules | `(tactic| walk_at "isi") => `(tactic| first
  | refine s_isi (.ty _) (.str _) (by rfl) ?_)
local macro_rules | `(tactic| walk_at "h") => `(tactic| with_reducible (conv => whnf))
local macro_rules | `(tactic| walk_at "c") => `(tactic| fail)
local macro_rules | `(tactic| walk_at "pm2") => `(tactic| first | walk_at "pm" | exact List.Perm.trans (List.Perm.trans (by with_reducible assumption) q213) q213 | exact List.Perm.trans (List.Perm.trans (by with_reducible assumption) q213) q312 | exact List.Perm.trans (List.Perm.trans (by with_reducible assumption) q213) q4123 | exact List.Perm.trans (List.Perm.trans (by with_reducible assumption) q213) q51234 | exact List.Perm.trans (List.Perm.trans (by with_reducible assumption) q312) q213 | exact List.Perm.trans (List.Perm.trans (by with_reducible assumption) q312) q312 | exact List.Perm.trans (List.Perm.trans (by with_reducible assumption) q312) q4123 | exact List.Perm.trans (List.Perm.trans (by with_reducible assumption) q312) q51234 | exact List.Perm.trans (List.Perm.trans (by with_reducible assumption) q4123) q213 | exact List.Perm.trans (List.Perm.trans (by with_reducible assumption) q4123) q312 | exact List.Perm.trans (List.Perm.trans (by with_reducible assumption) q4123) q4123 | exact List.Perm.trans (List.Perm.trans (by with_reducible assumption) q4123) q51234 | exact List.Perm.trans (List.Perm.trans (by with_reducible assumption) q51234) q213 | exact List.Perm.trans (List.Perm.trans (by with_reducible assumption) q51234) q312 | exact List.Perm.trans (List.Perm.trans (by with_reducible assumption) q51234) q4123 | exact List.Perm.trans (List.Perm.trans (by with_reducible assumption) q51234) q51234 | exact List.Perm.trans (List.Perm.trans (List.Perm.trans (by with_reducible assumption) q213) q213) q213 | exact List.Perm.trans (List.Perm.trans (List.Perm.trans (by with_reducible assumption) q213) q213) q312 | exact List.Perm.trans (List.Perm.trans (List.Perm.trans (by with_reducible assumption) q213) q213) q4123 | exact List.Perm.trans (List.Perm.trans (List.Perm.trans (by with_reducible assumption) q213) q312) q213 | exact List.Perm.trans (List.Perm.trans (List.Perm.trans (by with_reducible assumption) q213) q312) q312 | exact List.Perm.trans (List.Perm.trans (List.Perm.trans (by with_reducible assumption) q213) q312) q4123 | exact List.Perm.trans (List.Perm.trans (List.Perm.trans (by with_reducible assumption) q213) q4123) q213 | exact List.Perm.trans (List.Perm.trans (List.Perm.trans (by with_reducible assumption) q213) q4123) q312 | exact List.Perm.trans (List.Perm.trans (List.Perm.trans (by with_reducible assumption) q213) q4123) q4123 | exact List.Perm.trans (List.Perm.trans (List.Perm.trans (by with_reducible assumption) q312) q213) q213 | exact List.Perm.trans (List.Perm.trans (List.Perm.trans (by with_reducible assumption) q312) q213) q312 | exact List.Perm.trans (List.Perm.trans (List.Perm.trans (by with_reducible assumption) q312) q213) q4123 | exact List.Perm.trans (List.Perm.trans (List.Perm.trans (by with_reducible assumption) q312) q312) q213 | exact List.Perm.trans (List.Perm.trans (List.Perm.trans (by with_reducible assumption) q312) q312) q312 | exact List.Perm.trans (List.Perm.trans (List.Perm.trans (by with_reducible assumption) q312) q312) q4123 | exact List.Perm.trans (List.Perm.trans (List.Perm.trans (by with_reducible assumption) q312) q4123) q213 | exact List.Perm.trans (List.Perm.trans (List.Perm.trans (by with_reducible assumption) q312) q4123) q312 | exact List.Perm.trans (List.Perm.trans (List.Perm.trans (by with_reducible assumption) q312) q4123) q4123 | exact List.Perm.trans (List.Perm.trans (List.Perm.trans (by with_reducible assumption) q4123) q213) q213 | exact List.Perm.trans (List.Perm.trans (List.Perm.trans (by with_reducible assumption) q4123) q213) q312 | exact List.Perm.trans (List.Perm.trans (List.Perm.trans (by with_reducible assumption) q4123) q213) q4123 | exact List.Perm.trans (List.Perm.trans (List.Perm.trans (by with_reducible assumption) q4123) q312) q213 | exact List.Perm.trans (List.Perm.trans (List.Perm.trans (by with_reducible assumption) q4123) q312) q312 | exact List.Perm.trans (List.Perm.trans (List.Perm.trans (by with_reducible assumption) q4123) q312) q4123 | exact List.Perm.trans (List.Perm.trans (List.Perm.trans (by with_reducible assumption) q4123) q4123) q213 | exact List.Perm.trans (List.Perm.trans (List.Perm.trans (by with_reducible assumption) q4123) q4123) q312 | exact List.Perm.trans (List.Perm.trans (List.Perm.trans (by with_reducible assumption) q4123) q4123) q4123)
local macro_rules | `(tactic| walk_at "cellx") => `(tactic| fail)
local macro_rules | `(tactic| walk_at "pm") => `(tactic| first | with_reducible assumption | exact List.Perm.refl _ | exact q213 | exact q312 | exact q4123 | exact q0 | exact List.Perm.trans (by with_reducible assumption) q213 | exact List.Perm.trans (by with_reducible assumption) q312 | exact List.Perm.trans (by with_reducible assumption) q4123 | exact List.Perm.trans (by with_reducible assumption) q51234 | exact List.Perm.trans (by with_reducible assumption) q0)
local macro_rules | `(tactic| walk_at "g") => `(tactic| ((repeat (first | walk_at "p" | walk_at "c" | (walk_at "h"; first | walk_at "p" | walk_at "c"))); try walk_at "h"))
local macro_rules | `(tactic| walk_at "S") => `(tactic| (walk_at "g"; try ((with_reducible show if _ then _ else _); refine ite2M (fun h => ?_) (fun h => ?_) <;> walk_at "S")))
local macro_rules | `(tactic| walk_at "om") => `(tactic| first | omega | (simp only [List.length_cons, List.length_nil, List.length_map, List.length_append, rangeD_len]; omega))
local macro_rules | `(tactic| walk_at "P0") => `(tactic| first | trivial | walk_at "sq" | with_reducible assumption)
local macro_rules | `(tactic| walk_at "ln") => `(tactic| first | with_reducible assumption | omega | (simp only [List.length_map, List.length_append, List.length_filter, rangeD_len]; omega) | (rw [Array.length_toList]; first | assumption | (show Str.length _ ≤ _; omega)) | (simp; omega))
local macro_rules | `(tactic| walk_at "L") => `(tactic| (refine lcB_map _ ?hh (by walk_at "P0") ?el (by walk_at "ln") ?rest; (case el => (intro a ha k hk; walk_at "g"; exact hk))))
local macro_rules | `(tactic| walk_at "d") => `(tactic| (refine c_draw0 T (by with_reducible assumption) (by walk_at "n") (by walk_at "n") fun k qs m k0 k1 hd => ?_))
local macro_rules | `(tactic| walk_at "fld") => `(tactic| first
  | ((with_reducible show pFld _ "letter" (.ins T.c_Row _ _) _ _); refine s_fld (.inl rfl) T.i_Row.c T.na_Row_letter (by rfl) ?_)
  | ((with_reducible show pFld _ "tests" (.ins T.c_Row _ _) _ _); refine s_fld (.inl rfl) T.i_Row.c T.na_Row_tests (by rfl) ?_)
  | ((with_reducible show pFld _ "deeds" (.ins T.c_Row _ _) _ _); refine s_fld (.inl rfl) T.i_Row.c T.na_Row_deeds (by rfl) ?_)
  | ((with_reducible show pFld _ "rows" (.ins T.c_Page _ _) _ _); refine s_fld (.inl rfl) T.i_Page.c T.na_Page_rows (by rfl) ?_))
local macro_rules | `(tactic| walk_at "isi") => `(tactic| first
  | ((with_reducible show on2 (pIsI _) [.ins T.c_Row _ _, .raw (.ref T.c_Row)] _ _); refine s_isi (.own _) (.ins T.i_Row) kit_self ?_)
  | ((with_reducible show on2 (pIsI _) [.ins T.c_Page _ _, .raw (.ref T.c_Page)] _ _); refine s_isi (.own _) (.ins T.i_Page) kit_self ?_))
local macro_rules | `(tactic| walk_at "sfld") => `(tactic| first
  | refine ⟨0, _, _, _, _, rfl, rfl, T.i_Row.c, T.na_Row_letter, by walk_at "few", ?_⟩
  | refine ⟨1, _, _, _, _, rfl, rfl, T.i_Row.c, T.na_Row_letter, by walk_at "few", ?_⟩
  | refine ⟨0, _, _, _, _, rfl, rfl, T.i_Row.c, T.na_Row_tests, by walk_at "few", ?_⟩
  | refine ⟨1, _, _, _, _, rfl, rfl, T.i_Row.c, T.na_Row_tests, by walk_at "few", ?_⟩
  | refine ⟨0, _, _, _, _, rfl, rfl, T.i_Row.c, T.na_Row_deeds, by walk_at "few", ?_⟩
  | refine ⟨1, _, _, _, _, rfl, rfl, T.i_Row.c, T.na_Row_deeds, by walk_at "few", ?_⟩
  | refine ⟨0, _, _, _, _, rfl, rfl, T.i_Page.c, T.na_Page_rows, by walk_at "few", ?_⟩
  | refine ⟨1, _, _, _, _, rfl, rfl, T.i_Page.c, T.na_Page_rows, by walk_at "few", ?_⟩)
section
variable {P : Program} {w : World} {K : W.Frag} {mg : Str → Option Value} {base : Heap}
def dealC (p q : Addr) (qs : List Int) (m : Int) : Cells := [(p, .lst [.raw (.ref q), .int m]), (q, .lst (qs.map D.int))]
def absI (i : Int) : Int := if i < 0 then -i else i
structure DealOk (qs : List Int) (m : Int) : Prop where
  l : qs.length ≤ 63
  a : 0 ≤ m
  b : m < 2147483647
theorem p_deal (T : Tp P K mg) {ns : List Int} {b : Int} {Qx : QX} {Q : QE} (hl : ns.length ≤ 63) (hb : 0 ≤ b) (hb2 : b ≤ 63) (h : ∀ p q qs m, DealOk qs m → Q (.raw (.ref p)) (dealC p q qs m)) :
    w__law_deal T (.lst (ns.map .int)) (.int b) Qx Q [] := by
  unfold w__law_deal
  walk_at "h"
  walk_at "g"
  rw [cutD_map]
  have hl2 : (cutL ns (some b) (some 63)).length ≤ 63 := by
    have := ((List.take_sublist (HT.sIx ns.length ns.length (some 63) - HT.sIx ns.length 0 (some b)) (ns.drop (HT.sIx ns.length 0 (some b)))).trans (List.drop_sublist _ _)).length_le
    exact Nat.le_trans this hl
  generalize cutL ns (some b) (some 63) = cs at hl2
  refine lcB_map (l := cs) D.int (fun i => .int (absI i)) trivial (fun i _ k q => ?_) (by omega) ?_
  · walk_at "g"
    exact q
  walk_at "g"
  refine loop_inv (fun _ s C => ∃ m : Int, s = .int m ∧ 0 ≤ m ∧ m < 2147483647 ∧ C = []) ⟨_, rfl, by omega, by omega, rfl⟩ ?_ ?_
  · rintro i d s C nx hi ⟨m, rfl, h0, h1, rfl⟩ hn
    refine ⟨trivial, ?_⟩
    rw [List.getElem?_map] at hi
    obtain ⟨v, rfl⟩ : ∃ v, d = .int v := by
      cases e : cs[i]? with
      | none => rw [e] at hi; cases hi
      | some v => rw [e] at hi; cases hi; exact ⟨_, rfl⟩
    unfold w__law_deal_l1
    walk_at "g"
    exact part_id (hn _ _ ⟨_, rfl, Int.emod_nonneg _ (by decide), Int.emod_lt_of_pos _ (by decide), rfl⟩)
  · rintro s C ⟨m, rfl, h0, h1, rfl⟩
    refine ⟨trivial, ?_⟩
    unfold w__law_deal_a2
    walk_at "g"
    refine lcB1_map (l := cs) (fun i => .int (absI i)) (fun i => .int (absI i)) (fun i => decide ((10 : Int) ^ 18 ≤ absI i)) trivial (fun i _ k q => ?_) (fun i _ _ k q => ?_) (by omega) ?_
    · walk_at "g"
      exact q
    · exact q
    walk_at "g"
    intro q
    walk_at "g"
    intro p
    refine drop_id ?_
    have := h p q ((cs.filter fun i => decide ((10 : Int) ^ 18 ≤ absI i)).map absI).reverse m ⟨by rw [List.length_reverse, List.length_map]; exact Nat.le_trans (List.length_filter_le _ _) hl2, h0, h1⟩
    unfold dealC at this
    rw [List.map_reverse, List.map_map] at this
    exact this
theorem p_draw (T : Tp P K mg) {p q : Addr} {qs : List Int} {m n : Int} {Qx : QX} {Q : QE} (hd : DealOk qs m) (hn : 0 < n) (hn2 : n < 1073741824) (h : ∀ k qs' m', 0 ≤ k → k < n → DealOk qs' m' → Q (.int k) (dealC p q qs' m')) :
    w__law_draw T (.raw (.ref p)) (.int n) Qx Q (dealC p q qs m) := by
  unfold w__law_draw
  refine ⟨fun j _ C => ∃ qs : List Int, qs.length ≤ 63 ∧ j = qs.length ∧ C = dealC p q qs m, ⟨_, qs, hd.l, rfl, rfl⟩, ?_⟩
  rintro j _ C ⟨qs, hq, rfl, rfl⟩
  unfold w__law_draw_t1
  walk_at "h"
  walk_at "g"
  refine s_neD (.inl rfl) (eqd_lstI (xs := qs) (ys := []) (by walk_at "cell") .l) ?_
  walk_at "g"
  refine ite2M (fun h1 => ?_) (fun h1 => ?_)
  · have hne : qs ≠ [] := fun z => by subst z; cases h1
    obtain ⟨ys, y, rfl⟩ : ∃ ys y, qs = ys ++ [y] := ⟨_, _, (List.dropLast_concat_getLast hne).symm⟩
    have hq1 : (dealC p q (ys ++ [y]) m)[1]? = some (q, Cell.lst (ys.map .int ++ [.int y])) := by
      show some (q, Cell.lst ((ys ++ [y]).map D.int)) = _
      rw [List.map_append]; rfl
    walk_at "g"
    refine s_ix_cell (.c hq1) atI_last ?_
    walk_at "g"
    have fin : decide (y = 0) = false → w__law_draw_a3 T (.raw (.ref p)) (.int n) Qx Q () (dealC p q (ys ++ [y]) m) := fun _ => by
      unfold w__law_draw_a3
      walk_at "g"
      refine s_neD (.inl rfl) (eqd_lstI (xs := ys ++ [y]) (ys := []) (by walk_at "cell") .l) ?_
      walk_at "g"
      rw [if_pos (show (!decide (ys ++ [y] = [])) = true by simp)]
      walk_at "g"
      refine s_pop (d := .int y) 1 hq1 ?_
      walk_at "g"
      have := h (y % n) (ys ++ [y / n]) m (Int.emod_nonneg _ (by omega)) (Int.emod_lt_of_pos _ hn) ⟨by simp at hq ⊢; omega, hd.a, hd.b⟩
      unfold dealC at this
      rw [List.map_append] at this
      exact this
    refine ite2M (fun h2 => ?_) (fun h2 => fin (by simpa using h2))
    unfold w__law_draw_l2
    walk_at "g"
    refine s_pop (d := .int y) 1 hq1 ?_
    exact part_id ⟨ys.length, by simp, ys, by simp at hq; omega, rfl, rfl⟩
  · walk_at "g"
    unfold w__law_draw_a3
    walk_at "g"
    refine s_neD (.inl rfl) (eqd_lstI (xs := qs) (ys := []) (by walk_at "cell") .l) ?_
    walk_at "g"
    rw [if_neg h1]
    walk_at "g"
    refine ⟨0, p, _, 1, 1, rfl, rfl, rfl, rfl, ?_⟩
    walk_at "g"
    exact h _ qs _ (Int.emod_nonneg _ (by omega)) (Int.emod_lt_of_pos _ hn) ⟨hq, Int.emod_nonneg _ (by decide), Int.emod_lt_of_pos _ (by decide)⟩



def fitsS (w l : Str) : Bool := !decide (l = "list") || !decide (w ∈ cst_OF_ANSWERS)
def kNot : Str := "not "
def bareS (s : Str) : Str := if Txt.startswith s kNot = true then cutS s (some 4) none else s
def isTestS (s l : Str) : Bool := decide (bareS s ∈ cst_TESTS) && fitsS (bareS s) l
def isDeedS (s l : Str) : Bool := decide (s ∈ cst_DEEDS) && fitsS s l
def isTestD (l : Str) (d : D) : Bool := isStr d && isTestS (strOf d) l
def isDeedD (l : Str) (d : D) : Bool := isStr d && isDeedS (strOf d) l
def SqV (K : W.Frag) (C : Cells) (d : D) (o : Option (List D)) : Prop := (o = none ∧ SqA K C d false) ∨ ∃ xs, o = some xs ∧ SeqD C d xs ∧ xs.length ≤ 100000 ∧ ∀ x ∈ xs, AnyD K C x
def rowErr (d1 : D) (o2 o3 : Option (List D)) : Option Str :=
  if (isStr d1 && decide (strOf d1 ∈ cst_LETTERS)) = false then some "letter"
  else if (o2.any fun xs => xs.all (isTestD (strOf d1))) = false then some "tests"
  else if (o3.any fun xs => xs.all (isDeedD (strOf d1))) = false then some "deeds" else none

def rowD (c : Addr) (l : Str) (ts ds : List Str) : D := .ins c ["letter", "tests", "deeds"] [.str l, .tup (ts.map D.str), .tup (ds.map D.str)]
def kIf : Str := " if "
def kDo : Str := " do "
def kAnd : Str := " and "
def kThen : Str := " then "
def noS : Str := ""
def partT (k s : Str) (ts : List Str) : Str := if ts = [] then noS else Str.empty ++ k ++ Txt.join s ts
def rowT (l : Str) (ts ds : List Str) : Str := Str.empty ++ l ++ partT kIf kAnd ts ++ partT kDo kThen ds
structure RowOk (l : Str) (ts dd : List Str) : Prop where
  l : l.length ≤ 10
  t : (ts.map (·.length)).sum ≤ 1000
  t2 : ts.length ≤ 1000
  d : (dd.map (·.length)).sum ≤ 1000
  d2 : dd.length ≤ 1000
theorem partT_len (k s : Str) (ts : List Str) (h : (ts.map (·.length)).sum ≤ 1000) (h2 : ts.length ≤ 1000) (hs : s.length ≤ 6) (hk : k.length ≤ 6) : (partT k s ts).length ≤ 8000 := by
  unfold partT
  split
  · decide
  · have h3 := txt_join_len s ts
    have h4 : ts.length * s.length ≤ 1000 * 6 := Nat.mul_le_mul h2 hs
    rw [Str.length_append, Str.length_append, str_len0]
    omega



def rdP (s : Str) := Txt.partition s kDo
def rdQ (s : Str) := Txt.partition (rdP s).1 kIf
def rdL (s : Str) : Str := (rdQ s).1
def rdT (s : Str) : List Str := if (!decide ((rdQ s).2.1 = noS)) = true then Txt.split (rdQ s).2.2 kAnd else []
def rdD (s : Str) : List Str := if (!decide ((rdP s).2.1 = noS)) = true then Txt.split (rdP s).2.2 kThen else []
theorem rd_len (s : Str) : (rdP s).1.length ≤ s.length ∧ (rdP s).2.2.length ≤ s.length ∧ (rdQ s).1.length ≤ s.length ∧ (rdQ s).2.2.length ≤ s.length := by
  have h1 := PyProof.Rows.fact_partition s kDo
  have h2 := PyProof.Rows.fact_partition (rdP s).1 kIf
  exact ⟨h1.1, h1.2.2, Nat.le_trans h2.1 h1.1, Nat.le_trans h2.2.2 h1.1⟩
open TL in
def wdsT (t : Str) : List Wd := TL.spl [32] 0 [] (TL.tl t)
def wDo : Wd := [100, 111]
def wIf : Wd := [105, 102]
def wAnd : Wd := [97, 110, 100]
def wThen : Wd := [116, 104, 101, 110]
def allT : List Str := cst_TESTS ++ cst_TESTS.map fun t => kNot ++ t
structure WordsOk (t : Str) (bad : Wd) (bad2 : Wd) : Prop where
  tl : TL.tl t = jn (wdsT t)
  nb : ∀ q ∈ wdsT t, NoBl q
  b1 : bad ∉ wdsT t
  b2 : bad2 ∉ wdsT t
  ne : wdsT t ≠ []
  ln : t.length ≤ 9
theorem allT_ok : ∀ t ∈ allT, WordsOk t wDo wAnd := by
  have all : ∀ t ∈ allT, TL.tl t = jn (wdsT t) ∧ (∀ q ∈ wdsT t, (32 : Nat) ∉ q) ∧ wDo ∉ wdsT t ∧ wAnd ∉ wdsT t ∧ wdsT t ≠ [] ∧ t.length ≤ 9 := by decide +kernel
  exact fun t ht => let ⟨a, b, c, d, e, f⟩ := all t ht; ⟨a, b, c, d, e, f⟩
theorem allD_ok : ∀ t ∈ cst_DEEDS, WordsOk t wThen wThen := by
  have all : ∀ t ∈ cst_DEEDS, TL.tl t = jn (wdsT t) ∧ (∀ q ∈ wdsT t, (32 : Nat) ∉ q) ∧ wThen ∉ wdsT t ∧ wThen ∉ wdsT t ∧ wdsT t ≠ [] ∧ t.length ≤ 9 := by decide +kernel
  exact fun t ht => let ⟨a, b, c, d, e, f⟩ := all t ht; ⟨a, b, c, d, e, f⟩
theorem let_ok : ∀ l ∈ cst_LETTERS, NoBl (TL.tl l) ∧ l.length ≤ 4 := by
  have all : ∀ l ∈ cst_LETTERS, (32 : Nat) ∉ TL.tl l ∧ l.length ≤ 4 := by decide +kernel
  exact all
theorem tl_kDo : TL.tl kDo = sepW wDo := by decide +kernel
theorem tl_kIf : TL.tl kIf = sepW wIf := by decide +kernel
theorem tl_kAnd : TL.tl kAnd = sepW wAnd := by decide +kernel
theorem tl_kThen : TL.tl kThen = sepW wThen := by decide +kernel
def partW (k s : Wd) (ts : List Str) : List Wd := if ts = [] then [] else k :: inter s (ts.map wdsT)
theorem tl_join_words {w : Wd} {s : Str} {ts : List Str} (hs : TL.tl s = sepW w) (h : ∀ t ∈ ts, TL.tl t = jn (wdsT t) ∧ wdsT t ≠ []) : TL.tl (Txt.join s ts) = jn (inter w (ts.map wdsT)) := by
  rw [TL.join_eq, TL.tl_join, hs, jn_inter (by
    intro p hp
    obtain ⟨t, ht, rfl⟩ := List.mem_map.mp hp
    exact (h t ht).2), List.map_map]
  congr 1
  exact List.map_congr_left fun t ht => (h t ht).1
theorem tl_partT {k s : Str} {wk w : Wd} {ts : List Str} (hk : TL.tl k = sepW wk) (hs : TL.tl s = sepW w) (h : ∀ t ∈ ts, TL.tl t = jn (wdsT t) ∧ wdsT t ≠ []) (p : List Wd) (hp : p ≠ []) :
    jn p ++ TL.tl (partT k s ts) = jn (p ++ partW wk w ts) := by
  unfold partT partW
  by_cases e : ts = []
  · rw [if_pos e, if_pos e]
    show jn p ++ [] = jn (p ++ [])
    simp
  · rw [if_neg e, if_neg e, TL.tl_append, TL.tl_append, tl_join_words hs h, hk]
    have hn : inter w (ts.map wdsT) ≠ [] := inter_ne (by simpa using e) (by
      intro p hp
      obtain ⟨t, ht, rfl⟩ := List.mem_map.mp hp
      exact (h t ht).2)
    rw [jn_app hp (by simp)]
    cases e2 : inter w (ts.map wdsT) with
    | nil => exact absurd e2 hn
    | cons a b =>
      rw [jn_cons]
      show jn p ++ (([] ++ sepW wk) ++ jn (a :: b)) = _
      simp [sepW]



theorem wd_bits : NoBl wDo ∧ NoBl wIf ∧ NoBl wAnd ∧ NoBl wThen := by
  have : (32 : Nat) ∉ wDo ∧ (32 : Nat) ∉ wIf ∧ (32 : Nat) ∉ wAnd ∧ (32 : Nat) ∉ wThen := by decide +kernel
  exact this
theorem partW_nb {k s : Wd} {ts : List Str} (hk : NoBl k) (hs : NoBl s) (h : ∀ t ∈ ts, ∀ q ∈ wdsT t, NoBl q) : ∀ q ∈ partW k s ts, NoBl q := by
  intro q hq
  unfold partW at hq
  split at hq
  · cases hq
  · rcases List.mem_cons.mp hq with h1 | h1
    · rw [h1]; exact hk
    · rcases mem_inter h1 with h2 | ⟨p, h2, h3⟩
      · rw [h2]; exact hs
      · obtain ⟨t, ht, rfl⟩ := List.mem_map.mp h2
        exact h t ht q h3
theorem back_list {ts : List Str} (h : ∀ t ∈ ts, TL.tl t = jn (wdsT t)) : (ts.map wdsT).map (fun p => ofL (jn p)) = ts := by
  rw [List.map_map]
  conv => rhs; rw [← List.map_id ts]
  exact List.map_congr_left fun t ht => by show ofL (jn (wdsT t)) = t; rw [← h t ht, ofL_tl]
theorem row_back {l : Str} {ts dd : List Str} (hl : l ∈ cst_LETTERS) (ht : ∀ t ∈ ts, t ∈ allT) (hd : ∀ d ∈ dd, d ∈ cst_DEEDS) :
    rdL (rowT l ts dd) = l ∧ rdT (rowT l ts dd) = ts ∧ rdD (rowT l ts dd) = dd := by
  have kt := fun t h => allT_ok t (ht t h)
  have kd := fun t h => allD_ok t (hd t h)
  have nl := (let_ok l hl).1
  obtain ⟨n1, n2, n3, n4⟩ := wd_bits
  have hx : TL.tl (rowT l ts dd) = jn ((TL.tl l :: partW wIf wAnd ts) ++ partW wDo wThen dd) := by
    unfold rowT
    rw [TL.tl_append, TL.tl_append, TL.tl_append]
    rw [show (TL.tl Str.empty ++ TL.tl l) = jn [TL.tl l] from rfl]
    rw [tl_partT tl_kIf tl_kAnd (fun t h => ⟨(kt t h).tl, (kt t h).ne⟩) [TL.tl l] (by simp)]
    rw [tl_partT tl_kDo tl_kThen (fun t h => ⟨(kd t h).tl, (kd t h).ne⟩) _ (by simp)]
    rfl
  have hA : ∀ q ∈ partW wIf wAnd ts, NoBl q := partW_nb n2 n3 fun t h => (kt t h).nb
  have hAdo : wDo ∉ partW wIf wAnd ts := by
    intro hq
    unfold partW at hq
    split at hq
    · cases hq
    · rcases List.mem_cons.mp hq with h1 | h1
      · exact absurd h1 (by decide)
      · rcases mem_inter h1 with h2 | ⟨p, h2, h3⟩
        · exact absurd h2 (by decide)
        · obtain ⟨t, ht, rfl⟩ := List.mem_map.mp h2
          exact (kt t ht).b1 h3
  -- the deeds
  have hP : TL.tl (rdP (rowT l ts dd)).1 = jn (TL.tl l :: partW wIf wAnd ts) ∧ rdD (rowT l ts dd) = dd := by
    by_cases e : dd = []
    · subst e
      rw [show partW wDo wThen [] = [] from rfl, List.append_nil] at hx
      have hp : rdP (rowT l ts []) = (rowT l ts [], Str.empty, Str.empty) := part_not tl_kDo n1 hx nl hA hAdo
      unfold rdD
      rw [hp]
      exact ⟨hx, by rw [if_neg (show ¬ (!decide (Str.empty = noS)) = true by decide)]⟩
    · rw [show partW wDo wThen dd = wDo :: inter wThen (dd.map wdsT) by unfold partW; rw [if_neg e]] at hx
      have hn : inter wThen (dd.map wdsT) ≠ [] := inter_ne (by simpa using e) (by
        intro p hp
        obtain ⟨t, ht, rfl⟩ := List.mem_map.mp hp
        exact (kd t ht).ne)
      have hB : ∀ q ∈ inter wThen (dd.map wdsT), NoBl q := fun q hq => by
        rcases mem_inter hq with h2 | ⟨p, h2, h3⟩
        · rw [h2]; exact n4
        · obtain ⟨t, ht, rfl⟩ := List.mem_map.mp h2
          exact (kd t ht).nb q h3
      have hp : rdP (rowT l ts dd) = (ofL (jn (TL.tl l :: partW wIf wAnd ts)), kDo, ofL (jn (inter wThen (dd.map wdsT)))) := part_found tl_kDo n1 hx nl hA hB hAdo hn
      unfold rdD
      rw [hp]
      refine ⟨tl_ofL _, ?_⟩
      rw [if_pos (show (!decide (kDo = noS)) = true by decide)]
      rw [split_words tl_kThen n4 (by decide +kernel) (tl_ofL _) (by simpa using e) (by
        intro p hp
        obtain ⟨t, ht, rfl⟩ := List.mem_map.mp hp
        exact ⟨(kd t ht).ne, (kd t ht).b1, (kd t ht).nb⟩)]
      exact back_list fun t h => (kd t h).tl
  refine ⟨?_, ?_, hP.2⟩
  all_goals
    have hx2 := hP.1
    by_cases e : ts = []
    · subst e
      rw [show partW wIf wAnd [] = [] from rfl] at hx2
      have hq : rdQ (rowT l [] dd) = ((rdP (rowT l [] dd)).1, Str.empty, Str.empty) := part_not tl_kIf n2 hx2 nl (by simp) (by simp)
      first
      | (unfold rdL; rw [hq]; exact TL.ext_tl hx2)
      | (unfold rdT; rw [hq, if_neg (show ¬ (!decide (Str.empty = noS)) = true by decide)])
    · rw [show partW wIf wAnd ts = [] ++ wIf :: inter wAnd (ts.map wdsT) by unfold partW; rw [if_neg e]; rfl] at hx2
      have hn : inter wAnd (ts.map wdsT) ≠ [] := inter_ne (by simpa using e) (by
        intro p hp
        obtain ⟨t, ht, rfl⟩ := List.mem_map.mp hp
        exact (kt t ht).ne)
      have hB : ∀ q ∈ inter wAnd (ts.map wdsT), NoBl q := fun q hq => by
        rcases mem_inter hq with h2 | ⟨p, h2, h3⟩
        · rw [h2]; exact n3
        · obtain ⟨t, ht, rfl⟩ := List.mem_map.mp h2
          exact (kt t ht).nb q h3
      have hq : rdQ (rowT l ts dd) = (ofL (jn [TL.tl l]), kIf, ofL (jn (inter wAnd (ts.map wdsT)))) := part_found tl_kIf n2 hx2 nl (by simp) hB (by simp) hn
      first
      | (unfold rdL; rw [hq]; exact ofL_tl l)
      | (unfold rdT
         rw [hq, if_pos (show (!decide (kIf = noS)) = true by decide)]
         rw [split_words tl_kAnd n3 (by decide +kernel) (tl_ofL _) (by simpa using e) (by
          intro p hp
          obtain ⟨t, ht, rfl⟩ := List.mem_map.mp hp
          exact ⟨(kt t ht).ne, (kt t ht).b2, (kt t ht).nb⟩)]
         exact back_list fun t h => (kt t h).tl)
structure GoodRow (l : Str) (ts dd : List Str) : Prop where
  le : l ∈ cst_LETTERS
  t : ∀ t ∈ ts, t ∈ allT ∧ isTestS t l = true
  d : ∀ d ∈ dd, d ∈ cst_DEEDS ∧ isDeedS d l = true
  tl : ts.length ≤ 4
  dl : dd.length ≤ 4
theorem sum_le {l : List Str} {k : Nat} (h : ∀ t ∈ l, t.length ≤ k) : (l.map (·.length)).sum ≤ l.length * k := by
  induction l with
  | nil => simp
  | cons a l ih =>
    have h1 := h a List.mem_cons_self
    have h2 := ih fun t ht => h t (List.mem_cons_of_mem _ ht)
    simp only [List.map_cons, List.sum_cons, List.length_cons, Nat.add_mul, Nat.one_mul]
    omega
theorem GoodRow.ok {l : Str} {ts dd : List Str} (h : GoodRow l ts dd) : RowOk l ts dd := by
  have s1 := sum_le (l := ts) (k := 9) fun t ht => (allT_ok t (h.t t ht).1).ln
  have s2 := sum_le (l := dd) (k := 9) fun t ht => (allD_ok t (h.d t ht).1).ln
  have h1 := h.tl
  have h2 := h.dl
  have h3 := (let_ok l h.le).2
  exact ⟨by omega, by omega, by omega, by omega, by omega⟩
theorem GoodRow.err {l : Str} {ts dd : List Str} (h : GoodRow l ts dd) : rowErr (.str l) (some (ts.map D.str)) (some (dd.map D.str)) = none := by
  have e1 : (isStr (D.str l) && decide (strOf (D.str l) ∈ cst_LETTERS)) = true := by
    show decide (l ∈ cst_LETTERS) = true
    exact decide_eq_true h.le
  have e2 : (ts.map D.str).all (isTestD l) = true := by
    rw [List.all_eq_true]
    intro x hx
    obtain ⟨t, ht, rfl⟩ := List.mem_map.mp hx
    exact (h.t t ht).2
  have e3 : (dd.map D.str).all (isDeedD l) = true := by
    rw [List.all_eq_true]
    intro x hx
    obtain ⟨t, ht, rfl⟩ := List.mem_map.mp hx
    exact (h.d t ht).2
  unfold rowErr
  rw [if_neg (by rw [e1]; decide), if_neg (by show ¬ (ts.map D.str).all (isTestD l) = false; rw [e2]; decide), if_neg (by show ¬ (dd.map D.str).all (isDeedD l) = false; rw [e3]; decide)]



theorem allT_str : ∀ t ∈ allT, PyData.strOk t = true := by decide +kernel
theorem allD_str : ∀ t ∈ cst_DEEDS, PyData.strOk t = true := by decide +kernel
def pieceW (k s : Str) (ts : List Str) : List Str := if ts = [] then [] else [k ++ Txt.join s ts]
theorem tl_bits : TL.tl kIf = TL.tl (Str.ofString " ") ++ TL.tl (Str.ofString "if ") ∧ TL.tl kDo = TL.tl (Str.ofString " ") ++ TL.tl (Str.ofString "do ") := by decide +kernel
theorem rowT_join (l : Str) (ts dd : List Str) : Txt.join (Str.ofString " ") (l :: (pieceW (Str.ofString "if ") kAnd ts ++ pieceW (Str.ofString "do ") kThen dd)) = rowT l ts dd := by
  obtain ⟨b1, b2⟩ := tl_bits
  apply TL.ext_tl
  unfold rowT partT pieceW
  have e0 : TL.tl Str.empty = [] := rfl
  have e1 : TL.tl noS = [] := rfl
  rw [TL.join_eq, TL.tl_append, TL.tl_append, TL.tl_append, e0]
  by_cases h1 : ts = [] <;> by_cases h2 : dd = [] <;> simp [h1, h2, Str.join, TL.tl_append, e0, e1, b1, b2]
def moreT : List Str := ["first", "gone"]
def moreD : List Str := ["do", "drop"]
def testsOf (l : Str) : List Str := (["old", "all", "open", "same"] : List Str) ++ (if l = "list" then [] else moreT)
def deedsOf (l : Str) : List Str := (["take", "sweep", "clear"] : List Str) ++ (if l = "list" then [] else moreD)
theorem drawn_ok : ∀ l ∈ cst_LETTERS, (∀ t ∈ testsOf l, (t ∈ allT ∧ isTestS t l = true) ∧ (kNot ++ t ∈ allT ∧ isTestS (kNot ++ t) l = true) ∧ t.length ≤ 9) ∧
    (∀ d ∈ deedsOf l, d ∈ cst_DEEDS ∧ isDeedS d l = true) ∧ (testsOf l).length ≤ 6 ∧ 0 < (testsOf l).length ∧ (deedsOf l).length ≤ 6 ∧ 0 < (deedsOf l).length := by decide +kernel



theorem p_is_sequence (T : Tp P K mg) {d : D} {b : Bool} {C : Cells} {Q : QE} {Qx : QX} (h : SqA K C d b) (q : Q (.bl b) C) : callW (fw_is_sequence T) Qx [d] C Q := by
  refine call_all (show w_is_sequence T d Qx Q C from ?_)
  unfold w_is_sequence
  walk_at "g"
  refine s_isSq h ?_
  exact q
theorem p_fits (T : Tp P K mg) {x l : Str} {C : Cells} {Q : QE} {Qx : QX} (q : Q (.bl (fitsS x l)) C) : callW (fw_fits_letter T) Qx [.str x, .str l] C Q := by
  refine call_all (show w_fits_letter T (.str x) (.str l) Qx Q C from ?_)
  unfold w_fits_letter
  walk_at "g"
  unfold fitsS at q
  refine ite2M (fun h1 => ?_) (fun h1 => ?_)
  · rw [h1] at q; exact q
  · rw [eq_false_of_ne_true h1] at q
    walk_at "g"
    exact q
theorem p_is_test (T : Tp P K mg) {d : D} {l : Str} {C : Cells} {Q : QE} {Qx : QX} (ha : AnyD K C d) (q : Q (.bl (isTestD l d)) C) : callW (fw_is_test T) Qx [d, .str l] C Q := by
  refine call_all (show w_is_test T d (.str l) Qx Q C from ?_)
  unfold w_is_test
  walk_at "g"
  refine s_isStr ha ?_
  walk_at "g"
  have hl := ha.ln
  unfold isTestD at q
  by_cases hd : isStr d = true
  · obtain ⟨s, rfl⟩ : ∃ s, d = .str s := by cases d <;> first | exact ⟨_, rfl⟩ | cases hd
    refine ifF ?_
    have hl' : s.length ≤ 100000 := hl
    walk_at "g"
    refine if_val (.str (bareS s)) (fun h1 Q q => ?_) (fun h1 Q q => ?_) ?_
    · unfold bareS at q
      rw [if_pos (show Txt.startswith s kNot = true from h1)] at q
      walk_at "g"
      exact q
    · unfold bareS at q
      rw [if_neg (show ¬ Txt.startswith s kNot = true by rw [show Txt.startswith s kNot = false from h1]; decide)] at q
      exact q
    walk_at "g"
    have q' : Q (.bl (isTestS s l)) C := q
    unfold isTestS at q'
    refine ite2M (fun h2 => ?_) (fun h2 => ?_)
    · rw [show decide (bareS s ∈ cst_TESTS) = true from h2] at q'
      walk_at "g"
      exact p_fits T q'
    · rw [show decide (bareS s ∈ cst_TESTS) = false from eq_false_of_ne_true h2] at q'
      exact q'
  · have e : isStr d = false := by simpa using hd
    rw [e] at q ⊢
    refine ifT ?_
    walk_at "g"
    exact q
theorem p_is_deed (T : Tp P K mg) {d : D} {l : Str} {C : Cells} {Q : QE} {Qx : QX} (ha : AnyD K C d) (q : Q (.bl (isDeedD l d)) C) : callW (fw_is_deed T) Qx [d, .str l] C Q := by
  refine call_all (show w_is_deed T d (.str l) Qx Q C from ?_)
  unfold w_is_deed
  walk_at "g"
  refine s_isStr ha ?_
  walk_at "g"
  unfold isDeedD at q
  by_cases hd : isStr d = true
  · obtain ⟨s, rfl⟩ : ∃ s, d = .str s := by cases d <;> first | exact ⟨_, rfl⟩ | cases hd
    refine ifT ?_
    walk_at "g"
    have q' : Q (.bl (isDeedS s l)) C := q
    unfold isDeedS at q'
    refine ite2M (fun h2 => ?_) (fun h2 => ?_)
    · rw [show decide (s ∈ cst_DEEDS) = true from h2] at q'
      walk_at "g"
      exact p_fits T q'
    · rw [show decide (s ∈ cst_DEEDS) = false from eq_false_of_ne_true h2] at q'
      exact q'
  · have e : isStr d = false := by simpa using hd
    rw [e] at q ⊢
    refine ifF ?_
    exact q
theorem p_Row_init (T : Tp P K mg) {z : Addr} {d1 d2 d3 : D} {o2 o3 : Option (List D)} {C' : Cells} {Q : QE} {Qx : QX} (h1 : AnyD K ((z, .ins T.c_Row [] []) :: C') d1) (h2 : SqV K ((z, .ins T.c_Row [] []) :: C') d2 o2) (h3 : SqV K ((z, .ins T.c_Row [] []) :: C') d3 o3)
    (hb : ∀ w, rowErr d1 o2 o3 = some w → Qx (.ref T.c_InvalidRow) (some (["word"], [.str w])) ((z, .ins T.c_Row [] []) :: C'))
    (hg : rowErr d1 o2 o3 = none → Q .non ((z, .ins T.c_Row ["letter", "tests", "deeds"] [d1, .tup (o2.getD []), .tup (o3.getD [])]) :: C')) :
    w_Row_init T (.raw (.ref z)) d1 d2 d3 Qx Q ((z, .ins T.c_Row [] []) :: C') := by
  unfold w_Row_init
  walk_at "g"
  refine s_isStr h1 ?_
  walk_at "g"
  by_cases hd : isStr d1 = true
  · obtain ⟨s, rfl⟩ : ∃ s, d1 = .str s := by cases d1 <;> first | exact ⟨_, rfl⟩ | cases hd
    refine ifF ?_
    walk_at "g"
    refine ite2M (fun hL => ?_) (fun hL => ?_)
    · walk_at "g"
      refine hb _ ?_
      have : decide (s ∈ cst_LETTERS) = false := by simpa using hL
      unfold rowErr
      rw [if_pos (by show (true && decide (s ∈ cst_LETTERS)) = false; rw [this]; rfl)]
    have hL' : decide (s ∈ cst_LETTERS) = true := by simpa using hL
    have e1 : (isStr (D.str s) && decide (strOf (D.str s) ∈ cst_LETTERS)) = true := hL'
    walk_at "g"
    rcases h2 with ⟨rfl, hs2⟩ | ⟨xs, rfl, hs2, hxl, hxa⟩
    · refine p_is_sequence T hs2 ?_
      walk_at "g"
      refine hb _ ?_
      unfold rowErr
      rw [if_neg (by rw [e1]; decide), if_pos (by rfl)]
    refine p_is_sequence T (sq_seq hs2) ?_
    walk_at "g"
    refine s_it_seq hs2 fun P hP => ?_
    refine lcB_mapD (fun d => .bl (isTestD s d)) (hP _ hs2) (fun d hd k q => ?_) hxl ?_
    · walk_at "g"
      exact p_is_test T (hxa d hd) q
    walk_at "g"
    refine ite2M (fun hT => ?_) (fun hT => ?_)
    · walk_at "g"
      refine hb _ ?_
      have : xs.all (isTestD s) = false := by simpa using hT
      unfold rowErr
      rw [if_neg (by rw [e1]; decide), if_pos (by exact this)]
    have hT' : xs.all (isTestD s) = true := by simpa using hT
    walk_at "g"
    rcases h3 with ⟨rfl, hs3⟩ | ⟨ys, rfl, hs3, hyl, hya⟩
    · refine p_is_sequence T hs3 ?_
      walk_at "g"
      refine hb _ ?_
      unfold rowErr
      rw [if_neg (by rw [e1]; decide), if_neg (by show ¬ xs.all (isTestD s) = false; rw [hT']; decide), if_pos (by rfl)]
    refine p_is_sequence T (sq_seq hs3) ?_
    walk_at "g"
    refine s_it_seq hs3 fun P hP => ?_
    refine lcB_mapD (fun d => .bl (isDeedD s d)) (hP _ hs3) (fun d hd k q => ?_) hyl ?_
    · walk_at "g"
      exact p_is_deed T (hya d hd) q
    walk_at "g"
    refine ite2M (fun hD => ?_) (fun hD => ?_)
    · walk_at "g"
      refine hb _ ?_
      have : ys.all (isDeedD s) = false := by simpa using hD
      unfold rowErr
      rw [if_neg (by rw [e1]; decide), if_neg (by show ¬ xs.all (isTestD s) = false; rw [hT']; decide), if_pos (by exact this)]
    have hD' : ys.all (isDeedD s) = true := by simpa using hD
    have hn : rowErr (.str s) (some xs) (some ys) = none := by
      unfold rowErr
      rw [if_neg (by rw [e1]; decide), if_neg (by show ¬ xs.all (isTestD s) = false; rw [hT']; decide), if_neg (by show ¬ ys.all (isDeedD s) = false; rw [hD']; decide)]
    walk_at "g"
    refine s_tuple_seq (seqD_ins hs2) ?_
    walk_at "g"
    refine s_tuple_seq (seqD_ins hs3) ?_
    walk_at "g"
    exact hg hn
  · have e : isStr d1 = false := by simpa using hd
    rw [e]
    refine ifT ?_
    walk_at "g"
    refine hb _ ?_
    unfold rowErr
    rw [e]
    rfl



theorem p_Row_str (T : Tp P K mg) {l : Str} {ts dd : List Str} {C : Cells} {Q : QE} {Qx : QX} (h : RowOk l ts dd) (q : Q (.str (rowT l ts dd)) C) : w_Row_str T (rowD T.c_Row l ts dd) Qx Q C := by
  have p1 := partT_len kIf kAnd ts h.t h.t2 (by decide) (by decide)
  have p2 := partT_len kDo kThen dd h.d h.d2 (by decide) (by decide)
  have j1 := txt_join_len kAnd ts
  have j2 := txt_join_len kThen dd
  have m1 : ts.length * kAnd.length ≤ 1000 * 5 := Nat.mul_le_mul h.t2 (by decide)
  have m2 : dd.length * kThen.length ≤ 1000 * 6 := Nat.mul_le_mul h.d2 (by decide)
  have e1 : (Str.ofString " if ").length = 4 := by decide
  have e2 : (Str.ofString " do ").length = 4 := by decide
  have e3 : (Str.ofString " and ").length = 5 := by decide
  have e4 : (Str.ofString " then ").length = 6 := by decide
  have ht := h.t; have ht2 := h.t2; have hd := h.d; have hd2 := h.d2; have hl := h.l
  have j1 : (Txt.join (Str.ofString " and ") ts).length ≤ 10000 := by show (Txt.join kAnd ts).length ≤ _; omega
  have j2 : (Txt.join (Str.ofString " then ") dd).length ≤ 10000 := by show (Txt.join kThen dd).length ≤ _; omega
  unfold w_Row_str rowD
  walk_at "g"
  refine if_val (.str (partT kIf kAnd ts)) (fun h1 Q q => ?_) (fun h1 Q q => ?_) ?_
  · have e : ¬ ts = [] := by rintro rfl; simp at h1
    unfold partT at q
    rw [if_neg e] at q
    walk_at "g"
    refine ⟨by rw [e3]; omega, ?_⟩
    walk_at "g"
    exact ⟨by rw [Str.length_append, Str.length_append, e1, str_len0]; omega, q⟩
  · have e : ts = [] := by
      cases ts with
      | nil => rfl
      | cons => simp at h1
    unfold partT at q
    rw [if_pos e] at q
    exact q
  walk_at "g"
  refine if_val (.str (partT kDo kThen dd)) (fun h1 Q q => ?_) (fun h1 Q q => ?_) ?_
  · have e : ¬ dd = [] := by rintro rfl; simp at h1
    unfold partT at q
    rw [if_neg e] at q
    walk_at "g"
    refine ⟨by rw [e4]; omega, ?_⟩
    walk_at "g"
    exact ⟨by rw [Str.length_append, Str.length_append, e2, str_len0]; omega, q⟩
  · have e : dd = [] := by
      cases dd with
      | nil => rfl
      | cons => simp at h1
    unfold partT at q
    rw [if_pos e] at q
    exact q
  have a1 : (Str.empty ++ l).length ≤ 20 := by rw [Str.length_append, str_len0]; omega
  have a2 : (Str.empty ++ l ++ partT kIf kAnd ts).length ≤ 8100 := by rw [Str.length_append]; omega
  have a3 : (Str.empty ++ l ++ partT kIf kAnd ts ++ partT kDo kThen dd).length ≤ 18000 := by rw [Str.length_append]; omega
  walk_at "g"
  exact q
theorem o_Row_str (T : Tp P K mg) {l : Str} {ts dd : List Str} {C : Cells} {Q : QE} (h : RowOk l ts dd) (q : ∀ r, r = rowT l ts dd → Q (.str r) C) : ownStr T.c_Row (fw_Row_str T) (rowD T.c_Row l ts dd) C Q :=
  ⟨_, _, .inl rfl, callN_all (p_Row_str T (Qx := fun _ _ _ => False) h ⟨_, rfl, q _ rfl⟩)⟩


theorem c_deal (T : Tp P K mg) {ns : List Int} {b : Int} {Xq : QX} {Q : QE} {C : Cells} (hl : ns.length ≤ 63) (hb : 0 ≤ b) (hb2 : b ≤ 63) (h : ∀ p q qs m, DealOk qs m → Q (.raw (.ref p)) (dealC p q qs m ++ C)) :
    callW (fw__law_deal T) Xq [.lst (ns.map .int), .int b] C Q := call_none (p_deal T hl hb hb2 h)
theorem c_draw0 (T : Tp P K mg) {p q : Addr} {qs : List Int} {m n : Int} {Xq : QX} {Q : QE} (hd : DealOk qs m) (hn : 0 < n) (hn2 : n < 1073741824) (h : ∀ k qs' m', 0 ≤ k → k < n → DealOk qs' m' → Q (.int k) (dealC p q qs' m')) :
    callW (fw__law_draw T) Xq [.raw (.ref p), .int n] (dealC p q qs m) Q := call_all (p_draw T hd hn hn2 h)



theorem c_drawP (T : Tp P K mg) {p q : Addr} {qs : List Int} {m n : Int} {Xq : QX} {Q : QE} {C r : Cells} (pm : C.Perm (dealC p q qs m ++ r)) (hd : DealOk qs m) (hn : 0 < n) (hn2 : n < 1073741824) (h : ∀ k qs' m', 0 ≤ k → k < n → DealOk qs' m' → Q (.int k) (dealC p q qs' m' ++ r)) :
    callW (fw__law_draw T) Xq [.raw (.ref p), .int n] C Q := ⟨dealC p q qs m, r, pm, p_draw T hd hn hn2 h⟩
theorem l_draws {α : Type} {p q : Addr} {qs : List Int} {m : Int} {r : Cells} {f : D → ME} {Q : QE} {ds : List D} (g : α → D) (S : α → Prop) (hd : DealOk qs m) (hl : ds.length ≤ 100000)
    (step : ∀ d qs m (k : QE), DealOk qs m → (∀ x qs' m', S x → DealOk qs' m' → k (g x) (dealC p q qs' m' ++ r)) → f d (dealC p q qs m ++ r) k)
    (h : ∀ (xs : List α) qs' m', xs.length = ds.length → (∀ x ∈ xs, S x) → DealOk qs' m' → Q (.lst (xs.map g)) (dealC p q qs' m' ++ r)) : lcB (fun _ => True) f Q ds [] (dealC p q qs m ++ r) := by
  refine lcB_inv (fun i acc C => ∃ (xs : List α) (qs : List Int) (m : Int), DealOk qs m ∧ acc = xs.map g ∧ xs.length = i ∧ (∀ x ∈ xs, S x) ∧ C = dealC p q qs m ++ r) ⟨[], qs, m, hd, rfl, rfl, by simp, rfl⟩ ?_ ?_ hl ?_
  · rintro i d acc C k hi ⟨xs, qs, m, hd, rfl, rfl, hx, rfl⟩ hk
    refine ⟨trivial, step d qs m k hd fun x qs' m' hS hd' => hk _ _ ⟨xs ++ [x], qs', m', hd', by simp, by simp, fun y hy => ?_, rfl⟩⟩
    rcases List.mem_append.mp hy with h | h
    · exact hx y h
    · rw [List.mem_singleton.mp h]; exact hS
  · rintro acc C ⟨xs, qs, m, hd, rfl, hn, hx, rfl⟩
    exact ⟨trivial, h xs qs m hn hx hd⟩
  · rintro i acc C ⟨xs, _, _, _, rfl, h, _⟩
    rw [List.length_map]; omega
theorem s_ix_atC {α : Type} {C : Cells} {Q : QE} {l : List α} {g : α → D} {a : Addr} {k : Int} (h : LstD C (.raw (.ref a)) (l.map g)) (h0 : 0 ≤ k) (h1 : k < l.length) (q : ∀ a ∈ l, Q (g a) C) : pIx (.raw (.ref a)) (.int k) C Q := by
  obtain ⟨x, e, hm⟩ := atI_in (l := l) h0 h1
  exact s_ix_cell h (atI_map g e) (q x hm)
theorem eqd_rfl {C : Cells} {d : D} (h1 : plainD d = true) (h2 : (toPy d).canLay0 = true) (h3 : (toPy d).depth ≤ 30) : EqD C d d true := by
  have hs : SeqAt.shaped (toPy d) = true := by
    unfold SeqAt.shaped
    rw [h2, Bool.true_and]
    exact decide_eq_true (by omega)
  exact ⟨_, _, .inl ⟨h1, rfl⟩, .inl ⟨h1, rfl⟩, hs, hs, SeqAt.eqv_refl _ h2⟩



theorem p_lrow (T : Tp P K mg) {p q : Addr} {qs : List Int} {m : Int} {Qx : QX} {Q : QE} (hd : DealOk qs m) (k : ∀ l ts dd qs' m', GoodRow l ts dd → DealOk qs' m' → Q (.tup [.str l, .lst (ts.map D.str), .lst (dd.map D.str)]) (dealC p q qs' m')) :
    w__law_row T (.raw (.ref p)) Qx Q (dealC p q qs m) := by
  unfold w__law_row
  walk_at "g"
  refine c_draw0 T hd (by decide) (by decide) fun f qs1 m1 hf0 hf1 hd1 => ?_
  refine s_ix_at (l := cst_LETTERS) (g := D.str) hf0 hf1 fun l hl => ?_
  obtain ⟨hT, hD, hTl, hT0, hDl, hD0⟩ := drawn_ok l hl
  have go : w__law_row_j1 T (.raw (.ref p)) (.str l) Qx Q (.lst ((testsOf l).map D.str), .lst ((deedsOf l).map D.str)) (dealC p q qs1 m1) := by
    unfold w__law_row_j1
    walk_at "g"
    refine c_draw0 T hd1 (by decide) (by decide) fun n qs2 m2 hn0 hn1 hd2 => ?_
    walk_at "g"
    refine lcB_inv (fun i acc C1 => ∃ (xs : List Str) (qs : List Int) (m : Int), DealOk qs m ∧ acc = xs.map D.str ∧ xs.length = i ∧ i ≤ 4 ∧ (∀ x ∈ xs, x ∈ testsOf l) ∧ C1 = dealC p q qs m) ⟨[], qs2, m2, hd2, rfl, rfl, by decide, by simp, rfl⟩ ?_ ?_ (by rw [rangeD_len]; omega) ?_
    · rintro i d acc C1 k hi ⟨xs, qs2, m2, hd2, rfl, rfl, hl4, hx, rfl⟩ hk
      have hlt : xs.length < 4 := by
        have := (List.getElem?_eq_some_iff.mp hi).1
        rw [rangeD_len] at this
        omega
      refine ⟨trivial, ?_⟩
      walk_at "g"
      refine c_draw0 T hd2 (by rw [List.length_map]; omega) (by rw [List.length_map]; omega) fun f qs3 m3 hf0 hf1 hd3 => ?_
      rw [List.length_map] at hf1
      refine s_ix_at (l := testsOf l) (g := D.str) hf0 hf1 fun t ht => hk _ _ ⟨xs ++ [t], qs3, m3, hd3, by simp, by simp, by omega, fun x hx' => ?_, rfl⟩
      rcases List.mem_append.mp hx' with h | h
      · exact hx x h
      · rw [List.mem_singleton.mp h]; exact ht
    rotate_left
    · rintro i acc C1 ⟨xs, _, _, _, rfl, h, _⟩
      rw [List.length_map]; omega
    rintro acc C1 ⟨ts0, qs3, m3, hd3, rfl, hxl, hl4, hts0, rfl⟩
    replace hl4 : ts0.length ≤ 4 := by omega
    clear hxl
    refine ⟨trivial, ?_⟩
    walk_at "g"
    refine lcB_inv (fun i acc C1 => ∃ (xs : List Str) (qs : List Int) (m : Int), DealOk qs m ∧ acc = xs.map D.str ∧ xs.length = i ∧ (∀ x ∈ xs, x ∈ allT ∧ isTestS x l = true) ∧ C1 = dealC p q qs m) ⟨[], qs3, m3, hd3, rfl, rfl, by simp, rfl⟩ ?_ ?_ (by rw [List.length_map]; omega) ?_
    · rintro i d acc C1 k hi ⟨xs, qs4, m4, hd4, rfl, rfl, hx, rfl⟩ hk
      obtain ⟨t, ht, rfl⟩ := List.mem_map.mp (List.mem_of_getElem? hi)
      have h3 := hT t (hts0 t ht)
      refine ⟨trivial, ?_⟩
      walk_at "g"
      refine c_draw0 T hd4 (by decide) (by decide) fun f qs5 m5 hf0 hf1 hd5 => ?_
      have fin : ∀ t', (t' ∈ allT ∧ isTestS t' l = true) → k (.str t') (dealC p q qs5 m5) := fun t' ht' => hk _ _
        ⟨xs ++ [t'], qs5, m5, hd5, by simp, by simp, fun x hx' => by
          rcases List.mem_append.mp hx' with h | h
          · exact hx x h
          · rw [List.mem_singleton.mp h]; exact ht', rfl⟩
      have hlen : (Str.ofString "not ").length = 4 := by decide
      walk_at "g"
      refine ite2M (fun h1 => ?_) (fun h1 => ?_)
      · walk_at "g"
        exact fin _ h3.2.1
      · walk_at "g"
        exact fin _ h3.1
    rotate_left
    · rintro i acc C1 ⟨xs, _, _, _, rfl, h, _⟩
      rw [List.length_map]; omega
    rintro acc C1 ⟨ts, qs4, m4, hd4, rfl, hxl, hts, rfl⟩
    rw [List.length_map] at hxl
    refine ⟨trivial, ?_⟩
    walk_at "g"
    refine c_draw0 T hd4 (by decide) (by decide) fun n qs5 m5 hn0 hn1 hd5 => ?_
    walk_at "g"
    refine lcB_inv (fun i acc C1 => ∃ (xs : List Str) (qs : List Int) (m : Int), DealOk qs m ∧ acc = xs.map D.str ∧ xs.length = i ∧ i ≤ 4 ∧ (∀ x ∈ xs, x ∈ deedsOf l) ∧ C1 = dealC p q qs m) ⟨[], qs5, m5, hd5, rfl, rfl, by decide, by simp, rfl⟩ ?_ ?_ (by rw [rangeD_len]; omega) ?_
    · rintro i d acc C1 k hi ⟨xs, qs2, m2, hd2, rfl, rfl, hl4, hx, rfl⟩ hk
      have hlt : xs.length < 4 := by
        have := (List.getElem?_eq_some_iff.mp hi).1
        rw [rangeD_len] at this
        omega
      refine ⟨trivial, ?_⟩
      walk_at "g"
      refine c_draw0 T hd2 (by rw [List.length_map]; omega) (by rw [List.length_map]; omega) fun f qs3 m3 hf0 hf1 hd3 => ?_
      rw [List.length_map] at hf1
      refine s_ix_at (l := deedsOf l) (g := D.str) hf0 hf1 fun t ht => hk _ _ ⟨xs ++ [t], qs3, m3, hd3, by simp, by simp, by omega, fun x hx' => ?_, rfl⟩
      rcases List.mem_append.mp hx' with h | h
      · exact hx x h
      · rw [List.mem_singleton.mp h]; exact ht
    rotate_left
    · rintro i acc C1 ⟨xs, _, _, _, rfl, h, _⟩
      rw [List.length_map]; omega
    rintro acc C1 ⟨dd, qs6, m6, hd6, rfl, hdl, hdl4, hdd, rfl⟩
    refine ⟨trivial, ?_⟩
    walk_at "g"
    exact k l ts dd qs6 m6 ⟨hl, hts, fun d h => hD d (hdd d h), by omega, by omega⟩ hd6
  walk_at "g"
  refine ite2M (fun h1 => ?_) (fun h1 => ?_)
  · have e : ¬ l = "list" := by simpa using h1
    walk_at "g"
    have e1 : (testsOf l).map D.str = [.str "old", .str "all", .str "open", .str "same"] ++ [.str "first", .str "gone"] := by unfold testsOf; rw [if_neg e]; rfl
    have e2 : (deedsOf l).map D.str = [.str "take", .str "sweep", .str "clear"] ++ [.str "do", .str "drop"] := by unfold deedsOf; rw [if_neg e]; rfl
    rw [e1, e2] at go
    exact go
  · have e : l = "list" := by simpa using h1
    walk_at "g"
    have e1 : (testsOf l).map D.str = [.str "old", .str "all", .str "open", .str "same"] := by unfold testsOf; rw [if_pos e]; rfl
    have e2 : (deedsOf l).map D.str = [.str "take", .str "sweep", .str "clear"] := by unfold deedsOf; rw [if_pos e]; rfl
    rw [e1, e2] at go
    exact go
theorem c_lrow (T : Tp P K mg) {p q : Addr} {qs : List Int} {m : Int} {Xq : QX} {Q : QE} {r : Cells} (hd : DealOk qs m) (k : ∀ l ts dd qs' m', GoodRow l ts dd → DealOk qs' m' → Q (.tup [.str l, .lst (ts.map D.str), .lst (dd.map D.str)]) (dealC p q qs' m' ++ r)) :
    callW (fw__law_row T) Xq [.raw (.ref p)] (dealC p q qs m ++ r) Q := ⟨dealC p q qs m, r, List.Perm.refl _, p_lrow T hd k⟩



theorem p_lrow_text (T : Tp P K mg) {l : Str} {ts dd : List Str} {C : Cells} {Q : QE} {Qx : QX} (h : GoodRow l ts dd) (q : ∀ r, r = rowT l ts dd → Q (.str r) C) : callW (fw__law_row_text T) Qx [.tup [.str l, .lst (ts.map D.str), .lst (dd.map D.str)]] C Q := by
  refine cl__law_row_text T ?_
  have sT : ∀ t ∈ ts, PyData.strOk t = true := fun t ht => allT_str t (h.t t ht).1
  have sD : ∀ t ∈ dd, PyData.strOk t = true := fun t ht => allD_str t (h.d t ht).1
  have ok := h.ok
  have j1 := txt_join_len kAnd ts
  have j2 := txt_join_len kThen dd
  have m1 : ts.length * kAnd.length ≤ 1000 * 5 := Nat.mul_le_mul ok.t2 (by decide)
  have m2 : dd.length * kThen.length ≤ 1000 * 6 := Nat.mul_le_mul ok.d2 (by decide)
  have e1 : (Str.ofString "if ").length = 3 := by decide
  have e2 : (Str.ofString "do ").length = 3 := by decide
  have e3 : (Str.ofString " and ").length = 5 := by decide
  have e4 : (Str.ofString " then ").length = 6 := by decide
  have e5 : (Str.ofString " ").length = 1 := by decide
  have ht := ok.t; have ht2 := ok.t2; have hd := ok.d; have hd2 := ok.d2; have hl := ok.l
  have k1 : (Txt.join (Str.ofString " and ") ts).length ≤ 10000 := by show (Txt.join kAnd ts).length ≤ _; omega
  have k2 : (Txt.join (Str.ofString " then ") dd).length ≤ 10000 := by show (Txt.join kThen dd).length ≤ _; omega
  have w1 : (pieceW (Str.ofString "if ") kAnd ts).length ≤ 1 ∧ ((pieceW (Str.ofString "if ") kAnd ts).map (·.length)).sum ≤ 10003 := by
    unfold pieceW; split
    · exact ⟨by decide, by decide⟩
    · exact ⟨by simp, by simp only [List.map, List.sum_cons, List.sum_nil, Str.length_append]; show _ + (Txt.join (Str.ofString " and ") ts).length + 0 ≤ _; omega⟩
  have w2 : (pieceW (Str.ofString "do ") kThen dd).length ≤ 1 ∧ ((pieceW (Str.ofString "do ") kThen dd).map (·.length)).sum ≤ 10003 := by
    unfold pieceW; split
    · exact ⟨by decide, by decide⟩
    · exact ⟨by simp, by simp only [List.map, List.sum_cons, List.sum_nil, Str.length_append]; show _ + (Txt.join (Str.ofString " then ") dd).length + 0 ≤ _; omega⟩
  unfold w__law_row_text
  walk_at "g"
  intro a
  walk_at "g"
  have fin : w__law_row_text_j2 T (.raw (.ref a)) Qx Q () ((a, .lst ((l :: (pieceW (Str.ofString "if ") kAnd ts ++ pieceW (Str.ofString "do ") kThen dd)).map D.str)) :: C) := by
    unfold w__law_row_text_j2
    walk_at "g"
    refine ⟨?_, ?_⟩
    · rw [e5, Nat.mul_one]
      simp only [List.map_cons, List.map_append, List.sum_cons, List.sum_append, List.length_cons, List.length_append]
      omega
    refine drop_one ?_
    exact q _ (rowT_join l ts dd)
  have mid : w__law_row_text_j1 T (.lst (dd.map D.str)) (.raw (.ref a)) Qx Q () ((a, .lst ((l :: pieceW (Str.ofString "if ") kAnd ts).map D.str)) :: C) := by
    unfold w__law_row_text_j1
    walk_at "g"
    refine s_neD (.inl rfl) (eqd_lstS (xs := dd) (ys := []) .l .l sD (by simp)) ?_
    walk_at "g"
    refine ite2M (fun h1 => ?_) (fun h1 => ?_)
    · have e : ¬ dd = [] := by simpa using h1
      walk_at "g"
      refine ⟨by rw [e4]; omega, ?_⟩
      walk_at "g"
      rw [show pieceW (Str.ofString "do ") kThen dd = [Str.ofString "do " ++ Txt.join (Str.ofString " then ") dd] by unfold pieceW; rw [if_neg e]; rfl, ← List.cons_append, List.map_append] at fin
      exact fin
    · have e : dd = [] := by simpa using h1
      walk_at "g"
      rw [show pieceW (Str.ofString "do ") kThen dd = [] by unfold pieceW; rw [if_pos e], List.append_nil] at fin
      exact fin
  refine s_neD (.inl rfl) (eqd_lstS (xs := ts) (ys := []) .l .l sT (by simp)) ?_
  walk_at "g"
  refine ite2M (fun h1 => ?_) (fun h1 => ?_)
  · have e : ¬ ts = [] := by simpa using h1
    walk_at "g"
    refine ⟨by rw [e3]; omega, ?_⟩
    walk_at "g"
    rw [show pieceW (Str.ofString "if ") kAnd ts = [Str.ofString "if " ++ Txt.join (Str.ofString " and ") ts] by unfold pieceW; rw [if_neg e]; rfl] at mid
    exact mid
  · have e : ts = [] := by simpa using h1
    walk_at "g"
    rw [show pieceW (Str.ofString "if ") kAnd ts = [] by unfold pieceW; rw [if_pos e]] at mid
    exact mid



theorem mk_Row (T : Tp P K mg) {d1 d2 d3 : D} {o2 o3 : Option (List D)} {C : Cells} {Q : QE} {Xq : QX} (h1 : AnyD K C d1) (h2 : SqV K C d2 o2) (h3 : SqV K C d3 o3) (he : rowErr d1 o2 o3 = none)
    (q : Q (.ins T.c_Row ["letter", "tests", "deeds"] [d1, .tup (o2.getD []), .tup (o3.getD [])]) C) : pMkF (fw_Row_init T) Xq T.c_Row [d1, d2, d3] C Q := by
  have sub : ∀ {d : D} {o : Option (List D)} {z : Addr}, SqV K C d o → SqV K ((z, .ins T.c_Row [] []) :: C) d o := by
    rintro d o z (⟨h, h2⟩ | ⟨xs, h, h2, h3, h4⟩)
    · exact .inl ⟨h, sqA_sub (fun x hx => List.mem_cons_of_mem _ hx) h2⟩
    · exact .inr ⟨xs, h, seqD_sub (fun x hx => List.mem_cons_of_mem _ hx) h2, h3, fun x hx => anyD_sub (fun x hx => List.mem_cons_of_mem _ hx) (h4 x hx)⟩
  refine mkF_of (ns := []) (fs := []) fun z => p_Row_init T (anyD_sub (fun x hx => List.mem_cons_of_mem _ hx) h1) (sub h2) (sub h3) (fun w hw => by rw [he] at hw; cases hw) fun _ => ?_
  exact ⟨rfl, 0, z, _, _, _, rfl, rfl, q⟩
theorem sqv_strs {C : Cells} {d : D} {xs : List Str} (h : SeqD C d (xs.map D.str)) (hl : xs.length ≤ 100000) (hx : ∀ x ∈ xs, x.length ≤ 100000) : SqV K C d (some (xs.map D.str)) :=
  .inr ⟨_, rfl, h, by rw [List.length_map]; exact hl, fun x hx' => by
    obtain ⟨y, hy, rfl⟩ := List.mem_map.mp hx'
    exact any_str (hx y hy)⟩
theorem p_Row_read (T : Tp P K mg) {s : Str} {C : Cells} {Q : QE} {Qx : QX} (hl : s.length ≤ 100000) (ht : (rdT s).length ≤ 100000) (hd : (rdD s).length ≤ 100000) (htl : ∀ x ∈ rdT s, x.length ≤ 100000) (hdl : ∀ x ∈ rdD s, x.length ≤ 100000)
    (he : rowErr (.str (rdL s)) (some ((rdT s).map D.str)) (some ((rdD s).map D.str)) = none) (q : Q (rowD T.c_Row (rdL s) (rdT s) (rdD s)) C) : callW (fw_Row_read T) Qx [.raw (.ref T.c_Row), .str s] C Q := by
  refine cl_Row_read T ?_
  have rl := rd_len s
  have l1 : (Txt.partition s (Str.ofString " do ")).1.length ≤ 100000 := Nat.le_trans rl.1 hl
  have l2 : (Txt.partition s (Str.ofString " do ")).2.2.length ≤ 100000 := Nat.le_trans rl.2.1 hl
  have l3 := Nat.le_trans rl.2.2.1 hl
  have l4 : (Txt.partition (Txt.partition s (Str.ofString " do ")).1 (Str.ofString " if ")).2.2.length ≤ 100000 := Nat.le_trans rl.2.2.2 hl
  unfold w_Row_read
  walk_at "g"
  refine if_val (.lst ((rdT s).map D.str)) (fun h1 Q q => ?_) (fun h1 Q q => ?_) ?_
  · unfold rdT at q
    rw [if_pos (show (!decide ((rdQ s).2.1 = noS)) = true from h1)] at q
    walk_at "g"
    exact q
  · unfold rdT at q
    rw [if_neg (by rw [show (!decide ((rdQ s).2.1 = noS)) = false from h1]; decide)] at q
    walk_at "g"
    exact q
  walk_at "g"
  refine if_val (.lst ((rdD s).map D.str)) (fun h1 Q q => ?_) (fun h1 Q q => ?_) ?_
  · unfold rdD at q
    rw [if_pos (show (!decide ((rdP s).2.1 = noS)) = true from h1)] at q
    walk_at "g"
    exact q
  · unfold rdD at q
    rw [if_neg (by rw [show (!decide ((rdP s).2.1 = noS)) = false from h1]; decide)] at q
    walk_at "g"
    exact q
  walk_at "g"
  refine mk_Row T (any_str l3) (sqv_strs .l ht htl) (sqv_strs .l hd hdl) he ?_
  walk_at "g"
  unfold w_Row_read_j1
  walk_at "g"
  exact q
theorem p_Row_back (T : Tp P K mg) {l : Str} {ts dd : List Str} {C : Cells} {Q : QE} {Qx : QX} {s : Str} (hs : s = rowT l ts dd) (h : GoodRow l ts dd) (q : Q (rowD T.c_Row l ts dd) C) : callW (fw_Row_read T) Qx [.raw (.ref T.c_Row), .str s] C Q := by
  subst hs
  obtain ⟨e1, e2, e3⟩ := row_back h.le (fun t ht => (h.t t ht).1) (fun d hd => (h.d d hd).1)
  have ok := h.ok
  have tl4 := h.tl
  have dl4 := h.dl
  have p1 := partT_len kIf kAnd ts ok.t ok.t2 (by decide) (by decide)
  have p2 := partT_len kDo kThen dd ok.d ok.d2 (by decide) (by decide)
  have hl := ok.l
  refine p_Row_read T ?_ (by rw [e2]; omega) (by rw [e3]; omega) (by rw [e2]; exact fun t ht => Nat.le_trans (allT_ok t (h.t t ht).1).ln (by decide)) (by rw [e3]; exact fun t ht => Nat.le_trans (allD_ok t (h.d t ht).1).ln (by decide)) (by rw [e1, e2, e3]; exact h.err) (by rw [e1, e2, e3]; exact q)
  unfold rowT
  rw [Str.length_append, Str.length_append, Str.length_append, str_len0]
  omega



theorem bn1 {b : Bool} (h : (!b) = true) : b = false := by cases b <;> first | rfl | cases h
theorem bn3 {b : Bool} (h : (!b) = false) : b = true := by cases b <;> first | rfl | cases h



def isInsB : D → Bool
  | .ins _ _ _ => true
  | _ => false
def RowQ (K : W.Frag) (c : Addr) (C : Cells) (x : D) (b : Bool) : Prop := ∃ t, TyD K C x t ∧ W.kitOne K t (.ref c) = some b
def RowF (K : W.Frag) (c : Addr) (x : D) : Prop := ∀ C, RowQ K c C x (isInsB x)
def PgO (K : W.Frag) (c : Addr) (C : Cells) (d : D) (ok : Bool) (xs : List D) : Prop :=
  (ok = false ∧ SqA K C d false) ∨ (SeqD C d xs ∧ xs.length ≤ 100000 ∧ (∀ x ∈ xs, RowF K c x) ∧ ok = xs.all isInsB)
theorem p_Page_init (T : Tp P K mg) {z : Addr} {d : D} {ok : Bool} {xs : List D} {C' : Cells} {Q : QE} {Qx : QX} (h : PgO K T.c_Row ((z, .ins T.c_Page [] []) :: C') d ok xs)
    (hb : ok = false → Qx (.ref T.c_InvalidPage) none ((z, .ins T.c_Page [] []) :: C')) (hg : ok = true → Q .non ((z, .ins T.c_Page ["rows"] [.tup xs]) :: C')) :
    w_Page_init T (.raw (.ref z)) d Qx Q ((z, .ins T.c_Page [] []) :: C') := by
  unfold w_Page_init
  walk_at "g"
  rcases h with ⟨rfl, hs⟩ | ⟨hs, hl, hr, rfl⟩
  · refine p_is_sequence T hs ?_
    walk_at "g"
    exact hb rfl
  refine p_is_sequence T (sq_seq hs) ?_
  walk_at "g"
  refine s_it_seq hs fun P hP => ?_
  refine lcB_mapD (fun d => .bl (isInsB d)) (hP _ hs) (fun x hx k q => ?_) hl ?_
  · obtain ⟨t, h1, h2⟩ := hr x hx _
    walk_at "g"
    exact s_isi (.own _) h1 h2 q
  walk_at "g"
  refine ite2M (fun h1 => ?_) (fun h1 => ?_)
  · walk_at "g"
    exact hb (by simpa using h1)
  · have h2 : xs.all isInsB = true := by simpa using h1
    walk_at "g"
    exact hg h2
theorem mkX_Page (T : Tp P K mg) {d : D} {ok : Bool} {xs : List D} {C : Cells} {Q : QE} {Xq : QX} (h : PgO K T.c_Row C d ok xs)
    (hb : ok = false → ∀ z, Xq (.ref T.c_InvalidPage) none ((z, .ins T.c_Page [] []) :: C)) (hg : ok = true → Q (.ins T.c_Page ["rows"] [.tup xs]) C) : pMkF (fw_Page_init T) Xq T.c_Page [d] C Q := by
  refine mkF_of (ns := []) (fs := []) fun z => p_Page_init T (ok := ok) (xs := xs) ?_ (fun e => hb e z) fun e => ⟨rfl, 0, z, _, _, _, rfl, rfl, hg e⟩
  rcases h with ⟨rfl, hs⟩ | ⟨hs, hl, hr, rfl⟩
  · exact .inl ⟨rfl, sqA_sub (fun x hx => List.mem_cons_of_mem _ hx) hs⟩
  · exact .inr ⟨seqD_sub (fun x hx => List.mem_cons_of_mem _ hx) hs, hl, hr, rfl⟩



theorem row_f (T : Tp P K mg) (l : Str) (ts dd : List Str) : RowF K T.c_Row (rowD T.c_Row l ts dd) := fun C => ⟨_, .ins T.i_Row, kit_self⟩
abbrev R3 := Str × List Str × List Str
def good3 (r : R3) : Prop := GoodRow r.1 r.2.1 r.2.2
def rowR (c : Addr) (r : R3) : D := rowD c r.1 r.2.1 r.2.2
def rowT3 (r : R3) : Str := rowT r.1 r.2.1 r.2.2
abbrev pgD (c cr : Addr) (L : List R3) : D := .ins c ["rows"] [.tup (L.map (rowR cr))]
def kNl : Str := "\n"
def pageT (L : List R3) : Str := Txt.join kNl (L.map rowT3)
theorem partT_len2 (k s : Str) (ts : List Str) (h : ∀ t ∈ ts, t.length ≤ 9) (h2 : ts.length ≤ 4) (hs : s.length ≤ 6) (hk : k.length ≤ 6) : (partT k s ts).length ≤ 66 := by
  unfold partT
  split
  · decide
  · have h3 := txt_join_len s ts
    have h4 : ts.length * s.length ≤ 4 * 6 := Nat.mul_le_mul h2 hs
    have s1 : ∀ (l : List Str), (∀ x ∈ l, x.length ≤ 9) → (l.map (·.length)).sum ≤ l.length * 9 := by
      intro l
      induction l with
      | nil => intro _; simp
      | cons a l ih =>
        intro h
        have := ih fun x hx => h x (List.mem_cons_of_mem _ hx)
        have := h a List.mem_cons_self
        simp only [List.map_cons, List.sum_cons, List.length_cons]
        omega
    have s2 := s1 ts h
    rw [Str.length_append, Str.length_append, str_len0]
    omega
theorem rowT_len {r : R3} (h : good3 r) : (rowT3 r).length ≤ 140 := by
  have p1 := partT_len2 kIf kAnd r.2.1 (fun t ht => (allT_ok t (h.t t ht).1).ln) h.tl (by decide) (by decide)
  have p2 := partT_len2 kDo kThen r.2.2 (fun t ht => (allD_ok t (h.d t ht).1).ln) h.dl (by decide) (by decide)
  have := (let_ok r.1 h.le).2
  unfold rowT3 rowT
  rw [Str.length_append, Str.length_append, Str.length_append, str_len0]
  omega
theorem pageT_len {L : List R3} (h : ∀ r ∈ L, good3 r) : ((L.map rowT3).map (·.length)).sum + (L.map rowT3).length * 1 ≤ L.length * 141 := by
  induction L with
  | nil => simp
  | cons a l ih =>
    have := ih fun x hx => h x (List.mem_cons_of_mem _ hx)
    have := rowT_len (h a List.mem_cons_self)
    simp only [List.map_cons, List.sum_cons, List.length_cons] at *
    omega
theorem mkS_Page (T : Tp P K mg) {d : D} {L : List R3} {C : Cells} {Q : QE} {Xq : QX} (h : SeqD C d (L.map (rowR T.c_Row))) (hl : L.length ≤ 1000) (q : Q (pgD T.c_Page T.c_Row L) C) : pMkF (fw_Page_init T) Xq T.c_Page [d] C Q :=
  mkX_Page T (ok := true) (xs := L.map (rowR T.c_Row)) (.inr ⟨h, by rw [List.length_map]; omega, fun x hx => by
    obtain ⟨r, _, rfl⟩ := List.mem_map.mp hx
    exact row_f T _ _ _, by
    symm
    rw [List.all_eq_true]
    intro x hx
    obtain ⟨r, _, rfl⟩ := List.mem_map.mp hx
    rfl⟩) (fun e => (nomatch e)) fun _ => q
theorem o_Page_str (T : Tp P K mg) {L : List R3} {C : Cells} {Q : QE} (h : ∀ r ∈ L, good3 r) (hl : L.length ≤ 24) (q : ∀ r, r = pageT L → Q (.str r) C) : ownStr T.c_Page (fw_Page_str T) (pgD T.c_Page T.c_Row L) C Q :=
  ⟨_, _, .inl rfl, callN_all (show w_Page_str T _ (fun _ _ _ => False) _ C from by
    unfold w_Page_str pgD
    walk_at "g"
    refine lcB_map (rowR T.c_Row) (fun r => .str (rowT3 r)) trivial (fun r hr k hk => ?_) (by omega) ?_
    · walk_at "g"
      refine s_str_own (o_Row_str T (h r hr).ok fun x e => ?_)
      subst e
      exact hk
    walk_at "g"
    have pl := pageT_len h
    refine s_join (zs := L.map rowT3) (by rw [List.map_map]; exact .l) ⟨by show _ + _ * 1 ≤ _; omega, ?_⟩
    exact ⟨_, rfl, q _ rfl⟩)⟩
theorem p_Page_eq (T : Tp P K mg) {L M : List R3} {C : Cells} {Q : QE} {Qx : QX} (h : ∀ r ∈ L, good3 r) (hl : L.length ≤ 24) (h2 : ∀ r ∈ M, good3 r) (hl2 : M.length ≤ 24) (q : ∀ b, b = decide (pageT L = pageT M) → Q (.bl b) C) :
    w_Page_eq T (pgD T.c_Page T.c_Row L) (pgD T.c_Page T.c_Row M) Qx Q C := by
  unfold w_Page_eq
  walk_at "g"
  refine o_Page_str T h hl fun r1 e1 => ?_
  walk_at "g"
  refine o_Page_str T h2 hl2 fun r2 e2 => ?_
  walk_at "g"
  exact q _ (by rw [e1, e2])
theorem ne_Page (T : Tp P K mg) {L M : List R3} {C : Cells} {Q : QE} (h : ∀ r ∈ L, good3 r) (hl : L.length ≤ 24) (h2 : ∀ r ∈ M, good3 r) (hl2 : M.length ≤ 24) (q : ∀ b, b = decide (pageT L = pageT M) → Q (.bl (!b)) C) :
    ownB K T.c_Page (fw_Page_eq T) true (pgD T.c_Page T.c_Row L) (pgD T.c_Page T.c_Row M) C Q :=
  ⟨_, _, _, .inl rfl, .ins T.i_Page, T.nf_Page_Page, callN_all (p_Page_eq T (Qx := fun _ _ _ => False) h hl h2 hl2 fun b e => q b e)⟩
theorem len_Page (T : Tp P K mg) {L : List R3} {C : Cells} {Q : QE} (hl : L.length ≤ 1000) (q : Q (.int L.length) C) : ownLen T.c_Page (fw_Page_len T) (pgD T.c_Page T.c_Row L) C Q :=
  ⟨_, _, .inl rfl, callN_all (show w_Page_len T _ (fun _ _ _ => False) _ C from by
    unfold w_Page_len pgD
    walk_at "g"
    rw [List.length_map]
    exact ⟨_, rfl, by omega, q⟩)⟩



theorem mem_joinL {S : List Nat} {z : Nat} : ∀ {ps : List (List Nat)}, z ∈ TL.joinL S ps → z ∈ S ∨ ∃ p ∈ ps, z ∈ p
  | [], h => by cases h
  | [p], h => .inr ⟨p, List.mem_cons_self, h⟩
  | p :: q :: r, h => by
    rcases List.mem_append.mp h with h | h
    · exact .inr ⟨p, List.mem_cons_self, h⟩
    · rcases List.mem_append.mp h with h | h
      · exact .inl h
      · rcases mem_joinL h with h | ⟨p', h1, h2⟩
        · exact .inl h
        · exact .inr ⟨p', List.mem_cons_of_mem _ h1, h2⟩
theorem mem_join {y : Str} {z : Nat} {ps : List Str} (h : z ∈ TL.tl (Txt.join y ps)) : z ∈ TL.tl y ∨ ∃ p ∈ ps, z ∈ TL.tl p := by
  rw [TL.join_eq, TL.tl_join] at h
  rcases mem_joinL h with h | ⟨p, h1, h2⟩
  · exact .inl h
  · obtain ⟨q, hq, rfl⟩ := List.mem_map.mp h1
    exact .inr ⟨q, hq, h2⟩
theorem free_part {z : Nat} {k s : Str} {ts : List Str} (hk : z ∉ TL.tl k) (hs : z ∉ TL.tl s) (h : ∀ t ∈ ts, z ∉ TL.tl t) : z ∉ TL.tl (partT k s ts) := by
  unfold partT
  split
  · exact fun h => by cases h
  · rw [TL.tl_append, TL.tl_append]
    intro hm
    rcases List.mem_append.mp hm with hm | hm
    · rcases List.mem_append.mp hm with hm | hm
      · cases hm
      · exact hk hm
    · rcases mem_join hm with hm | ⟨t, ht, hm⟩
      · exact hs hm
      · exact h t ht hm
theorem allT_nl : ∀ t ∈ allT, (10 : Nat) ∉ TL.tl t := by decide +kernel
theorem allD_nl : ∀ t ∈ cst_DEEDS, (10 : Nat) ∉ TL.tl t := by decide +kernel
theorem let_nl : ∀ t ∈ cst_LETTERS, (10 : Nat) ∉ TL.tl t ∧ t.length ≠ 0 := by decide +kernel
theorem nl_free {r : R3} (h : good3 r) : (10 : Nat) ∉ TL.tl (rowT3 r) := by
  unfold rowT3 rowT
  rw [TL.tl_append, TL.tl_append, TL.tl_append]
  intro hm
  rcases List.mem_append.mp hm with hm | hm
  · rcases List.mem_append.mp hm with hm | hm
    · rcases List.mem_append.mp hm with hm | hm
      · cases hm
      · exact (let_nl _ h.le).1 hm
    · exact free_part (by decide +kernel) (by decide +kernel) (fun t ht => allT_nl t (h.t t ht).1) hm
  · exact free_part (by decide +kernel) (by decide +kernel) (fun t ht => allD_nl t (h.d t ht).1) hm
theorem rowT_ne {r : R3} (h : good3 r) : (rowT3 r).length ≠ 0 := by
  have := (let_nl _ h.le).2
  unfold rowT3 rowT
  rw [Str.length_append, Str.length_append, Str.length_append]
  omega
def linesOf (s : Str) : List Str := if s = noS then [] else Txt.split s kNl
theorem lines_page {L : List R3} (h : ∀ r ∈ L, good3 r) : linesOf (pageT L) = L.map rowT3 := by
  unfold linesOf
  cases L with
  | nil => rfl
  | cons a l =>
    have ne : pageT (a :: l) ≠ noS := by
      intro z
      have h1 := congrArg TL.tl z
      unfold pageT at h1
      rw [TL.join_eq, TL.tl_join] at h1
      have h2 := rowT_ne (h a List.mem_cons_self)
      rw [TL.len_tl] at h2
      apply h2
      cases l with
      | nil =>
        have h3 : TL.tl (rowT3 a) = [] := h1
        rw [h3]; rfl
      | cons b l =>
        have h3 : TL.tl (rowT3 a) ++ (TL.tl kNl ++ TL.joinL (TL.tl kNl) ((rowT3 b :: l.map rowT3).map TL.tl)) = [] := h1
        rw [(List.append_eq_nil_iff.mp h3).1]; rfl
    rw [if_neg ne]
    exact TL.split_join (s := 10) (S := []) (by decide +kernel) (by decide +kernel) (by simp) fun p hp => by
      obtain ⟨r, hr, rfl⟩ := List.mem_map.mp hp
      exact nl_free (h r hr)
theorem p_Page_read (T : Tp P K mg) {L : List R3} {s : Str} {C : Cells} {Q : QE} {Qx : QX} (hs : s = pageT L) (h : ∀ r ∈ L, good3 r) (hl : L.length ≤ 24) (q : Q (pgD T.c_Page T.c_Row L) C) : callW (fw_Page_read T) Qx [.raw (.ref T.c_Page), .str s] C Q := by
  refine call_none (show w_Page_read T (.raw (.ref T.c_Page)) (.str s) _ _ [] from ?_)
  unfold w_Page_read
  have ls : linesOf s = L.map rowT3 := by rw [hs]; exact lines_page h
  have pl := pageT_len h
  have sl : s.length ≤ 3400 := by
    rw [hs]
    have h1 := txt_join_len kNl (L.map rowT3)
    have h2 : kNl.length = 1 := by decide +kernel
    rw [h2] at h1
    show (Txt.join kNl (L.map rowT3)).length ≤ 3400
    omega
  walk_at "g"
  intro a
  walk_at "g"
  refine if_val (.lst ((linesOf s).map D.str)) (fun h1 Q q => ?_) (fun h1 Q q => ?_) ?_
  · have e : ¬ s = noS := of_decide_eq_false (bn1 h1)
    unfold linesOf at q
    rw [if_neg e] at q
    walk_at "g"
    exact q
  · have e : s = noS := of_decide_eq_true (bn3 h1)
    unfold linesOf at q
    rw [if_pos e] at q
    walk_at "g"
    exact q
  rw [ls, List.map_map]
  walk_at "g"
  refine loop_inv (fun i _ C' => C' = [(a, .lst ((L.take i).map (rowR T.c_Row)))]) rfl ?_ ?_
  · rintro i e s' C' nx hi rfl hn
    refine ⟨trivial, ?_⟩
    obtain ⟨y, h1, rfl⟩ := enumD_get hi
    rw [List.getElem?_map] at h1
    obtain ⟨r, hr, rfl⟩ := Option.map_eq_some_iff.mp h1
    have hr2 := h r (List.mem_of_getElem? hr)
    unfold w_Page_read_l1
    walk_at "g"
    refine p_Row_back T (l := r.1) (ts := r.2.1) (dd := r.2.2) rfl hr2 ?_
    walk_at "g"
    unfold w_Page_read_j3
    have hi2 : i < L.length := (List.getElem?_eq_some_iff.mp hr).1
    walk_at "g"
    refine part_id (hn _ _ ?_)
    show [(a, Cell.lst (List.map (rowR T.c_Row) (List.take i L) ++ [rowR T.c_Row r]))] = _
    rw [List.take_add_one, hr]
    simp
  · rintro s' C' rfl
    rw [enumD_len, List.length_map, List.take_length]
    refine ⟨trivial, ?_⟩
    unfold w_Page_read_a2
    walk_at "g"
    refine mkS_Page T .l (by omega) ?_
    walk_at "g"
    exact ⟨[], [], by simp, q⟩



theorem mkX_Row (T : Tp P K mg) {d1 d2 d3 : D} {o2 o3 : Option (List D)} {w : Str} {C : Cells} {Q : QE} {Xq : QX} (h1 : AnyD K C d1) (h2 : SqV K C d2 o2) (h3 : SqV K C d3 o3) (he : rowErr d1 o2 o3 = some w)
    (qx : ∀ z, Xq (.ref T.c_InvalidRow) (some (["word"], [.str w])) ((z, .ins T.c_Row [] []) :: C)) : pMkF (fw_Row_init T) Xq T.c_Row [d1, d2, d3] C Q := by
  have sub : ∀ {d : D} {o : Option (List D)} {z : Addr}, SqV K C d o → SqV K ((z, .ins T.c_Row [] []) :: C) d o := by
    rintro d o z (⟨h, h2⟩ | ⟨xs, h, h2, h3, h4⟩)
    · exact .inl ⟨h, sqA_sub (fun x hx => List.mem_cons_of_mem _ hx) h2⟩
    · exact .inr ⟨xs, h, seqD_sub (fun x hx => List.mem_cons_of_mem _ hx) h2, h3, fun x hx => anyD_sub (fun x hx => List.mem_cons_of_mem _ hx) (h4 x hx)⟩
  refine mkF_of (ns := []) (fs := []) fun z => p_Row_init T (anyD_sub (fun x hx => List.mem_cons_of_mem _ hx) h1) (sub h2) (sub h3) (fun w' hw => ?_) fun hg => ?_
  · rw [he] at hw; cases hw; exact qx z
  · rw [he] at hg; cases hg
theorem p_Row_readX (T : Tp P K mg) {s w : Str} {C : Cells} {Q : QE} {Qx : QX} (hl : s.length ≤ 100000) (ht : (rdT s).length ≤ 100000) (hd : (rdD s).length ≤ 100000) (htl : ∀ x ∈ rdT s, x.length ≤ 100000) (hdl : ∀ x ∈ rdD s, x.length ≤ 100000)
    (he : rowErr (.str (rdL s)) (some ((rdT s).map D.str)) (some ((rdD s).map D.str)) = some w) (qx : ∀ z, Qx (.ref T.c_InvalidText) (some (["at"], [.int 0])) ((z, .ins T.c_Row [] []) :: C)) : callW (fw_Row_read T) Qx [.raw (.ref T.c_Row), .str s] C Q := by
  refine cl_Row_read T ?_
  have rl := rd_len s
  have l1 : (Txt.partition s (Str.ofString " do ")).1.length ≤ 100000 := Nat.le_trans rl.1 hl
  have l2 : (Txt.partition s (Str.ofString " do ")).2.2.length ≤ 100000 := Nat.le_trans rl.2.1 hl
  have l3 := Nat.le_trans rl.2.2.1 hl
  have l4 : (Txt.partition (Txt.partition s (Str.ofString " do ")).1 (Str.ofString " if ")).2.2.length ≤ 100000 := Nat.le_trans rl.2.2.2 hl
  unfold w_Row_read
  walk_at "g"
  refine if_val (.lst ((rdT s).map D.str)) (fun h1 Q q => ?_) (fun h1 Q q => ?_) ?_
  · unfold rdT at q
    rw [if_pos (show (!decide ((rdQ s).2.1 = noS)) = true from h1)] at q
    walk_at "g"
    exact q
  · unfold rdT at q
    rw [if_neg (by rw [show (!decide ((rdQ s).2.1 = noS)) = false from h1]; decide)] at q
    walk_at "g"
    exact q
  walk_at "g"
  refine if_val (.lst ((rdD s).map D.str)) (fun h1 Q q => ?_) (fun h1 Q q => ?_) ?_
  · unfold rdD at q
    rw [if_pos (show (!decide ((rdP s).2.1 = noS)) = true from h1)] at q
    walk_at "g"
    exact q
  · unfold rdD at q
    rw [if_neg (by rw [show (!decide ((rdP s).2.1 = noS)) = false from h1]; decide)] at q
    walk_at "g"
    exact q
  walk_at "g"
  refine mkX_Row T (any_str l3) (sqv_strs .l ht htl) (sqv_strs .l hd hdl) he fun z => ?_
  refine ⟨true, T.exm_InvalidRow_InvalidRow, ifT ⟨T.x_InvalidRow.sub, ?_⟩⟩
  walk_at "g"
  exact qx z
def badR (t : Str) : Bool := decide (t.length ≤ 100) && decide ((rdT t).length ≤ 100) && decide ((rdD t).length ≤ 100) && (rdT t).all (fun x => decide (x.length ≤ 100)) && (rdD t).all (fun x => decide (x.length ≤ 100)) && (rowErr (.str (rdL t)) (some ((rdT t).map D.str)) (some ((rdD t).map D.str))).isSome
theorem c_badrow (T : Tp P K mg) {t : Str} {C : Cells} {Q : QE} {Qx : QX} (h : badR t = true) (qx : ∀ z, Qx (.ref T.c_InvalidText) (some (["at"], [.int 0])) ((z, .ins T.c_Row [] []) :: C)) : callW (fw_Row_read T) Qx [.raw (.ref T.c_Row), .str t] C Q := by
  unfold badR at h
  simp only [Bool.and_eq_true, decide_eq_true_eq, List.all_eq_true] at h
  obtain ⟨⟨⟨⟨⟨h1, h2⟩, h3⟩, h4⟩, h5⟩, h6⟩ := h
  obtain ⟨w, hw⟩ := Option.isSome_iff_exists.mp h6
  exact p_Row_readX T (by omega) (by omega) (by omega) (fun x hx => by have := h4 x hx; omega) (fun x hx => by have := h5 x hx; omega) hw qx
theorem p_Page_readX (T : Tp P K mg) {L : List R3} {bad : Str} {rest : List Str} {s : Str} {C : Cells} {Q : QE} {Qx : QX} (hs : Txt.split s kNl = L.map rowT3 ++ bad :: rest) (hne : s ≠ noS) (sl : s.length ≤ 100000) (h : ∀ r ∈ L, good3 r) (hl : L.length ≤ 100) (hb : badR bad = true)
    (qx : ∀ J : Cells, Qx (.ref T.c_InvalidText) (some (["at"], [.int ((L.length : Nat) : Int)])) (J ++ C)) : callW (fw_Page_read T) Qx [.raw (.ref T.c_Page), .str s] C Q := by
  refine call_none (show w_Page_read T (.raw (.ref T.c_Page)) (.str s) _ _ [] from ?_)
  unfold w_Page_read
  walk_at "g"
  intro a
  walk_at "g"
  rw [show decide (s = "") = false from decide_eq_false hne]
  walk_at "g"
  rw [show Txt.split s (Str.ofString "\n") = L.map rowT3 ++ bad :: rest from hs]
  refine loop_inv (fun i _ C' => i ≤ L.length ∧ C' = [(a, .lst ((L.take i).map (rowR T.c_Row)))]) ⟨Nat.zero_le _, rfl⟩ ?_ ?_
  · rintro i e s' C' nx hi ⟨hle, rfl⟩ hn
    refine ⟨trivial, ?_⟩
    obtain ⟨y, h1, rfl⟩ := enumD_get hi
    rw [List.getElem?_map] at h1
    obtain ⟨t, ht, rfl⟩ := Option.map_eq_some_iff.mp h1
    unfold w_Page_read_l1
    by_cases hlt : i < L.length
    · rw [List.getElem?_append_left (by rw [List.length_map]; exact hlt), List.getElem?_map] at ht
      obtain ⟨r, hr, rfl⟩ := Option.map_eq_some_iff.mp ht
      have hr2 := h r (List.mem_of_getElem? hr)
      walk_at "g"
      refine p_Row_back T (l := r.1) (ts := r.2.1) (dd := r.2.2) rfl hr2 ?_
      walk_at "g"
      unfold w_Page_read_j3
      walk_at "g"
      refine part_id (hn _ _ ⟨hlt, ?_⟩)
      rw [List.take_succ, hr, List.map_append]
      rfl
    · have e : i = L.length := by omega
      subst e
      rw [List.getElem?_append_right (by rw [List.length_map]; exact Nat.le_refl _), List.length_map, Nat.sub_self] at ht
      cases ht
      walk_at "g"
      refine c_badrow T hb fun z => ?_
      refine ⟨true, T.exm_InvalidText_InvalidText, ifT ⟨T.x_InvalidText.sub, ?_⟩⟩
      walk_at "g"
      rw [Nat.zero_add]
      exact qx _
  · rintro s' C' ⟨hle, -⟩
    rw [enumD_len, List.length_map, List.length_append, List.length_map, List.length_cons] at hle
    omega


theorem strOk_tl2 (s : Str) : PyData.strOk s = (TL.tl s).all (· < 0x110000) := by
  show s.cps.all (· < 0x110000) = s.cps.toList.all (· < 0x110000)
  rw [Array.all_toList]
theorem strOk_app2 {a b : Str} (ha : PyData.strOk a = true) (hb : PyData.strOk b = true) : PyData.strOk (a ++ b) = true := by
  rw [strOk_tl2] at ha hb ⊢
  rw [TL.tl_append, List.all_append, ha, hb]; rfl
theorem strOk_join {k : Str} (hk : PyData.strOk k = true) {l : List Str} (h : ∀ x ∈ l, PyData.strOk x = true) : PyData.strOk (Txt.join k l) = true := by
  have s5 : ∀ l : List Str, (∀ x ∈ l, PyData.strOk x = true) → PyData.strOk (Str.join k l) = true := by
    intro l
    induction l with
    | nil => intro _; rw [show Str.join k [] = Str.empty by simp only [Str.join]]; decide +kernel
    | cons a l ih =>
      intro h
      have ha := h a List.mem_cons_self
      cases l with
      | nil => exact ha
      | cons b l =>
        have hb := ih fun x hx => h x (List.mem_cons_of_mem _ hx)
        show PyData.strOk (a ++ k ++ Str.join k (b :: l)) = true
        exact strOk_app2 (strOk_app2 ha hk) hb
  rw [txt_join]
  exact s5 l h
theorem good3_so {r : R3} (h : good3 r) : PyData.strOk (rowT3 r) = true := by
  have k1 : PyData.strOk kIf = true ∧ PyData.strOk kAnd = true ∧ PyData.strOk kDo = true ∧ PyData.strOk kThen = true ∧ PyData.strOk Str.empty = true ∧ PyData.strOk noS = true := by decide +kernel
  obtain ⟨k2, k3, k4, k5, k6, k7⟩ := k1
  have lt : ∀ l ∈ cst_LETTERS, PyData.strOk l = true := by decide +kernel
  have tt : ∀ t ∈ allT, PyData.strOk t = true := by decide +kernel
  have dt : ∀ t ∈ cst_DEEDS, PyData.strOk t = true := by decide +kernel
  have part : ∀ {k s : Str} {ts : List Str}, PyData.strOk k = true → PyData.strOk s = true → (∀ x ∈ ts, PyData.strOk x = true) → PyData.strOk (partT k s ts) = true := fun {k s ts} hk hs ht => by
    unfold partT
    split
    · exact k7
    · exact strOk_app2 (strOk_app2 k6 hk) (strOk_join hs ht)
  unfold rowT3 rowT
  exact strOk_app2 (strOk_app2 (strOk_app2 k6 (lt _ h.le)) (part k2 k3 fun x hx => tt x (h.t x hx).1)) (part k4 k5 fun x hx => dt x (h.d x hx).1)
def bads : List Str := ["", "yes do", "list do drop", "Yes", "no if", "yes if old and", "yes if not", " list", "no do take then", "yes no"]
theorem bads_ok : ∀ t ∈ bads, badR t = true ∧ (10 : Nat) ∉ TL.tl t ∧ t.length ≤ 20 ∧ PyData.strOk t = true := by decide +kernel
theorem yes_line : Txt.split "yes\n" kNl = [rowT3 ("yes", [], [])] ++ ("" : Str) :: [] ∧ badR "" = true ∧ ("yes" : Str) ∈ cst_LETTERS := by decide +kernel
theorem odd_line : badR "yes do" = true ∧ (10 : Nat) ∉ TL.tl ("yes do" : Str) := by decide +kernel
section
variable {C R : Cells} {Q : QE} {Qx : QX} {L : List R3} {bad s : Str} {rest : List Str} {p q zo : Addr} {qs : List Int} {m : Int}
theorem c_heard (T : Tp P K mg) (hs : s = pageT L) (h : ∀ r ∈ L, good3 r) (hl : L.length ≤ 24) (q : Q (.str s) C) : callW (fw__law_heard T) Qx [.str s] C Q := by
  refine cl__law_heard T ?_
  unfold w__law_heard
  walk_at "g"
  refine p_Page_read T hs h hl ?_
  walk_at "g"
  refine s_str_own (o_Page_str T h hl fun r e => ?_)
  walk_at "g"
  unfold w__law_heard_j1
  walk_at "g"
  rw [e, ← hs]
  exact q
theorem c_heardX (T : Tp P K mg) (hs : Txt.split s kNl = L.map rowT3 ++ bad :: rest) (hne : s ≠ noS) (sl : s.length ≤ 100000) (h : ∀ r ∈ L, good3 r) (hl : L.length ≤ 100) (hb : badR bad = true) (q : ∀ J : Cells, Q (.tup [.str "text", .int ((L.length : Nat) : Int), .bl true]) (J ++ C)) : callW (fw__law_heard T) Qx [.str s] C Q := by
  refine cl__law_heard T ?_
  unfold w__law_heard
  walk_at "g"
  refine p_Page_readX T hs hne sl h hl hb fun J => ?_
  refine ⟨true, T.exm_InvalidText_InvalidText, ifT (part_id ?_)⟩
  walk_at "g"
  refine ⟨_, _, _, _, rfl, rfl, T.xf_InvalidText, T.na_InvalidText_at, rfl, ?_⟩
  walk_at "g"
  refine ⟨_, rfl, T.xc_InvalidText, true, _, .own _, T.isx_InvalidText_HastyError, ?_⟩
  walk_at "g"
  unfold w__law_heard_j1
  walk_at "g"
  exact q J
theorem split_lines {ls : List Str} (hn : ls ≠ []) (h : ∀ x ∈ ls, (10 : Nat) ∉ TL.tl x) : Txt.split (Txt.join kNl ls) kNl = ls :=
  TL.split_join (s := 10) (S := []) (by decide +kernel) (by decide +kernel) hn h
theorem lines_ne {ls : List Str} (hn : ls ≠ []) (h : ∀ x ∈ ls, (10 : Nat) ∉ TL.tl x) (h1 : ls ≠ [noS]) : Txt.join kNl ls ≠ noS := fun e => by
  have e2 := split_lines hn h
  rw [e, show Txt.split noS kNl = [noS] by decide +kernel] at e2
  exact h1 e2.symm
theorem join_short {ls : List Str} (h : ∀ x ∈ ls, x.length ≤ 140) (hl : ls.length ≤ 30) : (ls.map (·.length)).sum + ls.length * 1 ≤ 5000 ∧ (Txt.join kNl ls).length ≤ 5000 := by
  have s1 : ∀ (l : List Str), (∀ x ∈ l, x.length ≤ 140) → (l.map (·.length)).sum ≤ l.length * 140 := by
    intro l
    induction l with
    | nil => intro _; simp
    | cons a l ih =>
      intro h
      have := ih fun x hx => h x (List.mem_cons_of_mem _ hx)
      have := h a List.mem_cons_self
      simp only [List.map_cons, List.sum_cons, List.length_cons]
      omega
  have s2 := s1 ls h
  have h3 := txt_join_len kNl ls
  rw [show kNl.length = 1 by decide +kernel] at h3
  omega
theorem cut_last {α : Type} (l : List α) (x : α) : cutL (l ++ [x]) none (some (-1)) = l := by
  unfold cutL
  have e1 : HT.sIx (l ++ [x]).length 0 none = 0 := rfl
  have e2 : HT.sIx (l ++ [x]).length (l ++ [x]).length (some (-1)) = l.length := by
    show (if (-1 : Int) < 0 then ((-1 : Int) + (((l ++ [x]).length : Nat) : Int)).toNat else min (-1 : Int).toNat (l ++ [x]).length) = l.length
    rw [if_pos (by decide), List.length_append, List.length_singleton]
    omega
  rw [e1, e2, List.drop_zero, Nat.sub_zero, List.take_left]
abbrev lnD (L : List R3) : List D := L.map fun r => D.str (rowT3 r)
theorem lnD_eq (L : List R3) : lnD L = (L.map rowT3).map D.str := by rw [List.map_map]; rfl
theorem s_text (hL : ∀ r ∈ L, good3 r) (hl : L.length ≤ 24) (q : Q (.str (pageT L)) C) : pJoin "\n" (.lst (lnD L)) C Q := by
  have := pageT_len hL
  refine s_join (zs := L.map rowT3) (by rw [← lnD_eq]; exact .l) ⟨by show _ + _ * 1 ≤ _; omega, q⟩
abbrev cs15 (p q : Addr) (qs : List Int) (m : Int) (zo : Addr) (R : Cells) : Cells := dealC p q qs m ++ ((zo, .lst (bads.map D.str)) :: R)
theorem up15 {J : Cells} (pm : C.Perm (cs15 p q qs m zo R)) : (J ++ C).Perm (cs15 p q qs m zo (J ++ R)) := by
  refine (pm.append_left J).trans ((List.perm_append_comm_assoc _ _ _).trans (List.Perm.append_left _ ?_))
  exact List.perm_append_comm_assoc J [(zo, Cell.lst (bads.map D.str))] R
theorem min_ab (a b : Nat) : (if ((a : Nat) : Int) < ((b : Nat) : Int) then ((a : Nat) : Int) else ((b : Nat) : Int)) = ((min a b : Nat) : Int) := by
  split <;> omega
theorem told_eq {k : Int} : EqD C (.tup [.str "text", .int k, .bl true]) (.tup [.str "text", .int k, .bl true]) true := by
  have h : ∀ d ∈ [D.str "text", .int k, .bl true], plainD d = true ∧ (toPy d).canLay0 = true ∧ (toPy d).depth ≤ 1 := fun d hd => by
    rcases List.mem_cons.mp hd with rfl | hd
    · exact ⟨rfl, (ShowOk.str (by decide +kernel)).lay, by show (PyData.str _).depth ≤ 1; simp [PyData.depth]⟩
    rcases List.mem_cons.mp hd with rfl | hd
    · exact ⟨rfl, rfl, by show (PyData.int _).depth ≤ 1; simp [PyData.depth]⟩
    rw [List.mem_singleton.mp hd]
    exact ⟨rfl, rfl, by show (PyData.bool _).depth ≤ 1; simp [PyData.depth]⟩
  obtain ⟨x1, x2, x3⟩ := lays (k := 1) h
  refine eqd_rfl ?_ ?_ ?_
  · unfold plainD; exact x1
  · unfold toPy; rw [PyData.canLay0]; exact x2
  · unfold toPy; rw [PyData.depth]; omega
theorem pageT_short (hg : ∀ r ∈ L, good3 r) (hl : L.length ≤ 24) : (pageT L).length ≤ 4000 := by
  have := pageT_len hg
  have h3 := txt_join_len kNl (L.map rowT3)
  rw [show kNl.length = 1 by decide +kernel] at h3
  show (Txt.join kNl (L.map rowT3)).length ≤ 4000
  omega
theorem eq_PageB (T : Tp P K mg) {M : List R3} (h : ∀ r ∈ L, good3 r) (hl : L.length ≤ 24) (h2 : ∀ r ∈ M, good3 r) (hl2 : M.length ≤ 24) (q : ∀ b, b = decide (pageT L = pageT M) → Q (.bl b) C) :
    ownB K T.c_Page (fw_Page_eq T) false (pgD T.c_Page T.c_Row L) (pgD T.c_Page T.c_Row M) C Q :=
  ⟨_, _, _, .inl rfl, .ins T.i_Page, T.nf_Page_Page, callN_all (p_Page_eq T (Qx := fun _ _ _ => False) h hl h2 hl2 fun b e => q b e)⟩
theorem rem15 (T : Tp P K mg) {nx : Unit → MB} {M : List R3} {a : Nat} {sp : List Str} (ha : a ≤ M.length) (hM : ∀ r ∈ M, good3 r) (lM : M.length ≤ 6) (hbad : bad ∈ bads) (hd : DealOk qs m) (pm : C.Perm (cs15 p q qs m zo R)) (hn : ∀ qs m R C', DealOk qs m → C'.Perm (cs15 p q qs m zo R) → nx () C')
    (hsp : sp = (M.take a).map rowT3 ++ bad :: (M.drop a).map rowT3) :
    (mSet (eArgs (aCons (eVal (.raw (.ref p))) (aCons (eBin (eArgs (aCons (eVal (.lst (sp.map D.str))) aNil) (on1 (pLen1 (ownLen T.c_Page (fw_Page_len T))))) (eVal (.int 1)) oAdd) aNil)) fun ds => callW (fw__law_draw T) Qx (ds ++ [])) fun x_to => mSet (eBin (eBin (eSl (eVal (.lst (sp.map D.str))) oNone (oSome (eVal x_to))) (eArgs (aCons (eBin (eVal (.raw (.ref zo))) (eVal (.int 1)) pIx) aNil) pLst) oAdd) (eSl (eVal (.lst (sp.map D.str))) (oSome (eVal x_to)) oNone) oAdd) fun x_more => mIf (tBin (eArgs (aCons (eStr1 (eVal (.str "\n")) (eVal x_more) pJoin) aNil) fun ds => callW (fw__law_heard T) Qx (ds ++ [])) (eArgs (aCons (eVal (.str "text")) (aCons (eArgs (aCons (eVal (.int ((a : Nat) : Int))) (aCons (eVal x_to) aNil)) (on2 pMin2)) (aCons (eVal (.bl true)) aNil))) pTup) (oNe (ownB K T.c_Page (fw_Page_eq T) true))) (mRet (eDrop (eVal (.bl false))) Q) (mSet (eBin (eSl (eVal (.lst (lnD M))) oNone (oSome (eVal (.int ((a : Nat) : Int))))) (eSl (eVal (.lst (lnD M))) oNone (oSome (eVal (.int ((a : Nat) : Int))))) oAdd) fun x_doubled => mIf (tBin (eArgs (aCons (eStr1 (eVal (.str "\n")) (eVal x_doubled) pJoin) aNil) fun ds => callW (fw__law_heard T) Qx (ds ++ [])) (eStr1 (eVal (.str "\n")) (eVal x_doubled) pJoin) (oNe (ownB K T.c_Page (fw_Page_eq T) true))) (mRet (eDrop (eVal (.bl false))) Q) (mPart (nx ())))) C := by
  obtain ⟨b1, b2, b3, b4⟩ := bads_ok bad hbad
  have spl : sp.length = M.length + 1 := by rw [hsp, List.length_append, List.length_cons, List.length_map, List.length_map, List.length_take, List.length_drop]; omega
  have nl3 : ∀ r ∈ M, (10 : Nat) ∉ TL.tl (rowT3 r) := fun r hr => nl_free (hM r hr)
  have spn : ∀ x ∈ sp, (10 : Nat) ∉ TL.tl x := fun x hx => by
    rw [hsp] at hx
    rcases List.mem_append.mp hx with hx | hx
    · obtain ⟨r, hr, rfl⟩ := List.mem_map.mp hx
      exact nl3 r (List.mem_of_mem_take hr)
    rcases List.mem_cons.mp hx with rfl | hx
    · exact b2
    · obtain ⟨r, hr, rfl⟩ := List.mem_map.mp hx
      exact nl3 r (List.mem_of_mem_drop hr)
  have spk : ∀ x ∈ sp, x.length ≤ 140 := fun x hx => by
    rw [hsp] at hx
    rcases List.mem_append.mp hx with hx | hx
    · obtain ⟨r, hr, rfl⟩ := List.mem_map.mp hx
      exact rowT_len (hM r (List.mem_of_mem_take hr))
    rcases List.mem_cons.mp hx with rfl | hx
    · omega
    · obtain ⟨r, hr, rfl⟩ := List.mem_map.mp hx
      exact rowT_len (hM r (List.mem_of_mem_drop hr))
  have la : (M.take a).length = a := by rw [List.length_take]; omega
  walk_at "g"
  rw [List.length_map]
  refine c_drawP T pm hd (by omega) (by omega) fun k3 qs3 m3 k30 k31 hd3 => ?_
  obtain ⟨b, rfl⟩ := Int.eq_ofNat_of_zero_le k30
  have hb : b ≤ sp.length := by omega
  have lt1 : (sp.take b).length ≤ 7 := by rw [List.length_take]; omega
  have ld1 : (sp.drop b).length ≤ 7 := by rw [List.length_drop]; omega
  walk_at "g"
  rw [cutD_map, cutL_to (by omega), Int.toNat_natCast]
  walk_at "g"
  rw [cutD_map, cutL_from (by omega), Int.toNat_natCast]
  walk_at "g"
  have em : (sp.take b).map D.str ++ [D.str "yes do"] ++ (sp.drop b).map D.str = (sp.take b ++ (("yes do" : Str) :: sp.drop b)).map D.str := by simp
  rw [em]
  have mn : ∀ x ∈ sp.take b ++ (("yes do" : Str) :: sp.drop b), (10 : Nat) ∉ TL.tl x := fun x hx => by
    rcases List.mem_append.mp hx with hx | hx
    · exact spn x (List.mem_of_mem_take hx)
    rcases List.mem_cons.mp hx with rfl | hx
    · exact odd_line.2
    · exact spn x (List.mem_of_mem_drop hx)
  have mk : ∀ x ∈ sp.take b ++ (("yes do" : Str) :: sp.drop b), x.length ≤ 140 := fun x hx => by
    rcases List.mem_append.mp hx with hx | hx
    · exact spk x (List.mem_of_mem_take hx)
    rcases List.mem_cons.mp hx with rfl | hx
    · decide
    · exact spk x (List.mem_of_mem_drop hx)
  have ml : (sp.take b ++ (("yes do" : Str) :: sp.drop b)).length ≤ 30 := by rw [List.length_append, List.length_cons]; omega
  have m2 : 2 ≤ (sp.take b ++ (("yes do" : Str) :: sp.drop b)).length := by rw [List.length_append, List.length_cons, List.length_take, List.length_drop]; omega
  obtain ⟨ms1, ms2⟩ := join_short mk ml
  have m0 : sp.take b ++ (("yes do" : Str) :: sp.drop b) ≠ [] := by simp
  have m1 : sp.take b ++ (("yes do" : Str) :: sp.drop b) ≠ [noS] := fun e => by rw [e] at m2; simp at m2
  have hsl := split_lines m0 mn
  have hne := lines_ne m0 mn m1
  refine s_join (zs := sp.take b ++ (("yes do" : Str) :: sp.drop b)) .l ⟨by show _ + _ * 1 ≤ _; omega, ?_⟩
  have dec : ∃ (L' : List R3) (bad' : Str) (rest' : List Str), sp.take b ++ (("yes do" : Str) :: sp.drop b) = L'.map rowT3 ++ bad' :: rest' ∧ (∀ r ∈ L', good3 r) ∧ L'.length = min a b ∧ badR bad' = true := by
    by_cases hab : b ≤ a
    · refine ⟨M.take b, "yes do", sp.drop b, ?_, fun r hr => hM r (List.mem_of_mem_take hr), by rw [List.length_take]; omega, odd_line.1⟩
      congr 1
      rw [hsp, List.take_append_of_le_length (by rw [List.length_map, la]; exact hab), ← List.map_take, List.take_take, Nat.min_eq_left hab]
    · refine ⟨M.take a, bad, ((M.drop a).map rowT3).take (b - a - 1) ++ (("yes do" : Str) :: sp.drop b), ?_, fun r hr => hM r (List.mem_of_mem_take hr), by rw [la]; omega, b1⟩
      have e : sp.take b = (M.take a).map rowT3 ++ bad :: ((M.drop a).map rowT3).take (b - a - 1) := by
        rw [hsp, List.take_append, List.length_map, la, List.take_of_length_le (by rw [List.length_map, la]; omega)]
        congr 1
        obtain ⟨c, hc⟩ : ∃ c, b - a = c + 1 := ⟨b - a - 1, by omega⟩
        rw [hc, List.take_succ_cons, Nat.add_sub_cancel]
      rw [e]
      simp
  obtain ⟨L', bad', rest', e1, e2, e3, e4⟩ := dec
  generalize hjj : Txt.join kNl (sp.take b ++ (("yes do" : Str) :: sp.drop b)) = jj at hsl hne ms2
  rw [show Txt.join (Str.ofString "\n") (sp.take b ++ (("yes do" : Str) :: sp.drop b)) = jj from hjj]
  walk_at "g"
  refine c_heardX T (hsl.trans e1) hne (by omega) e2 (by omega) e4 fun J => ?_
  have pm3 : (J ++ cs15 p q qs3 m3 zo R).Perm (cs15 p q qs3 m3 zo (J ++ R)) := up15 (.refl _)
  generalize J ++ cs15 p q qs3 m3 zo R = C3 at pm3
  walk_at "g"
  rw [min_ab, e3, Nat.min_comm b a]
  refine s_neD (.inl rfl) told_eq ?_
  walk_at "g"
  have hD : ∀ r ∈ M.take a ++ M.take a, good3 r := fun r hr => by
    rcases List.mem_append.mp hr with hr | hr
    · exact hM r (List.mem_of_mem_take hr)
    · exact hM r (List.mem_of_mem_take hr)
  have lD : (M.take a ++ M.take a).length ≤ 24 := by rw [List.length_append]; omega
  rw [cutD_map, cutL_to (by omega), Int.toNat_natCast]
  walk_at "g"
  rw [← List.map_append]
  refine s_text hD lD ?_
  walk_at "g"
  refine c_heard T rfl hD lD ?_
  walk_at "g"
  refine s_text hD lD ?_
  walk_at "g"
  rw [decide_eq_true rfl]
  walk_at "g"
  exact part_id (hn _ _ _ _ hd3 pm3)
theorem p_law_a5 (T : Tp P K mg) {nx : Unit → MB} (hd : DealOk qs m) (pm : C.Perm (cs15 p q qs m zo R)) (hg : ∀ r ∈ L, good3 r) (hl : L.length ≤ 12) (hn : ∀ qs m R C', DealOk qs m → C'.Perm (cs15 p q qs m zo R) → nx () C') :
    w_law_a5 T (.raw (.ref p)) (.raw (.ref zo)) nx Qx Q (.lst (lnD L)) C := by
  unfold w_law_a5
  walk_at "g"
  refine s_text hg (by omega) ?_
  walk_at "g"
  refine c_heard T rfl hg (by omega) ?_
  walk_at "g"
  rw [decide_eq_true rfl]
  walk_at "g"
  refine p_Page_read T rfl hg (by omega) ?_
  walk_at "g"
  refine len_Page T (L := L) (by omega) ?_
  walk_at "g"
  rw [List.length_map, decide_eq_true rfl]
  walk_at "g"
  rw [cutD_map, cutL_to (by decide)]
  have hM : ∀ r ∈ L.take (Int.toNat 6), good3 r := fun r hr => hg r (List.mem_of_mem_take hr)
  have lM : (L.take (Int.toNat 6)).length ≤ 6 := List.length_take_le _ _
  generalize L.take (Int.toNat 6) = M at hM lM
  walk_at "g"
  rw [List.length_map]
  refine c_drawP T pm hd (by omega) (by omega) fun k1 qs1 m1 k10 k11 hd1 => ?_
  obtain ⟨a, rfl⟩ := Int.eq_ofNat_of_zero_le k10
  have ha : a ≤ M.length := by omega
  walk_at "g"
  refine c_drawP T (.refl _) hd1 (by decide) (by decide) fun k2 qs2 m2 k20 k21 hd2 => ?_
  walk_at "g"
  refine s_ix_atC (l := bads) (g := D.str) (a := zo) (.inr ⟨zo, rfl, List.mem_append_right _ List.mem_cons_self⟩) k20 k21 fun bad hbad => ?_
  obtain ⟨b1, b2, b3, b4⟩ := bads_ok bad hbad
  have la : (M.take a).length = a := by rw [List.length_take]; omega
  have ld : (M.drop a).length ≤ 6 := by rw [List.length_drop]; omega
  walk_at "g"
  rw [cutD_map, cutL_to (by omega), Int.toNat_natCast]
  walk_at "g"
  rw [cutD_map, cutL_from (by omega), Int.toNat_natCast]
  walk_at "g"
  obtain ⟨sp, hsp⟩ : ∃ sp, sp = (M.take a).map rowT3 ++ bad :: (M.drop a).map rowT3 := ⟨_, rfl⟩
  have es : (M.take a).map (fun r => D.str (rowT3 r)) ++ [D.str bad] ++ (M.drop a).map (fun r => D.str (rowT3 r)) = sp.map D.str := by
    rw [hsp, List.map_append, List.map_cons, List.map_map, List.map_map, List.append_assoc]
    rfl
  rw [es]
  have spso : ∀ x ∈ sp, PyData.strOk x = true := fun x hx => by
    rw [hsp] at hx
    rcases List.mem_append.mp hx with hx | hx
    · obtain ⟨r, hr, rfl⟩ := List.mem_map.mp hx
      exact good3_so (hM r (List.mem_of_mem_take hr))
    rcases List.mem_cons.mp hx with rfl | hx
    · exact b4
    · obtain ⟨r, hr, rfl⟩ := List.mem_map.mp hx
      exact good3_so (hM r (List.mem_of_mem_drop hr))
  have spn : ∀ x ∈ sp, (10 : Nat) ∉ TL.tl x := fun x hx => by
    rw [hsp] at hx
    rcases List.mem_append.mp hx with hx | hx
    · obtain ⟨r, hr, rfl⟩ := List.mem_map.mp hx
      exact nl_free (hM r (List.mem_of_mem_take hr))
    rcases List.mem_cons.mp hx with rfl | hx
    · exact b2
    · obtain ⟨r, hr, rfl⟩ := List.mem_map.mp hx
      exact nl_free (hM r (List.mem_of_mem_drop hr))
  have spk : ∀ x ∈ sp, x.length ≤ 140 := fun x hx => by
    rw [hsp] at hx
    rcases List.mem_append.mp hx with hx | hx
    · obtain ⟨r, hr, rfl⟩ := List.mem_map.mp hx
      exact rowT_len (hM r (List.mem_of_mem_take hr))
    rcases List.mem_cons.mp hx with rfl | hx
    · omega
    · obtain ⟨r, hr, rfl⟩ := List.mem_map.mp hx
      exact rowT_len (hM r (List.mem_of_mem_drop hr))
  have spl : sp.length ≤ 30 := by rw [hsp, List.length_append, List.length_cons, List.length_map, List.length_map]; omega
  have sp0 : sp ≠ [] := by rw [hsp]; simp
  have fin := fun (C' R' : Cells) (pm' : C'.Perm (cs15 p q qs2 m2 zo R')) => rem15 T (Q := Q) (Qx := Qx) (nx := nx) (sp := sp) ha hM lM hbad hd2 pm' hn hsp
  walk_at "g"
  refine s_neD (.inl rfl) (eqd_lstS (xs := sp) (ys := [noS]) .l .l spso (fun x hx => by rw [List.mem_singleton.mp hx]; decide +kernel)) ?_
  walk_at "g"
  refine ite2M (fun h1 => ?_) (fun h1 => ?_)
  · have s1 : sp ≠ [noS] := fun e => by rw [decide_eq_true e] at h1; cases h1
    obtain ⟨js1, js2⟩ := join_short spk spl
    have hsl := split_lines sp0 spn
    have hne := lines_ne sp0 spn s1
    walk_at "g"
    refine ⟨by show _ + _ * 1 ≤ _; omega, ?_⟩
    generalize hjj : Txt.join kNl sp = jj at hsl hne js2
    rw [show Txt.join (Str.ofString "\n") sp = jj from hjj]
    walk_at "g"
    refine c_heardX T (hsl.trans hsp) hne (by omega) (fun r hr => hM r (List.mem_of_mem_take hr)) (by omega) b1 fun J => ?_
    have pm3 : (J ++ cs15 p q qs2 m2 zo R).Perm (cs15 p q qs2 m2 zo (J ++ R)) := up15 (.refl _)
    generalize J ++ cs15 p q qs2 m2 zo R = C3 at pm3
    walk_at "g"
    rw [la]
    refine s_neD (.inl rfl) told_eq ?_
    refine s_tru ?_
    refine ifF ?_
    exact fin _ _ pm3
  · refine ifF ?_
    exact fin _ _ (.refl _)
end
theorem p_law (T : Tp P K mg) {ns : List Int} {Qx : QX} {Q : QE} (hl : ns.length ≤ 63) (hq : ∀ C', Q (.bl true) C') : w_law T (.lst (ns.map .int)) Qx Q [] := by
  unfold w_law
  walk_at "g"
  refine c_deal T hl (by decide) (by decide) fun p q qs m hd => ?_
  rw [List.append_nil]
  walk_at "g"
  intro zo
  walk_at "g"
  refine loop_inv (fun _ _ C => ∃ qs m R, DealOk qs m ∧ C.Perm (cs15 p q qs m zo R)) ⟨qs, m, [], hd, ?_⟩ ?_ ?_
  · have h2 := (List.perm_middle (l₁ := dealC p q qs m) (l₂ := []) (a := (zo, Cell.lst (bads.map D.str)))).symm
    rw [List.append_nil] at h2
    exact h2
  · rintro i d u C nx hi ⟨qs, m, R, hd, pm⟩ hn
    refine ⟨trivial, ?_⟩
    unfold w_law_l1
    walk_at "g"
    refine c_drawP T pm hd (by decide) (by decide) fun k qs1 m1 k0 k1 hd1 => ?_
    walk_at "g"
    refine l_draws (p := p) (q := q) (fun r : R3 => D.str (rowT3 r)) good3 hd1 (by rw [rangeD_len]; omega) (fun d qs m k hd hk => ?_) fun xs qs2 m2 hxl hxs hd2 => ?_
    · walk_at "g"
      refine c_lrow T hd fun l ts dd qs' m' gr hd' => ?_
      walk_at "g"
      refine p_lrow_text T gr fun r e => ?_
      subst e
      walk_at "g"
      exact hk (l, ts, dd) qs' m' gr hd'
    rw [rangeD_len] at hxl
    walk_at "g"
    refine ⟨fun k s C' => ∃ L : List R3, s = .lst (lnD L) ∧ k = L.length ∧ (∀ r ∈ L, good3 r) ∧ L.length ≤ 12 ∧ C' = cs15 p q qs2 m2 zo R, ⟨_, xs, rfl, rfl, hxs, by omega, rfl⟩, ?_⟩
    rintro k s C' ⟨L, rfl, rfl, hg, hl12, rfl⟩
    unfold w_law_t3
    walk_at "g"
    refine s_text hg (by omega) ?_
    have psh := pageT_short hg (by omega)
    walk_at "g"
    refine ite2M (fun h1 => ?_) (fun h1 => ?_)
    · have hne : L ≠ [] := fun z => by
        subst z
        have := of_decide_eq_true h1
        have e : (pageT []).length = 0 := by decide +kernel
        omega
      obtain ⟨L0, x, rfl⟩ : ∃ l y, L = l ++ [y] := ⟨_, _, (List.dropLast_concat_getLast hne).symm⟩
      unfold w_law_l4
      walk_at "g"
      rw [cutD_map, cut_last]
      refine part_id ⟨L0.length, by simp, L0, rfl, rfl, fun r hr => hg r (List.mem_append_left _ hr), by rw [List.length_append, List.length_singleton] at hl12; omega, rfl⟩
    · exact p_law_a5 T hd2 (.refl _) hg hl12 fun qs m R C' hd' pm' => hn _ _ ⟨qs, m, R, hd', pm'⟩
  · rintro u C ⟨qs, m, R, hd, pm⟩
    refine ⟨trivial, ?_⟩
    unfold w_law_a2
    walk_at "g"
    refine p_Page_read T (L := []) (by decide +kernel) (fun r hr => by cases hr) (by decide) ?_
    walk_at "g"
    refine mkS_Page T (L := []) .t (by decide) ?_
    walk_at "g"
    refine s_eqO (.inl rfl) (eq_PageB T (L := []) (M := []) (fun r hr => by cases hr) (by decide) (fun r hr => by cases hr) (by decide) fun b e => ?_)
    rw [decide_eq_true rfl] at e
    subst e
    walk_at "g"
    refine c_heardX T (L := [("yes", [], [])]) (bad := "") (rest := []) yes_line.1 (by decide +kernel) (by decide) (fun r hr => ?_) (by decide) yes_line.2.1 fun J => ?_
    · rw [List.mem_singleton.mp hr]
      exact ⟨yes_line.2.2, (fun t ht => by cases ht), (fun t ht => by cases ht), (by decide), (by decide)⟩
    walk_at "g"
    refine s_eqD (.inl rfl) (told_eq (k := 1)) ?_
    walk_at "g"
    exact drop_id (hq _)
theorem law_ok (T : Tp P K mg) : FnG P w K mg base 12 T.f_law T.d_law ["_law_script"] lawFS :=
  ((ok_law T).imp (F' := lawFS) fun ds C Q Qx ⟨ns, e, hl, hC, hq⟩ => by subst e; subst hC; exact p_law T hl hq).mono (by decide)


end
set_option hygiene true
end Kk

theorem PySem.Challenge.cw_hastypage_k15_pages_read_holds : PySem.Challenge.rw_hastypage_k15_pages_read.Holds := by
  exact Kk.law_of Kk.law_ok

