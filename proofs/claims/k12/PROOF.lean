import PyProof.Rows.All
import Wide.All
import OpenK.AllK
import Wide.FinOn
import HandS.ForMost
import HandS.Exc
import HandS.TryOnly
import HandS.ExcOwn
import HandS.WordsExc
import HandS.ExcCtx
import HandS.SuiteRaise
import HandS.RaiseFrom
import KE.KAsSuite
import HandS.Defaults
import HandS.CallSlots
import HandS.Style
import HandS.TupAny
import HandS.IsInst
import HandS.FStr
import HandS.RaiseMore
import HandS.Ends
import HandS.Codes
import HandS.Iter
import HandS.Walk
import KE.GoesMore
import PyProof.EnumMake
import HandS.Conv
import KE.KSuper
import KE.KExcSuper
import HandS.ExcInit
import HandS.ExcField
import HandS.HotCalls
import HandS.ExcIs
import KE.KExcIs
import HandS.ClsMeth
import HandS.Text
import HandS.Head2
import HandS.HeadHook2
import HandS.Dict
import HandS.DictComp
import KE.KStar
import HandS.Flow
import HandS.Strs
import PyProof.FactsAll.tuple_0
import PyProof.FactsAll.tuple_2
import HandS.OwnEq
import KE.KOpsOwn
import PyProof.RulesMatch
import PyProof.DictUpdate
import PyProof.NeKinds
import HandS.Property
import HandS.SortInts
import PySem.Challenge.RW_hastypage_k12_texts_of_rows
set_option Elab.async false
set_option linter.all false
set_option maxRecDepth 100000
set_option maxHeartbeats 2000000
namespace Tr
open PySem L2

inductive D where
  | non
  | bl (b : Bool)
  | int (i : Int)
  | str (s : Str)
  | lst (ds : List D)
  | tup (ds : List D)
  | dic (ks : List Key) (ds : List D)
  | ins (C : Addr) (ns : List Str) (ds : List D)
  | raw (v : V)
  | tpn (ds : List D)

def NdT (H : Hp) (a : Addr) (vs : List V) : Prop := ∃ o, H a = some (.frz o (.tup vs)) ∧ o.dict = none

mutual
/-- the value v is the datum d -/
def Rep (K : W.Frag) (H : Hp) : D → V → Prop
  | .non, v => v = .non
  | .bl b, v => v = .bl b
  | .int i, v => v = .int i
  | .str s, v => v = .str s
  | .lst ds, v => ∃ a vs, v = .ref a ∧ SqL K H a vs ∧ Reps K H ds vs
  | .tup ds, v => ∃ a vs, v = .ref a ∧ SqT K H a vs ∧ Reps K H ds vs
  | .dic ks ds, v => ∃ a vs, v = .ref a ∧ Rd H a (.dK (ks.zip vs)) ∧ ks.length = vs.length ∧ Reps K H ds vs
  | .ins C ns ds, v => ∃ a dx vs, v = .ref a ∧ H a = some (.ins C dx (ns.zip vs)) ∧ ns.length = vs.length ∧ Reps K H ds vs
  | .raw w, v => v = w
  | .tpn ds, v => ∃ a vs, v = .ref a ∧ NdT H a vs ∧ Reps K H ds vs
def Reps (K : W.Frag) (H : Hp) : List D → List V → Prop
  | [], vs => vs = []
  | d :: ds, vs => ∃ v r, vs = v :: r ∧ Rep K H d v ∧ Reps K H ds r
end

theorem Same.rd {H H' : Hp} {a : Addr} {u : HO} (e : Same H H') (h : Rd H a u) : Rd H' a u := by
  rcases h with h | ⟨o, h⟩
  · exact .inl (e _ _ h)
  · exact .inr ⟨o, e _ _ h⟩
theorem Same.sqL {K : W.Frag} {H H' : Hp} {a : Addr} {xs : List V} (e : Same H H') (h : SqL K H a xs) : SqL K H' a xs := e.seq h
theorem Same.sqT {K : W.Frag} {H H' : Hp} {a : Addr} {xs : List V} (e : Same H H') (h : SqT K H a xs) : SqT K H' a xs := by
  rcases h with h | h
  · exact .inl (Same.rd e h)
  · exact .inr h

mutual
theorem Rep.mono {K : W.Frag} {H H' : Hp} (e : Same H H') : ∀ {d : D} {v : V}, Rep K H d v → Rep K H' d v
  | .non, _, h => h
  | .bl _, _, h => h
  | .int _, _, h => h
  | .str _, _, h => h
  | .lst _, _, ⟨a, vs, h1, h2, h3⟩ => ⟨a, vs, h1, Same.sqL e h2, Reps.mono e h3⟩
  | .tup _, _, ⟨a, vs, h1, h2, h3⟩ => ⟨a, vs, h1, Same.sqT e h2, Reps.mono e h3⟩
  | .dic _ _, _, ⟨a, vs, h1, h2, h4, h3⟩ => ⟨a, vs, h1, Same.rd e h2, h4, Reps.mono e h3⟩
  | .ins _ _ _, _, ⟨a, dx, vs, h1, h2, h4, h3⟩ => ⟨a, dx, vs, h1, e _ _ h2, h4, Reps.mono e h3⟩
  | .raw _, _, h => h
  | .tpn _, _, ⟨a, vs, h1, ⟨o, h2, h4⟩, h3⟩ => ⟨a, vs, h1, ⟨o, e _ _ h2, h4⟩, Reps.mono e h3⟩
theorem Reps.mono {K : W.Frag} {H H' : Hp} (e : Same H H') : ∀ {ds : List D} {vs : List V}, Reps K H ds vs → Reps K H' ds vs
  | [], _, h => h
  | _ :: _, _, ⟨v, r, h1, h2, h3⟩ => ⟨v, r, h1, Rep.mono e h2, Reps.mono e h3⟩
end

section
variable {K : W.Frag} {H H' : Hp}
theorem Reps.nil : Reps K H [] [] := rfl
theorem Reps.cons {d : D} {v : V} {ds : List D} {vs : List V} (h : Rep K H d v) (t : Reps K H ds vs) : Reps K H (d :: ds) (v :: vs) := ⟨v, vs, rfl, h, t⟩
theorem Reps.length : ∀ {ds : List D} {vs : List V}, Reps K H ds vs → ds.length = vs.length
  | [], _, h => by cases h; rfl
  | _ :: _, _, ⟨_, _, h1, _, h3⟩ => by subst h1; simp [Reps.length h3]
theorem Reps.append : ∀ {ds es : List D} {vs ws : List V}, Reps K H ds vs → Reps K H es ws → Reps K H (ds ++ es) (vs ++ ws)
  | [], _, _, _, h, t => by cases h; exact t
  | _ :: _, _, _, _, ⟨v, r, h1, h2, h3⟩, t => by subst h1; exact ⟨v, _, rfl, h2, Reps.append h3 t⟩
theorem Reps.get : ∀ {ds : List D} {vs : List V} {i : Nat} {d : D}, Reps K H ds vs → ds[i]? = some d → ∃ v, vs[i]? = some v ∧ Rep K H d v
  | [], _, _, _, _, e => by simp at e
  | _ :: _, _, 0, _, ⟨v, r, h1, h2, h3⟩, e => by subst h1; simp at e; subst e; exact ⟨v, rfl, h2⟩
  | _ :: _, _, i + 1, _, ⟨v, r, h1, h2, h3⟩, e => by
    subst h1
    obtain ⟨u, q1, q2⟩ := Reps.get (i := i) h3 (by simpa using e)
    exact ⟨u, by simpa using q1, q2⟩
theorem Reps.take : ∀ {ds : List D} {vs : List V} (n : Nat), Reps K H ds vs → Reps K H (ds.take n) (vs.take n)
  | _, _, 0, _ => by simp; exact Reps.nil
  | [], _, n + 1, h => by cases h; exact Reps.nil
  | _ :: _, _, n + 1, ⟨v, r, h1, h2, h3⟩ => by subst h1; exact ⟨v, _, rfl, h2, Reps.take n h3⟩
theorem Reps.drop : ∀ {ds : List D} {vs : List V} (n : Nat), Reps K H ds vs → Reps K H (ds.drop n) (vs.drop n)
  | _, _, 0, h => by simpa using h
  | [], _, n + 1, h => by cases h; exact Reps.nil
  | _ :: _, _, n + 1, ⟨v, r, h1, h2, h3⟩ => by subst h1; exact Reps.drop n h3
theorem Reps.set {d : D} {v : V} (h : Rep K H d v) : ∀ {ds : List D} {vs : List V} (i : Nat), Reps K H ds vs → Reps K H (ds.set i d) (vs.set i v)
  | [], _, _, q => by cases q; exact Reps.nil
  | _ :: _, _, 0, ⟨_, _, h1, _, h3⟩ => by subst h1; exact ⟨_, _, rfl, h, h3⟩
  | _ :: _, _, i + 1, ⟨_, _, h1, h2, h3⟩ => by subst h1; exact ⟨_, _, rfl, h2, Reps.set h i h3⟩
theorem Reps.one {d : D} {vs : List V} (h : Reps K H [d] vs) : ∃ v, vs = [v] ∧ Rep K H d v := by
  obtain ⟨v, r, h1, h2, h3⟩ := h
  cases h3; exact ⟨v, h1, h2⟩
theorem Reps.two {d e : D} {vs : List V} (h : Reps K H [d, e] vs) : ∃ v w, vs = [v, w] ∧ Rep K H d v ∧ Rep K H e w := by
  obtain ⟨v, r, h1, h2, w, r2, h3, h4, h5⟩ := h
  cases h5; subst h3; exact ⟨v, w, h1, h2, h4⟩
theorem Reps.split : ∀ {ds es : List D} {ws : List V}, Reps K H (ds ++ es) ws → ∃ a b, ws = a ++ b ∧ Reps K H ds a ∧ Reps K H es b
  | [], _, ws, h => ⟨[], ws, rfl, Reps.nil, h⟩
  | _ :: _, _, _, ⟨v, r, h1, h2, h3⟩ => by
    obtain ⟨a, b, e1, e2, e3⟩ := Reps.split h3
    exact ⟨v :: a, b, by rw [h1, e1]; rfl, Reps.cons h2 e2, e3⟩
theorem Reps.ints : ∀ (xs : List Int), Reps K H (xs.map D.int) (xs.map V.int)
  | [] => rfl
  | x :: r => ⟨_, _, rfl, rfl, Reps.ints r⟩
theorem Reps.strs : ∀ (xs : List Str), Reps K H (xs.map D.str) (xs.map V.str)
  | [] => rfl
  | x :: r => ⟨_, _, rfl, rfl, Reps.strs r⟩
theorem Reps.of_strs : ∀ {xs : List Str} {vs : List V}, Reps K H (xs.map D.str) vs → vs = xs.map V.str
  | [], _, h => h
  | x :: r, _, ⟨_, _, h1, h2, h3⟩ => by subst h1; rw [Reps.of_strs h3, h2]; rfl
end

inductive Cell where
  | lst (ds : List D)
  | dK (ks : List Key) (ds : List D)
  | ins (C : Addr) (ns : List Str) (ds : List D)
abbrev Cells := List (Addr × Cell)
def CellOk (K : W.Frag) (H0 H : Hp) (a : Addr) : Cell → Prop
  | .lst ds => ∃ vs, H a = some (.lst vs) ∧ Reps K H0 ds vs
  | .dK ks ds => ∃ vs, H a = some (.dK (ks.zip vs)) ∧ ks.length = vs.length ∧ Reps K H0 ds vs
  | .ins C ns ds => ∃ dx vs, H a = some (.ins C dx (ns.zip vs)) ∧ ns.length = vs.length ∧ Reps K H0 ds vs
def Dom (C : Cells) (a : Addr) : Prop := ∃ c, (a, c) ∈ C
structure CellsR (K : W.Frag) (H0 : Hp) (C : Cells) (H : Hp) : Prop where
  same : Same H0 H
  free : ∀ a, Dom C a → H0 a = none
  ok : ∀ a c, (a, c) ∈ C → CellOk K H0 H a c
  nd : (C.map (·.1)).Nodup
theorem CellOk.some {K : W.Frag} {H0 H : Hp} {a : Addr} {c : Cell} (h : CellOk K H0 H a c) : H a ≠ none := by
  cases c with
  | lst ds => obtain ⟨_, e, _⟩ := h; rw [e]; simp
  | dK ks ds => obtain ⟨_, e, _⟩ := h; rw [e]; simp
  | ins C ns ds => obtain ⟨_, _, e, _⟩ := h; rw [e]; simp
theorem CellOk.mono {K : W.Frag} {H0 H0' H H' : Hp} {a : Addr} {c : Cell} (h : CellOk K H0 H a c) (e : Same H0 H0') (ha : H' a = H a) : CellOk K H0' H' a c := by
  cases c with
  | lst ds => obtain ⟨vs, q, r⟩ := h; exact ⟨vs, ha.trans q, r.mono e⟩
  | dK ks ds => obtain ⟨vs, q, l, r⟩ := h; exact ⟨vs, ha.trans q, l, r.mono e⟩
  | ins C ns ds => obtain ⟨dx, vs, q, l, r⟩ := h; exact ⟨dx, vs, ha.trans q, l, r.mono e⟩
structure Stp (H0 : Hp) (C : Cells) (H : Hp) (H0' : Hp) (C' : Cells) (H' : Hp) : Prop where
  base : Same H0 H0'
  fr : ∀ a o, H a = some o → ¬ Dom C a → H' a = some o
  own : ∀ a, H a ≠ none → H0 a = none → ¬ Dom C a → H0' a = none ∧ ¬ Dom C' a
theorem Stp.refl (H0 : Hp) (C : Cells) (H : Hp) : Stp H0 C H H0 C H := ⟨Same.refl _, fun _ _ h _ => h, fun _ _ h n => ⟨h, n⟩⟩
theorem Stp.trans {K : W.Frag} {H0 H1 H2 HA HB HC : Hp} {C0 C1 C2 : Cells} (a : Stp H0 C0 HA H1 C1 HB) (r : CellsR K H1 C1 HB) (b : Stp H1 C1 HB H2 C2 HC) : Stp H0 C0 HA H2 C2 HC where
  base := a.base.trans b.base
  fr := fun x o h n => by
    have h1 := a.fr x o h n
    refine b.fr x o h1 fun d => ?_
    by_cases e : H0 x = none
    · exact (a.own x (by rw [h]; simp) e n).2 d
    · obtain ⟨u, hu⟩ := Option.ne_none_iff_exists'.mp e
      have := r.free x d
      rw [a.base x u hu] at this; cases this
  own := fun x h e n => by
    obtain ⟨q1, q2⟩ := a.own x h e n
    obtain ⟨o, ho⟩ := Option.ne_none_iff_exists'.mp h
    exact b.own x (by rw [a.fr x o ho n]; simp) q1 q2

section
variable {K : W.Frag} {H0 H : Hp} {C : Cells} {p : Addr} {o : HO}
theorem CellsR.nn (r : CellsR K H0 C H) (hp : H p = Option.none) : H0 p = Option.none := r.same.free hp
theorem CellsR.notDom (r : CellsR K H0 C H) (hp : H p = none) : ¬ Dom C p := fun ⟨c, hc⟩ => (r.ok p c hc).some hp
theorem stp_new (r : CellsR K H0 C H) (hp : H p = none) : Stp H0 C H (upd H0 p o) C (upd H p o) ∧ CellsR K (upd H0 p o) C (upd H p o) := by
  have n0 := r.nn hp
  have s0 : Same H0 (upd H0 p o) := fun a u h => by rw [upd_ne (ne_of_none h n0)]; exact h
  refine ⟨⟨s0, fun a u h _ => by rw [upd_ne (ne_of_none h hp)]; exact h, fun a h e n => ⟨?_, n⟩⟩, ⟨fun a u h => ?_, fun a d => ?_, fun a c hc => ?_, r.nd⟩⟩
  · rw [upd_ne (show a ≠ p from fun z => h (by rw [z]; exact hp))]; exact e
  · by_cases q : a = p
    · subst q; rw [upd_same] at h ⊢; exact h
    · rw [upd_ne q] at h ⊢; exact r.same a u h
  · rw [upd_ne (show a ≠ p from fun z => r.notDom hp (by rw [← z]; exact d))]; exact r.free a d
  · exact (r.ok a c hc).mono s0 (upd_ne fun z => (r.ok a c hc).some (z ▸ hp))
theorem stp_cell {c : Cell} (r : CellsR K H0 C H) (hp : H p = none) (ok : CellOk K H0 (upd H p o) p c) : Stp H0 C H H0 ((p, c) :: C) (upd H p o) ∧ CellsR K H0 ((p, c) :: C) (upd H p o) := by
  have n0 := r.nn hp
  refine ⟨⟨Same.refl _, fun a u h _ => by rw [upd_ne (ne_of_none h hp)]; exact h, fun a h e n => ⟨e, fun ⟨c', hc⟩ => ?_⟩⟩, ⟨fun a u h => ?_, fun a d => ?_, fun a c' hc => ?_, ?_⟩⟩
  · rcases List.mem_cons.mp hc with z | z
    · injection z with z1 _; exact h (z1 ▸ hp)
    · exact n ⟨c', z⟩
  · rw [upd_ne (ne_of_none h n0)]; exact r.same a u h
  · obtain ⟨c', hc⟩ := d
    rcases List.mem_cons.mp hc with z | z
    · injection z with z1 _; subst z1; exact n0
    · exact r.free a ⟨c', z⟩
  · rcases List.mem_cons.mp hc with z | z
    · injection z with z1 z2; subst z1; subst z2; exact ok
    · exact (r.ok a c' z).mono (Same.refl _) (upd_ne fun q => (r.ok a c' z).some (q ▸ hp))
  · rw [List.map_cons, List.nodup_cons]
    refine ⟨fun hm => ?_, r.nd⟩
    obtain ⟨⟨a, c'⟩, h1, h2⟩ := List.mem_map.mp hm
    simp only at h2; subst h2
    exact r.notDom hp ⟨c', h1⟩
theorem dom_set {i : Nat} {c c' : Cell} {a : Addr} (hi : C[i]? = some (p, c)) : Dom (C.set i (p, c')) a ↔ Dom C a := by
  constructor
  · rintro ⟨x, hx⟩
    obtain ⟨j, hj⟩ := List.mem_iff_getElem?.mp hx
    rw [List.getElem?_set] at hj
    split at hj
    · split at hj
      · cases hj; exact ⟨c, List.mem_iff_getElem?.mpr ⟨i, hi⟩⟩
      · cases hj
    · exact ⟨x, List.mem_iff_getElem?.mpr ⟨j, hj⟩⟩
  · rintro ⟨x, hx⟩
    obtain ⟨j, hj⟩ := List.mem_iff_getElem?.mp hx
    by_cases e : i = j
    · subst e; rw [hi] at hj; cases hj
      exact ⟨c', List.mem_iff_getElem?.mpr ⟨i, by rw [List.getElem?_set_self (List.getElem?_eq_some_iff.mp hi).1]⟩⟩
    · exact ⟨x, List.mem_iff_getElem?.mpr ⟨j, by rw [List.getElem?_set_ne e]; exact hj⟩⟩
theorem stp_write {i : Nat} {c c' : Cell} (r : CellsR K H0 C H) (hi : C[i]? = some (p, c)) (ok : CellOk K H0 (upd H p o) p c') :
    Stp H0 C H H0 (C.set i (p, c')) (upd H p o) ∧ CellsR K H0 (C.set i (p, c')) (upd H p o) := by
  have hm : (p, c) ∈ C := List.mem_iff_getElem?.mpr ⟨i, hi⟩
  have n0 := r.free p ⟨c, hm⟩
  refine ⟨⟨Same.refl _, fun a u h n => by rw [upd_ne (show a ≠ p from fun z => n ⟨c, by rw [z]; exact hm⟩)]; exact h, fun a h e n => ⟨e, fun d => n ((dom_set hi).mp d)⟩⟩, ⟨fun a u h => ?_, fun a d => r.free a ((dom_set hi).mp d), fun a c2 hc => ?_, ?_⟩⟩
  · rw [upd_ne (ne_of_none h n0)]; exact r.same a u h
  · obtain ⟨j, hj⟩ := List.mem_iff_getElem?.mp hc
    rw [List.getElem?_set] at hj
    split at hj
    · split at hj
      · cases hj; exact ok
      · cases hj
    · rename_i hne
      have hc2 : (a, c2) ∈ C := List.mem_iff_getElem?.mpr ⟨j, hj⟩
      refine (r.ok a c2 hc2).mono (Same.refl _) (upd_ne fun z => hne ?_)
      subst z
      have h1 : (C.map (·.1))[i]? = some a := by rw [List.getElem?_map, hi]; rfl
      have h2 : (C.map (·.1))[j]? = some a := by rw [List.getElem?_map, hj]; rfl
      obtain ⟨l1, e1⟩ := List.getElem?_eq_some_iff.mp h1
      obtain ⟨l2, e2⟩ := List.getElem?_eq_some_iff.mp h2
      exact (List.getElem_inj r.nd).mp (e1.trans e2.symm)
  · have : (C.set i (p, c')).map (·.1) = C.map (·.1) := by
      rw [List.map_set]
      apply List.ext_getElem?
      intro j
      rw [List.getElem?_set]
      split
      · rename_i e; subst e
        rw [List.getElem?_map, hi]
        have := (List.getElem?_eq_some_iff.mp hi).1
        simp [this]
      · rfl
    rw [this]; exact r.nd
end
end Tr

set_option maxHeartbeats 4000000
namespace Tr
open PySem L2 PySem.Spec PyProof.Rows
inductive Links (B : Heap) (H : Hp) : Nat → Value → Prop
  | done : Links B H 0 .none
  | more {x : Addr} {o : Obj} {vs : Array Value} {u : Value} {n : Nat} : B.get? x = some o → o.data = .fields vs → H x = none → vs[2]? = some u → Links B H n u → Links B H (n + 1) (.ref x)
theorem Links.mono {B B' : Heap} {H H' : Hp} {n : Nat} {v : Value} (l : Links B H n v) (b : ∀ x o, B.get? x = some o → H x = none → (∃ vs, o.data = .fields vs) → B'.get? x = some o ∧ H' x = none) : Links B' H' n v := by
  induction l with
  | done => exact .done
  | more g d h i _ ih =>
    obtain ⟨g', h'⟩ := b _ _ g h ⟨_, d⟩
    exact .more g' d h' i ih
def Zw (B : Heap) (H : Hp) (cls : Value) (d : Option Addr) (o : Obj) : Prop := Zc cls d o ∧ ∀ vs : Array Value, o.data = .fields vs → ∃ u n, vs[2]? = some u ∧ Links B H n u
theorem Zw.steady {B : Heap} {H : Hp} {cls : Value} {d : Option Addr} : PXN.Steady1 (Zw B H cls d) := fun o v h => by
  refine ⟨⟨PXN.steady_cls o v h.1.1, PXN.steady_dict o v h.1.2⟩, fun vs e => ?_⟩
  obtain ⟨c, dd, dt, sl⟩ := o
  cases dt with
  | fields ws =>
    have e2 : ws.setIfInBounds 1 v = vs := Data.fields.inj e
    obtain ⟨u, n, h1, h2⟩ := h.2 ws rfl
    refine ⟨u, n, ?_, h2⟩
    rw [← e2, ← h1]
    first
    | exact Array.getElem?_setIfInBounds_ne (by decide)
    | simp [Array.getElem?_setIfInBounds]
  | _ => first | exact Data.noConfusion e | cases e
def AirX (X : Cx) (W : WX) (u : Value) (t : Shared) : Prop :=
  ∃ (e : Addr) (B : Heap) (s₀ : Shared) (pl : List (Addr × Obj)) (σ : L2.St) (H : Hp) (cls : Value) (d : Option Addr), u = .ref e ∧ Inv X pl σ H s₀ ∧ (∀ b o, s₀.heap.get? b = some o → b ∉ frs X.stack → B.get? b = some o) ∧
    s₀.heap.UpToSlots t.heap ∧ L2.Sky B X.stack e (Zw B H cls d) X.env.locals t.heap ∧ H e = none ∧ t.os = s₀.os ∧ AllBare t.gens ∧ W cls d σ H
def TkX (X : Cx) (W : WX) : Prop := ∀ u t, AirX X W u t → X.xe u t
theorem TkX.imp {X : Cx} {W W' : WX} (k : TkX X W) (h : ∀ c d σ H, W' c d σ H → W c d σ H) : TkX X W' :=
  fun u t ⟨e, B, s₀, pl, σ, H, cls, d, q1, q2, q3, q4, q5, q6, q7, q8, q9⟩ => k u t ⟨e, B, s₀, pl, σ, H, cls, d, q1, q2, q3, q4, q5, q6, q7, q8, h _ _ _ _ q9⟩
def CallX (P : Program) (w : World) (l : List Env) (H : Hp) (s : Shared) (E : XK) (u : Value) (t : Shared) : Prop :=
  ∃ (e : Addr) (B : Heap) (H' : Hp) (cls : Value) (d : Option Addr), u = .ref e ∧ HandSPX.FlyingZ B l e (Zw B H' cls d) t.heap ∧ HOk P w H' B ∧ UB (frs l) H H' s.heap B t.heap ∧ H' e = none ∧ t.os = s.os ∧ AllBare t.gens ∧ E cls d H'
section
variable {X : Cx} {pl : List (Addr × Obj)} {σ : L2.St} {H : Hp} {s₀ s t : Shared} {B : Heap} {W : WX} {E : XK}
theorem AirX.of_call (I : Inv X pl σ H s) (hW : ∀ cls d H', E cls d H' → W cls d σ H') {u : Value} (c : CallX X.prog X.w X.stack H s E u t) : AirX X W u t := by
  obtain ⟨e, B, H', cls, d, rfl, fl, hok, ub, na, os, ag, hE⟩ := c
  -- the state without the exception: the ground and the frames
  obtain ⟨G, in_, out⟩ := L2.restrict t.heap fun b => (B.get? b).isSome || decide (b ∈ frs X.stack)
  have ground : ∀ b o, B.get? b = some o → G.get? b = some o := fun b o q => (in_ b (by rw [q]; rfl)).trans (fl.1 b o q)
  have frame : ∀ b, b ∈ frs X.stack → G.get? b = t.heap.get? b := fun b hb => in_ b (by rw [decide_eq_true hb, Bool.or_true])
  have back : ∀ b o, G.get? b = some o → t.heap.get? b = some o ∧ ((B.get? b).isSome = true ∨ b ∈ frs X.stack) := fun b o q => by
    by_cases hb : ((B.get? b).isSome || decide (b ∈ frs X.stack)) = true
    · refine ⟨(in_ b hb).symm.trans q, ?_⟩
      rcases Bool.or_eq_true_iff.mp hb with z | z
      · exact .inl z
      · exact .inr (of_decide_eq_true z)
    · rw [out b (by simpa using hb)] at q; cases q
  have J : Inv X pl σ H' { s with heap := G, gens := t.gens, drawn := t.drawn, toks := t.toks } := by
    refine I.call (ch := []) ⟨?_, ?_, ?_, ?_, ub.tups, ub.frzs, ub.tbls⟩ (hok.kept ground) ag fun _ z => nomatch z
    · exact fun b o q n hb _ => ground b o (ub.keep b o q n hb)
    · exact fun b o q n hb _ => (ub.slot b o q hb).elim fun sl z => ⟨sl, (frame b hb).trans z⟩
    · exact fun b o q n _ => ub.free b o q n
    · intro b o q _
      by_cases hb : b ∈ frs X.stack
      · exact (ub.slot b o q hb).elim fun sl z => ⟨_, (frame b hb).trans z⟩
      · exact (ub.there b o q hb).elim fun o' z => ⟨o', ground b o' z⟩
  refine ⟨e, B, _, pl, σ, H', cls, d, rfl, J, fun b o q hb => ?_, Heap.UpToSlots.of_keeps fun b o q => (back b o q).1, .inr (.inl fl), na, os, ag, hW _ _ _ hE⟩
  obtain ⟨q1, q2⟩ := back b o q
  obtain ⟨o', q3⟩ := Option.isSome_iff_exists.mp (q2.resolve_right hb)
  have q4 := (fl.1 b o' q3).symm.trans q1
  cases q4
  exact q3
theorem AirX.new {e : Addr} {oe : Obj} {vs : Array Value} {cls u : Value} {d : Option Addr} {n : Nat} (I : Inv X pl σ H s₀) (k : ∀ b o, s₀.heap.get? b = some o → t.heap.get? b = some o) (hn : s₀.heap.get? e = none) (he : t.heap.get? e = some oe)
    (hz : Zc cls d oe) (hd : oe.data = .fields vs) (h1 : vs[1]? = some .none) (h2 : vs[2]? = some u) (hl : Links (PySem.W.hideAll s₀.heap (frs X.stack)) H n u) (na : H e = none) (os : t.os = s₀.os) (ag : AllBare t.gens) (w : W cls d σ H) : AirX X W (.ref e) t := by
  have e0 : (PySem.W.hideAll s₀.heap (frs X.stack)).get? e = none := by
    rcases q : (PySem.W.hideAll s₀.heap (frs X.stack)).get? e with _ | o
    · rfl
    · exact absurd ((PySem.W.of_hideAll _ q).symm.trans hn) (by simp)
  refine ⟨e, _, s₀, pl, σ, H, cls, d, rfl, I, fun b o q hb => PySem.W.hideAll_get _ q hb, .of_keeps k, .inl ⟨fun b o q => k b o (PySem.W.of_hideAll _ q), e0, ?_, oe, vs, he, ⟨hz, fun ws q => ?_⟩, hd, h1⟩, na, os, ag, w⟩
  · exact .of_keeps (fun b o q _ => ⟨o, k b o q, rfl⟩) (L2.funFrames_none I.stack fun b hb => PySem.W.hideAll_none _ hb)
  · rw [hd] at q; cases q
    exact ⟨u, n, h2, hl⟩
theorem AirX.leave (hs : X.stack = X.env :: X.outer) (hf : X.env.frame = some X.env.locals) (hex : X.ex = []) {E₁ : Value → Shared → Prop} (hW : ∀ cls d σ H, W cls d σ H → E cls d H) {u : Value} (x : AirX X W u t) :
    wpAny (model X.prog X.w) X.A (leaving X.env u) (fun _ t' => CallX X.prog X.w X.outer X.H_0 X.s_0 E u t') E₁ t := by
  obtain ⟨e, B, s₀, pl, σ, H, cls, d, rfl, I, nb, up, sky, na, os, ag, w⟩ := x
  have hfr : X.A.frames = some (X.env :: X.outer) := hs ▸ I.ok.frames
  have here : ∀ b o, X.s_0.heap.get? b = some o → b ∉ X.fs → b ∉ frs X.stack := fun b o q hb hm => by
    rcases List.mem_cons.mp (I.stkSub b hm) with z | z
    · exact absurd (Nat.lt_of_lt_of_le (z ▸ Heap.lt_size q) I.ok.above) (Nat.lt_irrefl _)
    · exact hb z
  have no : ∀ b, b ∉ X.ex := fun b hb => by rw [hex] at hb; exact nomatch hb
  have out : ∀ h', HandSPX.FlyingZ B X.outer e (Zw B H cls d) h' → t.heap.UpToSlots h' → CallX X.prog X.w X.outer X.H_0 X.s_0 E (.ref e) { t with heap := h' } := fun h' fl up' => by
    refine ⟨e, B, H, cls, d, rfl, fl, I.inGround nb, ⟨?_, ?_, ?_, ?_, I.base.tups, I.base.frzs, I.base.tbls⟩, na, os.trans I.os, ag, hW _ _ _ _ w⟩
    · exact fun b o q n hb => nb b o (I.base.keep b o q n hb (no b)) (here b o q hb)
    · intro b o q hb
      obtain ⟨_, o₁, q₁, hnf⟩ := I.ok.funs.mem hb
      cases q.symm.trans q₁
      obtain ⟨sl, r1⟩ := I.base.slot b o q (I.ok.frf b hb) hb (no b)
      obtain ⟨sl2, r2⟩ := up b _ r1 hnf
      exact (up' b _ r2 hnf).elim fun sl3 r3 => ⟨sl3, r3⟩
    · exact fun b o q n => I.base.free b o q n (no b)
    · exact fun b o q hb => (I.base.there b o q (no b)).elim fun o' r => ⟨o', nb b o' r (here b o q hb)⟩
  rw [hs] at sky
  rcases sky with ⟨hB, hn, hl, oe, vs, he, hz, hd, h1⟩ | fl | hd
  · exact PXN.leaving_firstZ Zw.steady hfr hl hf he hB hn hd h1 hz out
  · exact PXN.leaves_onZ Zw.steady hfr hf fl out
  · exact HandSPX.leaves_heldZ hf hd out
theorem tkX_of (hs : X.stack = X.env :: X.outer) (hf : X.env.frame = some X.env.locals) (hex : X.ex = []) {E₁ : Value → Shared → Prop}
    (hx : X.xe = fun e s' => wpAny (model X.prog X.w) X.A (leaving X.env e) (fun _ s'' => CallX X.prog X.w X.outer X.H_0 X.s_0 E e s'') E₁ s') : TkX X (fun cls d _ H => E cls d H) := fun u t x => by
  rw [hx]; exact AirX.leave (W := fun cls d _ H => E cls d H) (E := E) hs hf hex (fun _ _ _ _ h => h) x
theorem passX (tk : TkX X W) (σ : L2.St) : PassesAt (CallX X.prog X.w) X σ (L2.WE W σ) := fun _ _ _ e t I c => tk e t (.of_call I (fun _ _ _ h => h) c)
end
theorem ps_raiseX {X : Cx} {W : WX} {e : Expr} {t : L2.St → Hp → XK → Prop} {pos : Pos} (hc : X.calm = true) (tk : TkX X W) (he : L2N.PMk X e t) : PS X (.Raise (some e) none pos) (fun _ σ H => t σ H fun cls d H' => W cls d σ H') := by
  refine ⟨fun pins s σ H D I h => ?_⟩
  show wpAny _ _ (standAt pos >>= fun _ => raiseStmt X.env (some (eval e X.env >>= fun v => standAt pos >>= fun _ => pure v)) none) _ _ _
  refine wpAny_bind (wpAny_standAt (L2.raise_made (I.ok.hd hc) (wpAny_bind (wpAny_mono (he pins s σ H _ I h) (fun u s1 mk => wpAny_bind (wpAny_standAt (wpAny_pure ?_))) fun _ _ x => x))))
  obtain ⟨a, oe, vs, sI, H', cls, d, rfl, J, k, hne, ha, hz, hd, h1, na, os, ag, r, q⟩ := mk
  obtain ⟨r1, r2⟩ := r (model X.prog X.w) s1.heap (J.kIn.keeps k)
  exact ⟨a, oe, vs, cls, rfl, ha, hz.1, hd, h1, r1, r2, tk _ _ (.new J k hne ha ⟨hz.1, hz.2.1⟩ hd h1 (hz.2.2 vs hd) .done na os ag q)⟩
end Tr
namespace Tr
open PySem L2 PySem.Spec PyProof.Rows
section
variable {prog : Program} {w : World} {A : Around} {B : Heap} {H : Hp} {a : Addr}
theorem unchain_links (ha : B.get? a = none) : ∀ (n m : Nat) (o slow : Value) (tg : Bool) (s : Shared) (R : Result → Shared → Prop), Links B H (n + 1) o → Links B H m slow → n + 1 ≤ m → (∀ x ob, B.get? x = some ob → s.heap.get? x = some ob) → R (.ok (.ret .none)) s →
    codeAny (model prog w) A (.builtin "proto.unchain" ⟨[.ref a, o, slow, .bool tg], []⟩) R s := by
  intro n
  induction n with
  | zero =>
    intro m o slow tg s R lo _ _ st q
    cases lo with
    | @more x ob vs u _ g d _ i r =>
      cases r
      refine codeAny_builtin HotX.entry_unchain ?_
      show wpAny _ _ (field (.ref x) 2 >>= _) _ _ s
      refine wpAny_bind (wpAny_field (st _ _ g) d i ?_)
      rw [if_pos (show (Value.none == Value.none) = true from rfl)]
      first
      | exact wpAny_bind (wpAny_pure (wpAny_pure q))
      | exact wpAny_pure q
  | succ n ih =>
    intro m o slow tg s R lo ls hm st q
    cases lo with
    | @more x ob vs u _ g d _ i r =>
      cases m with
      | zero => omega
      | succ m =>
      have lo' := r
      cases r with
      | @more y oy ws u2 _ gy dy _ iy ry =>
        cases ls with
        | @more z oz zs uz _ gz dz _ iz rz =>
          refine codeAny_builtin HotX.entry_unchain ?_
          show wpAny _ _ (field (.ref x) 2 >>= _) _ _ s
          refine wpAny_bind (wpAny_field (st _ _ g) d i ?_)
          rw [if_neg (show ¬ (Value.ref y == Value.none) = true by simp)]
          have nya : y ≠ a := fun e => by rw [e, ha] at gy; cases gy
          have b1 : (Value.ref y == Value.ref a) = false := by
            rw [Bool.eq_false_iff]; intro z; exact nya (Value.ref.inj (eq_of_beq z))
          have on : ∀ (sl : Value) (k : Nat), Links B H k sl → n + 1 ≤ k → (Code.builtin "proto.unchain" ⟨[.ref a, .ref y, sl, .bool !tg], []⟩).quiet = true ∧ codeAny (model prog w) A (.builtin "proto.unchain" ⟨[.ref a, .ref y, sl, .bool !tg], []⟩) R s :=
            fun sl k l hk => ⟨Code.quiet_builtin _ (by decide +kernel), ih k _ sl _ s R lo' l hk st q⟩
          rw [if_neg (show ¬ (Value.ref y == Value.ref a) = true by rw [b1]; decide)]
          by_cases hyz : (Value.ref y == Value.ref z) = true
          · rw [if_pos hyz]
            refine wpAny_bind (wpAny_rule ?_)
            first
            | exact wpAny_bind (wpAny_pure (wpAny_pure q))
            | exact wpAny_pure q
          · rw [if_neg hyz]
            cases tg with
            | true =>
              refine wpAny_bind (wpAny_field (st _ _ gz) dz iz ?_)
              exact wpAny_pure (on uz m rz (by omega))
            | false =>
              refine wpAny_bind (wpAny_pure ?_)
              exact wpAny_pure (on (.ref z) (m + 1) (.more gz dz ‹_› iz rz) (by omega))
end
end Tr
namespace Tr
open PySem L2 PySem.Spec PyProof.Rows
def fromH (h : Heap) (a x1 : Addr) : Heap := (h.update a (Obj.mapFields (·.setIfInBounds 3 (.ref x1)))).update a (Obj.mapFields (·.setIfInBounds 4 (.bool true)))
theorem fromH_at {h : Heap} {a x1 : Addr} {oe : Obj} {vs : Array Value} (ha : h.get? a = some oe) (hd : oe.data = .fields vs) :
    (fromH h a x1).get? a = some ((oe.mapFields (·.setIfInBounds 3 (.ref x1))).mapFields (·.setIfInBounds 4 (.bool true))) ∧ ((oe.mapFields (·.setIfInBounds 3 (.ref x1))).mapFields (·.setIfInBounds 4 (.bool true))).data = .fields ((vs.setIfInBounds 3 (.ref x1)).setIfInBounds 4 (.bool true)) := by
  have k3 := Obj.data_mapFields hd (·.setIfInBounds 3 (Value.ref x1))
  have k4 := Obj.data_mapFields k3 (·.setIfInBounds 4 (Value.bool true))
  exact ⟨Heap.get?_update_self _ (Heap.get?_update_self _ ha (Obj.isFreed_of_fields k3)) (Obj.isFreed_of_fields k4), k4⟩
theorem fromH_other {h : Heap} {a b x1 : Addr} (hne : a ≠ b) : (fromH h a x1).get? b = h.get? b := by
  unfold fromH
  exact (Heap.get?_update_other _ _ hne).trans (Heap.get?_update_other _ _ hne)
section
variable {prog : Program} {w : World} {A : Around} {E : Value → Shared → Prop} {env : Env} {s : Shared} {B : Heap} {H : Hp} {x1 : Addr} {n : Nat}
theorem not_type {a : Addr} {oe : Obj} {vs : Array Value} {s : Shared} {Q : Bool → Shared → Prop} (ha : s.heap.get? a = some oe) (hd : oe.data = .fields vs) (q : Q false s) : wpAny (model prog w) A (isType (.ref a)) Q E s := by
  simp only [isType, loadHead]
  refine wpAny_bind (wpAny_loadPart ha ?_)
  rw [hd]; exact wpAny_pure q
theorem exc_value {a : Addr} {oe : Obj} {vs : Array Value} {s : Shared} {m : String} {Q : Value → Shared → Prop} (ha : s.heap.get? a = some oe) (hd : oe.data = .fields vs) (L : PySem.W.Looks (model prog w) s.heap (isSubtype oe.cls (.type "BaseException")) true) (q : Q (.ref a) s) :
    wpAny (model prog w) A (excFromValue (.ref a) m) Q E s := by
  have LT : PySem.W.Looks (model prog w) s.heap (typeOf (.ref a)) oe.cls := fun A Q E s k q => wpAny_typeOf_ref (k _ _ ha) q
  have LI : PySem.W.Looks (model prog w) s.heap (isInstance (.ref a) (.type "BaseException")) true := LT.andThen L
  unfold excFromValue isExcClass
  refine wpAny_bind (wpAny_bind (not_type ha hd ?_))
  simp only [Bool.false_eq_true, if_false]
  refine wpAny_pure ?_
  simp only [Bool.false_eq_true, if_false]
  refine wpAny_bind (LI.here ?_)
  simp only [if_true]
  exact wpAny_pure q
theorem raiseNew_links {α : Type} {a : Addr} {oe : Obj} {vs : Array Value} {s : Shared} {Q : α → Shared → Prop} (hh : A.handled = some (.ref x1)) (hl : Links B H (n + 1) (.ref x1)) (hB : ∀ b o, B.get? b = some o → s.heap.get? b = some o) (nB : B.get? a = none)
    (ha : s.heap.get? a = some oe) (hd : oe.data = .fields vs) (hi : 2 < vs.size) (hE : E (.ref a) { s with heap := s.heap.update a (Obj.mapFields (·.setIfInBounds 2 (.ref x1))) }) : wpAny (model prog w) A (raiseNew (.ref a) : Sem α) Q E s := by
  have hne : x1 ≠ a := fun e => by
    cases hl with
    | more g _ _ _ _ => rw [e, nB] at g; cases g
  unfold raiseNew
  refine wpAny_bind (wpAny_handled ?_)
  rw [hh]
  have hb : (Value.ref x1 != Value.ref a) = true := HotX.ref_bne hne
  have walk : ∀ {Q' : Value → Shared → Prop}, Q' .none s → wpAny (model prog w) A (holding [Value.ref a] (runValue (.builtin "proto.unchain" ⟨[.ref a, .ref x1, .ref x1, .bool false], []⟩))) Q' E s := fun {Q'} q =>
    wpAny_holding (wpAny_runValue (unchain_links nB n (n + 1) _ _ false s _ hl hl (Nat.le_refl _) hB q))
  first
  | (show wpAny _ _ (if (Value.ref x1 != Value.ref a) = true then _ else _) _ _ _
     rw [if_pos hb]
     first
     | exact wpAny_bind (walk (wpAny_bind (HotX.chained ha hd hi (wpAny_throw hE))))
     | exact wpAny_bind (wpAny_bind (walk (HotX.chained ha hd hi (wpAny_throw hE)))))
  | (refine wpAny_bind ?_
     show wpAny _ _ (if (Value.ref x1 != Value.ref a) = true then _ else _) _ _ _
     rw [if_pos hb]
     exact wpAny_bind (walk (HotX.chained ha hd hi (wpAny_throw hE))))
theorem raise_from {x c : Sem Value} {Q : Flow → Shared → Prop} (hh : A.handled = some (.ref x1))
    (h : wpAny (model prog w) A x (fun v s₁ => ∃ (a : Addr) (oe o1 : Obj) (vs v1 : Array Value) (B : Heap) (H : Hp) (n : Nat), Links B H (n + 1) (.ref x1) ∧ v = .ref a ∧ s₁.heap.get? a = some oe ∧ oe.data = .fields vs ∧ vs[1]? = some .none ∧ 4 < vs.size ∧ (∀ b o, B.get? b = some o → s₁.heap.get? b = some o) ∧ B.get? a = none ∧ B.get? x1 = some o1 ∧ o1.data = .fields v1 ∧
      (∀ Q' : Value → Shared → Prop, Q' (.ref x1) s₁ → wpAny (model prog w) A c Q' E s₁) ∧
      PySem.W.Looks (model prog w) s₁.heap (isSubtype oe.cls (.type "BaseException")) true ∧ PySem.W.Looks (model prog w) s₁.heap (isSubtype o1.cls (.type "BaseException")) true ∧ PySem.W.Looks (model prog w) (fromH s₁.heap a x1) (typeOf oe.cls) (.type "type") ∧
      E (.ref a) { s₁ with heap := (fromH s₁.heap a x1).update a (Obj.mapFields (·.setIfInBounds 2 (.ref x1))) }) E s) :
    wpAny (model prog w) A (raiseStmt env (some x) (some c)) Q E s := by
  unfold raiseStmt
  dsimp only
  refine wpAny_bind (wpAny_mono h (fun v s₁ h₁ => ?_) fun _ _ x => x)
  obtain ⟨a, oe, o1, vs, v1, B, H, n, hl, rfl, ha, hd, h1, hi, hB, nB, g1, d1, hc, L1, L2, L3, hE⟩ := h₁
  have gx := hB _ _ g1
  have k3 := Obj.data_mapFields hd (·.setIfInBounds 3 (Value.ref x1))
  have ha3 := Heap.get?_update_self (Obj.mapFields (·.setIfInBounds 3 (Value.ref x1))) ha (Obj.isFreed_of_fields k3)
  obtain ⟨ha4, hd4⟩ := fromH_at (x1 := x1) ha hd
  have s4 : 4 < (vs.setIfInBounds 3 (Value.ref x1)).size := by rw [HotX.set_size]; exact hi
  have s2 : 2 < ((vs.setIfInBounds 3 (Value.ref x1)).setIfInBounds 4 (Value.bool true)).size := by rw [HotX.set_size, HotX.set_size]; omega
  have h14 : ((vs.setIfInBounds 3 (Value.ref x1)).setIfInBounds 4 (Value.bool true))[1]? = some Value.none := HotX.set_other (by decide) (HotX.set_other (by decide) h1)
  have hcls4 : ((oe.mapFields (·.setIfInBounds 3 (.ref x1))).mapFields (·.setIfInBounds 4 (.bool true))).cls = oe.cls := by rw [Obj.cls_mapFields, Obj.cls_mapFields]
  have LT4 : PySem.W.Looks (model prog w) (fromH s₁.heap a x1) (typeOf (.ref a)) oe.cls := fun A Q E s k q => wpAny_typeOf_ref (k _ _ ha4) (by rw [hcls4]; exact q)
  have hB4 : ∀ b o, B.get? b = some o → (fromH s₁.heap a x1).get? b = some o := fun b o q => by
    rw [fromH_other (fun e => by rw [← e, nB] at q; cases q)]; exact hB b o q
  have rest : wpAny (model prog w) A (do
      let b ← isType (.ref a)
      if b = true then do
        let e ← holding [.ref a] (raisedFor (.ref a) (.ref a))
        setFlight e none
        raiseNew e
      else do
        let e ← raisedInstance (.ref a)
        setFlight e none
        raiseNew e : Sem Flow) Q E { s₁ with heap := fromH s₁.heap a x1 } := by
    refine wpAny_bind (not_type ha4 hd4 ?_)
    simp only [Bool.false_eq_true, if_false]
    unfold raisedInstance
    refine wpAny_bind (wpAny_bind (LT4.here (wpAny_bind (L3.here ?_))))
    rw [if_pos (beq_self_eq_true _)]
    refine wpAny_pure ?_
    unfold setFlight
    refine wpAny_bind (wpAny_bind (wpAny_field ha4 hd4 h14 ?_))
    rw [if_neg (by decide)]
    refine wpAny_pure ?_
    exact raiseNew_links hh hl hB4 nB ha4 hd4 s2 hE
  refine wpAny_bind (wpAny_holding (hc _ (wpAny_bind (wpAny_pure ?_))))
  dsimp only
  refine wpAny_bind (wpAny_holding (exc_value ha hd L1 ?_))
  rw [if_neg (show ¬ (Value.ref x1 == Value.none) = true by simp)]
  refine wpAny_bind (wpAny_holding (exc_value gx d1 L2 ?_))
  refine wpAny_bind (wpAny_setField ha hd (by omega) (wpAny_bind (wpAny_setField ha3 k3 s4 ?_)))
  exact rest
end
end Tr
namespace Tr
open PySem L2 PySem.Spec PyProof.Rows
inductive Tied (pl : List (Addr × Obj)) : Nat → Value → Prop
  | done : Tied pl 0 .none
  | more {x : Addr} {o : Obj} {vs : Array Value} {u : Value} {n : Nat} : (x, o) ∈ pl → o.data = .fields vs → vs[2]? = some u → Tied pl n u → Tied pl (n + 1) (.ref x)
theorem Tied.mono {pl pl' : List (Addr × Obj)} {n : Nat} {v : Value} (t : Tied pl n v) (sub : ∀ p ∈ pl, p ∈ pl') : Tied pl' n v := by
  induction t with
  | done => exact .done
  | more m d i _ ih => exact .more (sub _ m) d i ih
theorem Links.tied {B : Heap} {H : Hp} {n : Nat} {v : Value} (l : Links B H n v) : ∃ cp : List (Addr × Obj), Tied cp n v ∧ ∀ p ∈ cp, B.get? p.1 = some p.2 ∧ H p.1 = none ∧ ∃ vs, p.2.data = .fields vs := by
  induction l with
  | done => exact ⟨[], .done, fun _ h => nomatch h⟩
  | @more x o vs u n g d h i _ ih =>
    obtain ⟨cp, t, a⟩ := ih
    refine ⟨(x, o) :: cp, .more List.mem_cons_self d i (t.mono fun p hp => List.mem_cons_of_mem _ hp), fun p hp => ?_⟩
    rcases List.mem_cons.mp hp with rfl | hp
    · exact ⟨g, h, _, d⟩
    · exact a p hp
abbrev sX (X : Cx) (a : Addr) (pl : List (Addr × Obj)) (xe : Value → Shared → Prop) : Cx := { X with A := X.A.mark (some (.ref a)), calm := false, pn := pl, xe := xe }
section
variable {X : Cx} {pins : List (Addr × Obj)} {σ : L2.St} {H : Hp} {s : Shared} {a : Addr} {pl : List (Addr × Obj)} {xe : Value → Shared → Prop}
theorem ok_sX (ok : X.Ok) : (sX X a pl xe).Ok := (ok.suite a pl).toTry pl xe
theorem Inv.sX (I : Inv X pins σ H s) {cp : List (Addr × Obj)} (hcp : ∀ p ∈ cp, s.heap.get? p.1 = some p.2 ∧ H p.1 = none ∧ p.1 ≠ X.env.locals ∧ p.1 ∉ X.fs ∧ ∀ v, p.2.data ≠ .cell v) : Inv (Tr.sX X a (cp ++ (X.pn ++ pins)) xe) [] σ H s := by
  refine ⟨ok_sX I.ok, I.os, I.bare, I.base, I.loc, I.cell, I.free, I.freeC, fun p hp => ?_, I.hok, I.len⟩
  rw [List.append_nil] at hp
  exact (List.mem_append.mp hp).elim (hcp p) (I.pin p)
theorem Inv.unsX {pn' : List (Addr × Obj)} (I : Inv (Tr.sX X a pl xe) pn' σ H s) (ok : X.Ok) (sub : ∀ p ∈ X.pn ++ pins, p ∈ pl) : Inv X pins σ H s :=
  ⟨ok, I.os, I.bare, I.base, I.loc, I.cell, I.free, I.freeC, fun p hp => I.pin p (List.mem_append_left _ (sub p hp)), I.hok, I.len⟩
theorem off_frames (I : Inv X pins σ H s) {b : Addr} (n1 : b ≠ X.env.locals) (n2 : b ∉ X.fs) : b ∉ frs X.stack := fun hm => by
  rcases List.mem_cons.mp (I.stkSub b hm) with z | z
  · exact n1 z
  · exact n2 z
theorem Tied.links (I : Inv X pins σ H s) {n : Nat} {v : Value} (t : Tied X.pn n v) : Links (PySem.W.hideAll s.heap (frs X.stack)) H n v := by
  induction t with
  | done => exact .done
  | more m d i _ ih =>
    obtain ⟨g, h, n1, n2, _⟩ := I.pin _ (List.mem_append_left _ m)
    exact .more (PySem.W.hideAll_get _ g (off_frames I n1 n2)) d h i ih
theorem Inv.grown {t : Shared} (I : Inv X pins σ H s) (k : ∀ b o, s.heap.get? b = some o → t.heap.get? b = some o) (os : t.os = s.os) (ag : AllBare t.gens) : Inv X pins σ H t :=
  I.landed (B := s.heap) (fun _ _ q _ => q) k (.of_keeps k) os ag
end
theorem ps_raiseFrom {X : Cx} {W : WX} {e : Expr} {t : L2.St → Hp → XK → Prop} {x : Str} {p pos : Pos} {i : Nat} {a : Addr} {oe : Obj} {ve : Array Value} {n : Nat} {cls : Value} (hh : X.A.handled = some (.ref a)) (hp : (a, oe) ∈ X.pn) (hdt : oe.data = .fields ve) (ht : Tied X.pn (n + 1) (.ref a))
    (hcl : oe.cls = cls) (hb : PySem.W.subIn X.K cls (.type "BaseException") = some true) (tk : TkX X W) (he : L2H.PMk5 X e t) (hi : X.N[i]? = some x) (hv : Vis X.env.scope x) (hdb : (x == ("__debug__" : Str)) = false := by decide) (hcd : (x == ("__classdict__" : Str)) = false := by decide) :
    PS X (.Raise (some e) (some (.Name x p)) pos) (fun _ σ H => σ[i]? = some (some (.ref a)) ∧ t σ H fun cls d H' => W cls d σ H') := by
  refine ⟨fun pins s σ H D I ⟨hs, h⟩ => ?_⟩
  obtain ⟨g0, h0, n1, n2, _⟩ := I.pin _ (List.mem_append_left _ hp)
  show wpAny _ _ (standAt pos >>= fun _ => raiseStmt X.env (some (eval e X.env >>= fun v => standAt pos >>= fun _ => pure v)) (some (eval (.Name x p) X.env >>= fun v => standAt pos >>= fun _ => pure v))) _ _ _
  refine wpAny_bind (wpAny_standAt (raise_from hh (wpAny_bind (wpAny_mono (he pins s σ H _ I h) (fun u s1 mk => wpAny_bind (wpAny_standAt (wpAny_pure ?_))) fun _ _ x => x))))
  obtain ⟨⟨a2, oe2, vs, sI, H', cls2, d2, rfl, J, k, hne, ha, hz, hd, h1, na, os, ag, r, q⟩, h5⟩ := mk
  have hi5 : 4 < vs.size := h5 a2 oe2 vs rfl ha hd
  obtain ⟨gI, hI, m1, m2, _⟩ := J.pin _ (List.mem_append_left _ hp)
  have LI := ht.links J
  have up : ∀ b o, (PySem.W.hideAll sI.heap (frs X.stack)).get? b = some o → s1.heap.get? b = some o := fun b o z => k b o (PySem.W.of_hideAll _ z)
  have nB : (PySem.W.hideAll sI.heap (frs X.stack)).get? a2 = none := by
    rcases z : (PySem.W.hideAll sI.heap (frs X.stack)).get? a2 with _ | o
    · rfl
    · exact absurd ((PySem.W.of_hideAll _ z).symm.trans hne) (by simp)
  have k4 : ∀ b o, sI.heap.get? b = some o → (fromH s1.heap a2 a).get? b = some o := fun b o z => by
    rw [fromH_other (fun y => by rw [← y, hne] at z; cases z)]; exact k b o z
  obtain ⟨r1, _⟩ := r (model X.prog X.w) s1.heap (J.kIn.keeps k)
  obtain ⟨_, r2⟩ := r (model X.prog X.w) (fromH s1.heap a2 a) (J.kIn.keeps k4)
  have r3 : PySem.W.Looks (model X.prog X.w) s1.heap (isSubtype oe.cls (.type "BaseException")) true := by rw [hcl]; exact PySem.W.looks_subIn (J.kIn.keeps k) hb
  obtain ⟨ha4, hd4⟩ := fromH_at (x1 := a) ha hd
  have J1 : L2.Inv X pins σ H' s1 := Inv.grown J k os ag
  refine ⟨a2, oe2, oe, vs, ve, _, H', n, LI, rfl, ha, hd, h1, hi5, up, nB, PySem.W.hideAll_get _ gI (off_frames J m1 m2), hdt, fun Q' q' => ?_, by rw [hz.1]; exact r1, r3, by rw [hz.1]; exact r2, tk _ _ ?_⟩
  · -- the name of the handled one
    obtain ⟨m, hn, hl⟩ := J1.loc
    obtain ⟨u, ru, l⟩ := hl i x (.ref a) hi hs hv
    cases ru
    have fin : wpAny (model X.prog X.w) X.A (standAt pos >>= fun _ => pure (Value.ref a)) Q' X.xe s1 := wpAny_bind (wpAny_standAt (wpAny_pure q'))
    refine wpAny_bind ?_
    rcases l with ⟨hk, hm⟩ | ⟨hk, c, hc, hcell⟩
    · exact wpAny_Name (wpAny_loadName_local J1.ok.kind hk hn hm fin) hdb
    · rcases hk with hk | hk
      · exact wpAny_Name (wpAny_loadName_cell J1.ok.kind hk hc hcell fin) hdb
      · exact wpAny_Name (wpAny_loadName_free J1.ok.kind hk hc hcell fin hcd) hdb
  · have s2 : 2 < ((vs.setIfInBounds 3 (Value.ref a)).setIfInBounds 4 (Value.bool true)).size := by rw [HotX.set_size, HotX.set_size]; omega
    refine AirX.new J (u := .ref a) (fun b o z => ?_) hne (Heap.get?_update_self _ ha4 (Obj.isFreed_of_fields (Obj.data_mapFields hd4 _))) ⟨?_, ?_⟩ (Obj.data_mapFields hd4 _) (HotX.set_other (by decide) (HotX.set_other (by decide) (HotX.set_other (by decide) h1))) ?_ LI na os ag q
    · show ((fromH s1.heap a2 a).update a2 _).get? b = some o
      rw [Heap.get?_update_other _ _ (fun y => by rw [← y, hne] at z; cases z)]
      exact k4 b o z
    · rw [Obj.cls_mapFields, Obj.cls_mapFields, Obj.cls_mapFields]; exact hz.1
    · rw [HandSPX.dict_mapFields, HandSPX.dict_mapFields, HandSPX.dict_mapFields]; exact hz.2.1
    · rw [Array.getElem?_setIfInBounds, if_pos rfl, if_pos s2]
end Tr
namespace Tr
open PySem L2 PySem.Spec PyProof.Rows
section
variable {X : Cx} {pins pl : List (Addr × Obj)} {σ : L2.St} {H : Hp} {s s₀ t : Shared} {B : Heap} {e L : Addr} {Z : Obj → Prop}
theorem sky_held {M : Model} {A : Around} {E₁ : Value → Shared → Prop} {env : Env} {outer : List Env} {Q : Unit → Shared → Prop} (hZ : PXN.Steady1 Z) (hfr : A.frames = some (env :: outer)) (hf : env.frame = some L) (x : L2.Sky B (env :: outer) e Z L s.heap)
    (hQ : ∀ h', HandSPX.HeldZ B (env :: outer) e Z L h' → s.heap.UpToSlots h' → Q () { s with heap := h' }) : wpAny M A (noteFrame (.ref e) env) Q E₁ s := by
  rcases x with ⟨hB, hn, hl, oe, vs, he, hz, hd, h1⟩ | fl | hh
  · exact PXN.look_newZ hZ hfr hl hf he hB hn hd h1 hz hQ
  · exact PXN.looks_onZ hZ hfr hf fl hQ
  · exact HandSPX.againZ hf hh.2.2.2 (hQ s.heap hh (Heap.UpToSlots.refl _))
theorem Inv.gone_at {i : Nat} {n : Str} (I : Inv X pins σ H s) (hN : X.N.Nodup) (hi : X.N[i]? = some n) : ∃ m, s.heap.Ns X.env.locals m ∧ ∀ (h' : Heap) (v : Option Value), h'.Ns X.env.locals (fun x => if x = n then v else m x) → (∀ b, b ≠ X.env.locals → h'.get? b = s.heap.get? b) →
    Inv X pins (σ.set i none) H { s with heap := h' } := by
  obtain ⟨m, hn, look⟩ := id I.loc
  refine ⟨m, hn, fun h' v hn' same => ?_⟩
  have below : ∀ b o, X.s_0.heap.get? b = some o → b ≠ X.env.locals := fun b o q z => absurd (Nat.lt_of_lt_of_le (z ▸ Heap.lt_size q) I.ok.above) (Nat.lt_irrefl _)
  have cellOk : ∀ {y : Str} {c : Addr} {w : Option Value}, X.env.cells.lookup y = some c → s.heap.IsCell c w → h'.IsCell c w := fun {y c w} q z => by
    obtain ⟨o, z1, z2⟩ := z
    exact ⟨o, (same c (I.cne y c q)).trans z1, z2⟩
  refine ⟨I.ok, I.os, I.bare, ⟨?_, ?_, I.base.free, ?_, I.base.tups, I.base.frzs, I.base.tbls⟩, ⟨_, hn', ?_⟩, ?_, I.free, I.freeC, ?_, ?_, by rw [List.length_set]; exact I.len⟩
  · intro b o q n1 n2 n3
    rw [same b (below b o q)]; exact I.base.keep b o q n1 n2 n3
  · intro b o q n1 n2 n3
    rw [same b (below b o q)]; exact I.base.slot b o q n1 n2 n3
  · intro b o q n3
    rw [same b (below b o q)]; exact I.base.there b o q n3
  · intro j y v' q1 q2 q3
    have hji : j ≠ i := fun z => by
      subst z
      rw [List.getElem?_set] at q2
      split at q2
      · split at q2 <;> cases q2
      · exact absurd rfl ‹_›
    rw [List.getElem?_set_ne (Ne.symm hji)] at q2
    obtain ⟨u, r, z⟩ := look j y v' q1 q2 q3
    refine ⟨u, r, ?_⟩
    rcases z with ⟨k, z⟩ | ⟨k, c, z1, z2⟩
    · refine .inl ⟨k, ?_⟩
      show (if y = n then v else m y) = _
      rw [if_neg (fun z0 : y = n => hji (nodup_ix hN q1 (by rw [z0]; exact hi)))]; exact z
    · exact .inr ⟨k, c, z1, cellOk z1 z2⟩
  · intro y c q
    obtain ⟨w, z⟩ := I.cell y c q
    exact ⟨w, cellOk q z⟩
  · intro p hp
    obtain ⟨q1, q2, q3, q4, q5⟩ := I.pin p hp
    exact ⟨(same _ q3).trans q1, q2, q3, q4, q5⟩
  · intro b ob q
    refine (I.hok b ob q).stay (fun c w' hc z => (same c fun z0 => ?_).trans z) (fun _ z => z) fun _ _ z => z
    subst z0
    rcases hc with hc | hc
    · rw [← hc, I.free] at q; cases q
    · rw [I.free] at hc; cases hc
end
end Tr
namespace Tr
open PySem L2 PySem.Spec PyProof.Rows
section
variable {X : Cx} {pins pl : List (Addr × Obj)} {σ : L2.St} {H : Hp} {s₀ t : Shared} {B : Heap} {e : Addr} {Z : Obj → Prop}
theorem gone_held {A : Around} {E₁ : Value → Shared → Prop} {i : Nat} {n : Str} {pos : Pos} {Q : Unit → Shared → Prop} (hs : X.stack = X.env :: X.outer) (hf : X.env.frame = some X.env.locals) (hN : X.N.Nodup) (hi : X.N[i]? = some n) (hln : X.env.kindOf n = some .local)
    (I : Inv X pl σ H s₀) (nb : ∀ b o, s₀.heap.get? b = some o → b ∉ frs X.stack → B.get? b = some o) (up : s₀.heap.UpToSlots t.heap) (hh : HandSPX.HeldZ B (X.env :: X.outer) e Z X.env.locals t.heap) (os : t.os = s₀.os) (ag : AllBare t.gens)
    (hQ : ∀ t' s₁, Inv X pl (σ.set i none) H s₁ → (∀ b o, s₁.heap.get? b = some o → b ∉ frs X.stack → B.get? b = some o) → s₁.heap.UpToSlots t'.heap → HandSPX.HeldZ B (X.env :: X.outer) e Z X.env.locals t'.heap → t'.os = s₁.os → AllBare t'.gens → Q () t') :
    wpAny (model X.prog X.w) A (do bindName X.env n .none; unbindBehindTheSuite X.env n pos) Q E₁ t := by
  obtain ⟨m, hn, go⟩ := Inv.gone_at I hN hi
  obtain ⟨oL, es, ep, gL, dL, rL⟩ := id hn
  have inFr : X.env.locals ∈ frs X.stack := by rw [hs]; exact List.mem_filterMap.mpr ⟨X.env, List.mem_cons_self, hf⟩
  obtain ⟨slL, tL⟩ := up _ _ gL (fun vs z => by rw [dL] at z; cases z)
  have hcls : (X.env.scope.kind == .class || (X.env.scope.kind == .module && X.env.locals != X.env.globals)) = false := by rw [I.ok.kind]; rfl
  refine wpAny_nameGoes_keeps hln (⟨_, es, ep, tL, dL, rL⟩ : t.heap.Ns X.env.locals m) hcls fun h' v hn' sb => ?_
  obtain ⟨o2, es2, ep2, g2, d2, r2⟩ := id hn'
  have same : ∀ b, b ≠ X.env.locals → h'.get? b = t.heap.get? b := fun b hb => sb.2 b hb
  -- the state without the exception, the name gone there too
  have u1 : (s₀.heap.update X.env.locals (fun _ => o2)).get? X.env.locals = some o2 := Heap.get?_update_self _ gL (by obtain ⟨a1, a2, a3, a4⟩ := o2; cases (show a3 = _ from d2); rfl)
  have u2 : ∀ b, b ≠ X.env.locals → (s₀.heap.update X.env.locals (fun _ => o2)).get? b = s₀.heap.get? b := fun b hb => Heap.get?_update_other _ _ (Ne.symm hb)
  have J := go (s₀.heap.update X.env.locals (fun _ => o2)) v ⟨o2, es2, ep2, u1, d2, r2⟩ u2
  obtain ⟨f1, f2, f3, oe, vs, T, oT, ts, he, hz, hd, h1, hnT, hTe, hT, hdT, h3⟩ := id hh
  have nB : B.get? X.env.locals = none := (f3.mem (hs ▸ inFr)).1
  have ne : ∀ {b : Addr} {o : Obj} {ws : Array Value}, t.heap.get? b = some o → o.data = .fields ws → b ≠ X.env.locals := fun {b o ws} q1 q2 z => by
    rw [z, tL] at q1; cases q1
    have : oL.data = .fields ws := q2
    rw [dL] at this; cases this
  refine hQ _ { s₀ with heap := s₀.heap.update X.env.locals (fun _ => o2) } J (fun b o q hb => nb b o ((u2 b fun z => hb (z ▸ inFr)).symm.trans q) hb) (fun b o q hnf => ?_) ⟨fun b o q => ?_, f2, ?_, oe, vs, T, oT, ts, (same e (ne he hd)).trans he, hz, hd, h1, hnT, hTe, (same T (ne hT hdT)).trans hT, hdT, h3⟩ os ag
  · by_cases hb : b = X.env.locals
    · subst hb
      rw [u1] at q; cases q
      exact ⟨o2.slots, g2⟩
    · rw [u2 b hb] at q
      obtain ⟨sl, z⟩ := up b o q hnf
      exact ⟨sl, (same b hb).trans z⟩
  · have hb : b ≠ X.env.locals := fun z => by rw [z, nB] at q; cases q
    exact (same b hb).trans (f1 b o q)
  · exact Heap.FunFrames.sameBut sb hn' f3
end
end Tr
namespace Tr
open PySem L2 PySem.Spec PyProof.Rows
section
variable {X : Cx} {x n : Str} {c : Value} {i : Nat} {body suite : List Stmt} {b₀ : Stmt} {np pos pos' : Pos} {tb : WX → TS} {ts : Addr → Value → Option Addr → TS} {Wout : WX}
theorem landed_sX {pins : List (Addr × Obj)} {σ : L2.St} {H : Hp} {s : Shared} {B : Heap} {a : Addr} {cls : Value} {d : Option Addr} (hs : X.stack = X.env :: X.outer) (hf : X.env.frame = some X.env.locals) (J : Inv X pins σ H s) (fl : HandSPX.FlyingZ B (X.env :: X.outer) a (Zw B H cls d) s.heap) (na : H a = none) :
    ∃ (oe : Obj) (ve : Array Value) (m : Nat) (cp : List (Addr × Obj)), s.heap.get? a = some oe ∧ Zc cls d oe ∧ oe.data = .fields ve ∧ (a, oe) ∈ cp ++ (X.pn ++ pins) ∧ Tied (cp ++ (X.pn ++ pins)) (m + 1) (.ref a) ∧ ∀ xe, Inv (sX X a (cp ++ (X.pn ++ pins)) xe) [] σ H s := by
  obtain ⟨oe, ve, he, hz, hd⟩ := fl.there
  obtain ⟨u, m, h2, lk⟩ := hz.2 ve hd
  obtain ⟨cp, tied, each⟩ := lk.tied
  have off : ∀ b, B.get? b ≠ none → b ≠ X.env.locals ∧ b ∉ X.fs := fun b hb => ⟨fun z => by
      subst z
      exact hb ((fl.2.2.1.mem (List.mem_filterMap.mpr ⟨X.env, List.mem_cons_self, hf⟩)).1), fun hm => by
      obtain ⟨v, hv, q⟩ := List.mem_filterMap.mp hm
      exact hb ((fl.2.2.1.mem (List.mem_filterMap.mpr ⟨v, List.mem_cons_of_mem _ hv, q⟩)).1)⟩
  have offA : a ∉ frs (X.env :: X.outer) := fun hm => by
    obtain ⟨_, o', q, hnf⟩ := fl.2.2.1.mem hm
    rw [he] at q; cases q
    exact hnf _ hd
  have aL : a ≠ X.env.locals := fun z => offA (List.mem_filterMap.mpr ⟨X.env, List.mem_cons_self, by rw [hf, z]⟩)
  have aF : a ∉ X.fs := fun hm => by
    obtain ⟨v, hv, q⟩ := List.mem_filterMap.mp hm
    exact offA (List.mem_filterMap.mpr ⟨v, List.mem_cons_of_mem _ hv, q⟩)
  refine ⟨oe, ve, m, (a, oe) :: cp, he, hz.1, hd, List.mem_cons_self, .more List.mem_cons_self hd h2 (tied.mono fun p hp => List.mem_cons_of_mem _ (List.mem_append_left _ hp)), fun xe => Inv.sX J fun p hp => ?_⟩
  rcases List.mem_cons.mp hp with rfl | hp
  · exact ⟨he, na, aL, aF, fun v z => by rw [show oe.data = _ from z] at hd; cases hd⟩
  · obtain ⟨g, nH, ws, hw⟩ := each p hp
    obtain ⟨o1, o2⟩ := off p.1 (by rw [g]; exact Option.some_ne_none _)
    exact ⟨fl.1 _ _ g, nH, o1, o2, fun v z => by rw [z] at hw; cases hw⟩
theorem fly_on {pins : List (Addr × Obj)} {σ : L2.St} {H : Hp} {sI s : Shared} {B : Heap} {a : Addr} {cls : Value} {d : Option Addr} {h3 : Heap} {D : Ends} (hs : X.stack = X.env :: X.outer) (hf : X.env.frame = some X.env.locals) (tk : TkX X Wout) (J : Inv X pins σ H sI)
    (nb : ∀ b o, sI.heap.get? b = some o → b ∉ frs X.stack → B.get? b = some o) (up : sI.heap.UpToSlots h3) (fl : HandSPX.FlyingZ B (X.env :: X.outer) a (Zw B H cls d) h3) (na : H a = none) (os : s.os = sI.os) (ag : AllBare s.gens) (w : Wout cls d σ H) :
    wpAny (model X.prog X.w) X.A (PySem.passOn "try.no-clause-matches" (.ref a) X.env : Sem Flow) (SP X pins D) X.xe { s with heap := h3 } := by
  obtain ⟨k1, k2, k3, k4⟩ := id fl
  obtain ⟨oe, vs, T, oT, ts', he, hz, hd, h1, hr⟩ := id k4
  unfold PySem.passOn
  refine wpAny_bind (wpAny_field he hd h1 ?_)
  rw [if_neg (show ¬ ((Value.ref T == Value.none) = true) from by simp)]
  have fin : wpAny (model X.prog X.w) X.A (setFlight (.ref a) X.env.frame) (fun _ s4 => wpAny (model X.prog X.w) X.A (throw (.ref a) : Sem Flow) (SP X pins D) X.xe s4) X.xe { s with heap := h3 } := by
    rw [hf]
    refine HandSPX.setFlight_upZ fl fun h4 hh4 up4 => wpAny_throw (tk _ _ ?_)
    exact ⟨a, B, sI, pins, σ, H, cls, d, rfl, J, nb, up.trans up4, .inr (.inr (hs ▸ hh4)), na, os, ag, w⟩
  first
  | exact wpAny_bind (wpAny_pure (wpAny_bind fin))
  | exact wpAny_bind fin
theorem ps_tryX_as (hs : X.stack = X.env :: X.outer) (hf : X.env.frame = some X.env.locals) (hN : X.N.Nodup) (hi : X.N[i]? = some n) (hln : X.env.kindOf n = some .local) (hc : Names X x c) (hpa : ∀ hd : Option Value, PassesOwnAt (model X.prog X.w) (X.A.mark hd) X.A X.env X.xe) (tk : TkX X Wout)
    (hb : ∀ (W : WX) (pn : List (Addr × Obj)) (xe : Value → Shared → Prop), TkX (X.tr pn xe) W → PassesOwn (model X.prog X.w) X.A X.env xe → (∀ A' A'' : Around, SameStack A' X.A → PassesOwnAt (model X.prog X.w) A' A'' X.env xe) → PSs (X.tr pn xe) body (tb W))
    (hsu : ∀ (a : Addr) (oe : Obj) (cls : Value) (d : Option Addr) (pl : List (Addr × Obj)) (xe : Value → Shared → Prop) (m : Nat) (ve : Array Value), Zc cls d oe → oe.data = .fields ve → (a, oe) ∈ pl → Tied pl (m + 1) (.ref a) → TkX (sX X a pl xe) (fun cls d σ H => Wout cls d (σ.set i none) H) → (∀ A' A'' : Around, SameStack A' (X.A.mark (some (.ref a))) → PassesOwnAt (model X.prog X.w) A' A'' X.env xe) → PSs (sX X a pl xe) (b₀ :: suite) (ts a cls d)) :
    PS X (.Try body [.ExceptHandler (some (.Name x np)) (some n) (b₀ :: suite) pos'] [] [] pos) (fun D σ H => tb (wAs X.K c i ts Wout D) D σ H) := by
  refine ⟨fun pins s σ H D I h => ?_⟩
  have ok := I.ok
  have hfr : X.A.frames = some (X.env :: X.outer) := hs ▸ ok.frames
  refine wpAny_Try_except ?_
  refine wpAny_mono ((hb (wAs X.K c i ts Wout D) (X.pn ++ pins) (fun e s₁ => wpAny (model X.prog X.w) X.A (noteFrame e X.env) (fun _ s₂ => wpAny (model X.prog X.w) X.A (setFlight e none) (fun _ s₃ =>
    wpAny (model X.prog X.w) X.A (handleBy e X.env [.ExceptHandler (some (.Name x np)) (some n) (b₀ :: suite) pos']) (SP X pins D) X.xe s₃) X.xe s₂) X.xe s₁) (fun u s' air => ?_) PassesOwn.looking (fun _ _ h => PassesOwnAt.lookingOf h)).run [] s σ H D (I.toTry _) h) (fun f s1 hsp => ?_) (fun e s1 he => he)
  · -- caught
    obtain ⟨a, B, sI, pl', σ', H', cls, d, rfl, J', nb, up, sky, na, os, ag, b, hb1, hyes, hno⟩ := air
    have J : Inv X pins σ' H' sI := J'.ofTry ok
    show wpAny (model X.prog X.w) X.A (noteFrame (.ref a) X.env) _ _ _
    refine L2N.Sky.land Zw.steady hfr hf (show L2.Sky B (X.env :: X.outer) a (Zw B H' cls d) X.env.locals s'.heap from hs ▸ sky) fun h3 fl3 up3 => ?_
    have J3 : Inv X pins σ' H' { s' with heap := h3 } := J.landed nb fl3.1 (up.trans up3) os ag
    obtain ⟨oe3, ve3, m3, cp3, he3, hz3, hd3, _, _, S3⟩ := landed_sX hs hf J3 fl3 na
    refine wpAny_handleBy_cons (codeAny_handlers_test ?_) (by intro q; cases q)
    have LT : PySem.W.Looks (model X.prog X.w) h3 (typeOf (.ref a)) cls := fun A Q E s k q => wpAny_typeOf_ref (k _ _ he3) (by rw [hz3.1]; exact q)
    have LM := PySem.W.exm_one (M := model X.prog X.w) (J3.kIn) LT hb1
    have name : ∀ {Q : Value → Shared → Prop} {E : Value → Shared → Prop}, Q c { s' with heap := h3 } → wpAny (model X.prog X.w) (X.A.mark (some (.ref a))) (eval (.Name x np) X.env) Q E { s' with heap := h3 } := fun {Q E} q => by
      obtain ⟨hg, hdbg, hm | ⟨hm, hv, hnn⟩⟩ := hc
      · exact ld_glob (X := sX X a _ fun _ _ => False) (S3 _) hg hm q hdbg
      · exact ld_blt (X := sX X a _ fun _ _ => False) (S3 _) hg hm hv q hnn hdbg
    refine name (LM.here ?_)
    cases b with
    | true =>
      refine codeAny_handlers_suite_as ?_
      refine HandSPX.lands_againZ fl3 fun h4 fl4 up4 => ?_
      have J4 : Inv X pins σ' H' { s' with heap := h4 } := J.landed nb fl4.1 ((up.trans up3).trans up4) os ag
      obtain ⟨oe4, ve4, m4, cp4, he4, hz4, hd4, mem4, tied4, S4⟩ := landed_sX hs hf J4 fl4 na
      refine store_ok (X := sX X a _ fun _ _ => False) (v := .ref a) (S4 _) hN hi (.inl hln) rfl (fun s5 S5 => ?_) (.inr hln)
      have end_ : ∀ {σ6 : L2.St} {H6 : Hp} {s6 : Shared} {xe : Value → Shared → Prop} {Q : Shared → Prop}, Inv (sX X a (cp4 ++ (X.pn ++ pins)) xe) [] σ6 H6 s6 → (∀ s7, Inv X pins (σ6.set i none) H6 s7 → Q s7) → wpAny (model X.prog X.w) X.A (do bindName X.env n .none; unbindBehindTheSuite X.env n pos') (fun _ s7 => Q s7) X.xe s6 :=
        fun S6 hq => gone_ok (Inv.unsX S6 ok fun p hp => List.mem_append_right _ hp) hN hi hln hq
      have S5' : ∀ xe, Inv (sX X a (cp4 ++ (X.pn ++ pins)) xe) [] (σ'.set i (some (.ref a))) H' s5 := fun xe => ⟨ok_sX ok, S5.os, S5.bare, S5.base, S5.loc, S5.cell, S5.free, S5.freeC, S5.pin, S5.hok, S5.len⟩
      refine wpAny_mono ((hsu a oe4 cls d _ _ m4 ve4 hz4 hd4 mem4 tied4 ?_ (fun _ _ h => PassesOwnAt.lookingOf h)).run [] s5 _ H' _ (S5' _) (hyes rfl a na)) (fun f s6 hsp => ?_) (fun _ _ z => z)
      · rintro u2 t2 ⟨e2, B2, s2, pl2, σ2, H2, cls2, d2, rfl, I2, nb2, up2, sky2, na2, os2, ag2, w2⟩
        have K2 : Inv X pins σ2 H2 s2 := Inv.unsX I2 ok fun p hp => List.mem_append_right _ hp
        refine sky_held (A := X.A.mark (some (.ref a))) Zw.steady (hs ▸ (S4 fun _ _ => False).ok.frames) hf (show L2.Sky B2 (X.env :: X.outer) e2 (Zw B2 H2 cls2 d2) X.env.locals t2.heap from hs ▸ sky2) fun h5 hh5 up5 => ?_
        refine gone_held (A := X.A.mark (some (.ref a))) hs hf hN hi hln K2 nb2 (up2.trans up5) hh5 os2 ag2 fun t6 s6 J6 nb6 up6 hh6 os6 ag6 => ?_
        obtain ⟨k1, k2, k3, k4⟩ := id hh6
        obtain ⟨oe, vs, T, oT, ts', he, hz, hd, h1, hr⟩ := id k4
        show wpAny _ _ (PySem.passOn _ _ _) _ _ _
        unfold PySem.passOn
        refine wpAny_bind (wpAny_field he hd h1 ?_)
        rw [if_neg (show ¬ ((Value.ref T == Value.none) = true) from by simp)]
        have fin : ∀ (K : Value → Shared → Prop), (∀ h7, X.xe (.ref e2) { t6 with heap := h7 } → K (.ref e2) { t6 with heap := h7 }) → wpAny (model X.prog X.w) (X.A.mark (some (.ref a))) (setFlight (.ref e2) X.env.frame) (fun _ s4 => wpAny (model X.prog X.w) (X.A.mark (some (.ref a))) (throw (.ref e2) : Sem Flow) (fun _ _ => False) K s4) K t6 := fun K hK => by
          rw [hf]
          refine HandSPX.setFlight_anyZ k1 k3 k4 fun h7 q1 q2 q3 q4 => wpAny_throw (hK h7 (tk _ _ ?_))
          exact ⟨e2, B2, s6, pins, σ2.set i none, H2, cls2, d2, rfl, J6, nb6, up6.trans q4, .inr (.inr (by rw [hs]; exact ⟨q1, k2, q2, q3⟩)), na2, os6, ag6, w2⟩
        first
        | exact wpAny_bind (wpAny_pure (wpAny_bind (fin _ fun h7 z => hpa (some (.ref a)) _ _ z)))
        | exact wpAny_bind (fin _ fun h7 z => hpa (some (.ref a)) _ _ z)
      · cases f with
        | next =>
          obtain ⟨σ6, H6, S6, q6⟩ := hsp
          exact end_ S6 fun s7 J7 => ⟨_, _, J7, q6⟩
        | brk =>
          obtain ⟨σ6, H6, S6, q6⟩ := hsp
          exact end_ S6 fun s7 J7 => ⟨_, _, J7, q6⟩
        | cont =>
          obtain ⟨σ6, H6, S6, q6⟩ := hsp
          exact end_ S6 fun s7 J7 => ⟨_, _, J7, q6⟩
        | ret u =>
          obtain ⟨v6, σ6, H6, S6, r6, q6⟩ := hsp
          exact end_ S6 fun s7 J7 => ⟨_, _, _, J7, r6, q6⟩
    | false =>
      show wpAny _ X.A (handleBy (.ref a) X.env []) _ _ _
      refine wpAny_handleBy_nil ?_
      exact fly_on hs hf tk J nb (up.trans up3) fl3 na os ag (hno rfl)
  · cases f with
    | next => exact (let ⟨_, _, J', q⟩ := hsp; wpAny_execs_nil ⟨_, _, J'.ofTry ok, q⟩)
    | brk => exact (let ⟨_, _, J', q⟩ := hsp; ⟨_, _, J'.ofTry ok, q⟩)
    | cont => exact (let ⟨_, _, J', q⟩ := hsp; ⟨_, _, J'.ofTry ok, q⟩)
    | ret u => exact (let ⟨_, _, _, J', r, q⟩ := hsp; ⟨_, _, _, J'.ofTry ok, r, q⟩)
end
end Tr
namespace Tr
open PySem L2 PySem.Spec PyProof.Rows
theorem pss_lift {X : Cx} {a : Addr} {oe : Obj} {pl : List (Addr × Obj)} {xe : Value → Shared → Prop} {st : List Stmt} {t : TS} (hm : (a, oe) ∈ pl) (h : PSs (X.suite a ((a, oe) :: pl)) st t) : PSs (sX X a pl xe) st t := by
  refine ⟨fun pins s σ H D I q => ?_⟩
  have to : ∀ {σ : L2.St} {H : Hp} {s : Shared}, Inv (sX X a pl xe) pins σ H s → Inv (X.suite a ((a, oe) :: pl)) pins σ H s := fun I => by
    refine ⟨?_, I.os, I.bare, I.base, I.loc, I.cell, I.free, I.freeC, fun p hp => ?_, I.hok, I.len⟩
    · exact (Cx.Ok.ofTry (X := X.suite a ((a, oe) :: pl)) (pn := pl) (xe := xe) I.ok)
    · refine I.pin p ?_
      rcases List.mem_append.mp hp with hp | hp
      · rcases List.mem_cons.mp hp with rfl | hp
        · exact List.mem_append_left _ hm
        · exact List.mem_append_left _ hp
      · exact List.mem_append_right _ hp
  have back : ∀ {σ : L2.St} {H : Hp} {s : Shared}, Inv (X.suite a ((a, oe) :: pl)) pins σ H s → Inv (sX X a pl xe) pins σ H s := fun J =>
    ⟨Cx.Ok.toTry (X := X.suite a ((a, oe) :: pl)) J.ok pl xe, J.os, J.bare, J.base, J.loc, J.cell, J.free, J.freeC, fun p hp => J.pin p (by
      rcases List.mem_append.mp hp with hp | hp
      · exact List.mem_append_left _ (List.mem_cons_of_mem _ hp)
      · exact List.mem_append_right _ hp), J.hok, J.len⟩
  refine wpAny_mono (h.run pins s σ H D (to I) q) (fun f s1 hsp => ?_) (fun _ _ z => z.elim)
  cases f with
  | next => exact (let ⟨_, _, J, q⟩ := hsp; ⟨_, _, back J, q⟩)
  | brk => exact (let ⟨_, _, J, q⟩ := hsp; ⟨_, _, back J, q⟩)
  | cont => exact (let ⟨_, _, J, q⟩ := hsp; ⟨_, _, back J, q⟩)
  | ret u => exact (let ⟨_, _, _, J, r, q⟩ := hsp; ⟨_, _, _, back J, r, q⟩)
end Tr

set_option maxHeartbeats 2000000
namespace Tr
open PySem L2 PySem.Spec PyProof.Rows

abbrev Rho := List (Option D)
abbrev SlotsR (K : W.Frag) (H0 : Hp) (ρ : Rho) (σ : L2.St) : Prop := ∀ (i : Nat) (d : D), ρ[i]? = some (some d) → ∃ v, σ[i]? = some (some v) ∧ Rep K H0 d v
theorem SlotsR.mono {K : W.Frag} {H0 H0' : Hp} {ρ : Rho} {σ : L2.St} (h : SlotsR K H0 ρ σ) (e : Same H0 H0') : SlotsR K H0' ρ σ := fun i d q => let ⟨v, a, b⟩ := h i d q; ⟨v, a, b.mono e⟩
theorem SlotsR.set {K : W.Frag} {H0 : Hp} {ρ : Rho} {σ : L2.St} {d : D} {v : V} (i : Nat) (h : SlotsR K H0 ρ σ) (r : Rep K H0 d v) (hl : ρ.length = σ.length) : SlotsR K H0 (ρ.set i (some d)) (σ.set i (some v)) := fun j e q => by
  rw [List.getElem?_set] at q
  split at q
  · rename_i hij; subst hij
    split at q
    · cases q
      rename_i hlt
      refine ⟨v, ?_, r⟩
      rw [List.getElem?_set_self (by omega)]
    · cases q
  · rename_i hij
    rw [List.getElem?_set_ne hij]
    exact h j e q
theorem SlotsR.unset {K : W.Frag} {H0 : Hp} {ρ : Rho} {σ : L2.St} (i : Nat) (h : SlotsR K H0 ρ σ) : SlotsR K H0 (ρ.set i none) (σ.set i none) := fun j e q => by
  rw [List.getElem?_set] at q
  split at q
  · split at q <;> cases q
  · rename_i hij
    rw [List.getElem?_set_ne hij]
    exact h j e q

abbrev XF := Option (List Str × List D)
def ExcR (K : W.Frag) (H0 H : Hp) : Option Addr → XF → Prop
  | none, none => True
  | some dd, some (ns, ds) => ∃ vs, H dd = some (.xd (ns.zip vs)) ∧ ns.length = vs.length ∧ Reps K H0 ds vs
  | _, _ => False

structure TX (X : Cx) where
  A : Hp → Cells → Hp → Prop
  up : ∀ {H0 C H H0' C' H'}, A H0 C H → CellsR X.K H0 C H → Stp H0 C H H0' C' H' → CellsR X.K H0' C' H' → A H0' C' H'
  XQ : Value → XF → Rho → Cells → Prop
  tk : TkX X (fun cls d σ H => ∃ fs ρ C H0, A H0 C H ∧ CellsR X.K H0 C H ∧ SlotsR X.K H0 ρ σ ∧ ρ.length = σ.length ∧ ExcR X.K H0 H d fs ∧ XQ cls fs ρ C)
  pass : PassesOwn (model X.prog X.w) X.A X.env X.xe
  pas : ∀ A' A'' : Around, SameStack A' X.A → PassesOwnAt (model X.prog X.w) A' A'' X.env X.xe

section
variable {X : Cx}
structure At (T : TX X) (H0 : Hp) (ρ : Rho) (C : Cells) (σ : L2.St) (H : Hp) : Prop where
  a : T.A H0 C H
  c : CellsR X.K H0 C H
  s : SlotsR X.K H0 ρ σ
  l : ρ.length = σ.length
theorem At.step {T : TX X} {H0 H0' H H' : Hp} {ρ : Rho} {C C' : Cells} {σ : L2.St} (h : At T H0 ρ C σ H) (p : Stp H0 C H H0' C' H') (c : CellsR X.K H0' C' H') : At T H0' ρ C' σ H' :=
  ⟨T.up h.a h.c p c, c, h.s.mono p.base, h.l⟩
abbrev QE := D → Cells → Prop
abbrev QA := List D → Cells → Prop
abbrev QT := Bool → Cells → Prop
abbrev Cont (X : Cx) (H0 : Hp) (C : Cells) (H : Hp) (Q : QE) (R : VK) : Prop := ∀ v d C' H' H0', Stp H0 C H H0' C' H' → CellsR X.K H0' C' H' → Rep X.K H0' d v → Q d C' → R v H'
abbrev ContA (X : Cx) (H0 : Hp) (C : Cells) (H : Hp) (Q : QA) (R : List V → Hp → Prop) : Prop := ∀ vs ds C' H' H0', Stp H0 C H H0' C' H' → CellsR X.K H0' C' H' → Reps X.K H0' ds vs → Q ds C' → R vs H'
abbrev ContT (X : Cx) (H0 : Hp) (C : Cells) (H : Hp) (Q : QT) (R : Bool → Hp → Prop) : Prop := ∀ b C' H' H0', Stp H0 C H H0' C' H' → CellsR X.K H0' C' H' → Q b C' → R b H'
theorem Cont.here {H0 H : Hp} {C : Cells} {Q : QE} {R : VK} (k : Cont X H0 C H Q R) (c : CellsR X.K H0 C H) {d : D} {v : V} (r : Rep X.K H0 d v) (q : Q d C) : R v H := k v d C H H0 (Stp.refl _ _ _) c r q
theorem Cont.after {H0 H0' H H' : Hp} {C C' : Cells} {Q Q' : QE} {R : VK} (k : Cont X H0 C H Q R) (p : Stp H0 C H H0' C' H') (c : CellsR X.K H0' C' H') (e : ∀ d C2, Q' d C2 → Q d C2) : Cont X H0' C' H' Q' R :=
  fun v d C2 H2 H02 p2 c2 r q => k v d C2 H2 H02 (p.trans c p2) c2 r (e d C2 q)

def TEx (T : TX X) (ρ : Rho) (C : Cells) (Q : QE) : TE := fun σ H R => ∃ H0, At T H0 ρ C σ H ∧ Cont X H0 C H Q R
def TAx (T : TX X) (ρ : Rho) (C : Cells) (Q : QA) : TA := fun σ H R => ∃ H0, At T H0 ρ C σ H ∧ ContA X H0 C H Q R
def TTx (T : TX X) (ρ : Rho) (C : Cells) (Q : QT) : TT := fun σ H R => ∃ H0, At T H0 ρ C σ H ∧ ContT X H0 C H Q R
def WE (T : TX X) (e : Expr) (ρ : Rho) (C : Cells) (Q : QE) : Prop := PE X e (TEx T ρ C Q)
def WA (T : TX X) (es : List Expr) (ρ : Rho) (C : Cells) (Q : QA) : Prop := PA X es (TAx T ρ C Q)
def WT (T : TX X) (e : Expr) (ρ : Rho) (C : Cells) (Q : QT) : Prop := PT X e (TTx T ρ C Q)
def WP (T : TX X) (e : Expr) (ρ : Rho) (C : Cells) (Q : QT) : Prop := PW X e (TTx T ρ C Q)

theorem PE.imp {e : Expr} {t t' : TE} (h : PE X e t) (i : ∀ σ H R, t' σ H R → t σ H R) : PE X e t' := ⟨fun pins s σ H Q I q => h.run pins s σ H Q I (i σ H Q q)⟩
theorem PA.imp {e : List Expr} {t t' : TA} (h : PA X e t) (i : ∀ σ H R, t' σ H R → t σ H R) : PA X e t' := ⟨fun pos pins s σ H Q I q => h.run pos pins s σ H Q I (i σ H Q q)⟩
theorem PT.imp {e : Expr} {t t' : TT} (h : PT X e t) (i : ∀ σ H R, t' σ H R → t σ H R) : PT X e t' := ⟨fun pins s σ H Q I q => h.run pins s σ H Q I (i σ H Q q)⟩
theorem PW.imp {e : Expr} {t t' : TT} (h : PW X e t) (i : ∀ σ H R, t' σ H R → t σ H R) : PW X e t' := ⟨fun wh pins s σ H Q I q => h.run wh pins s σ H Q I (i σ H Q q)⟩
theorem PS.imp {e : Stmt} {t t' : TS} (h : PS X e t) (i : ∀ D σ H, t' D σ H → t D σ H) : PS X e t' := ⟨fun pins s σ H Q I q => h.run pins s σ H Q I (i Q σ H q)⟩
theorem PSs.imp {e : List Stmt} {t t' : TS} (h : PSs X e t) (i : ∀ D σ H, t' D σ H → t D σ H) : PSs X e t' := ⟨fun pins s σ H Q I q => h.run pins s σ H Q I (i Q σ H q)⟩
theorem OpR.imp {f : Value → Value → Sem Value} {r r' : R2} (h : OpR X f r) (i : ∀ x y H R, r' x y H R → r x y H R) : OpR X f r' := fun pins s σ H x y v u Q I rx ry q => h pins s σ H x y v u Q I rx ry (i _ _ _ _ q)

def someE (T : TX X) (ρ : Rho) (e : Expr) : TE := fun σ H R => ∃ C Q, WE T e ρ C Q ∧ TEx T ρ C Q σ H R
theorem pe_some (T : TX X) (ρ : Rho) (e : Expr) : PE X e (someE T ρ e) := ⟨fun pins s σ H Q I ⟨C, q, h, t⟩ => h.run pins s σ H Q I t⟩
def someA (T : TX X) (ρ : Rho) (e : List Expr) : TA := fun σ H R => ∃ C Q, WA T e ρ C Q ∧ TAx T ρ C Q σ H R
theorem pa_some (T : TX X) (ρ : Rho) (e : List Expr) : PA X e (someA T ρ e) := ⟨fun pos pins s σ H Q I ⟨C, q, h, t⟩ => h.run pos pins s σ H Q I t⟩
def someP (T : TX X) (ρ : Rho) (e : Expr) : TT := fun σ H R => ∃ C Q, WP T e ρ C Q ∧ TTx T ρ C Q σ H R
theorem pw_some (T : TX X) (ρ : Rho) (e : Expr) : PW X e (someP T ρ e) := ⟨fun wh pins s σ H Q I ⟨C, q, h, t⟩ => h.run wh pins s σ H Q I t⟩

variable {T : TX X} {ρ : Rho} {C : Cells} {Q : QE} {e a b c : Expr} {pos : Pos} {es : List Expr}
theorem WE.mono {Q' : QE} (h : WE T e ρ C Q) (i : ∀ d C', Q d C' → Q' d C') : WE T e ρ C Q' :=
  PE.imp h fun σ H R ⟨H0, a, k⟩ => ⟨H0, a, fun v d C' H' H0' p c r q => k v d C' H' H0' p c r (i d C' q)⟩
theorem WT.mono {Q Q' : QT} (h : WT T e ρ C Q) (i : ∀ d C', Q d C' → Q' d C') : WT T e ρ C Q' :=
  PT.imp h fun σ H R ⟨H0, a, k⟩ => ⟨H0, a, fun v C' H' H0' p c q => k v C' H' H0' p c (i v C' q)⟩

theorem we_look {t : TE} {d : D} (h : PE X e t) (i : ∀ σ H H0, At T H0 ρ C σ H → ∃ v, Rep X.K H0 d v ∧ ∀ R : VK, R v H → t σ H R) (q : Q d C) : WE T e ρ C Q :=
  PE.imp h fun σ H R ⟨H0, a, k⟩ => let ⟨v, r, j⟩ := i σ H H0 a; j R (k.here a.c r q)
theorem we_int {i j} (q : Q (.int i) C) : WE T (.Constant (.int i) j pos) ρ C Q := we_look (d := .int i) pe_int (fun _ _ _ _ => ⟨.int i, rfl, fun _ r => r⟩) q
theorem we_bl {i j} (q : Q (.bl i) C) : WE T (.Constant (.bool i) j pos) ρ C Q := we_look (d := .bl i) pe_bl (fun _ _ _ _ => ⟨.bl i, rfl, fun _ r => r⟩) q
theorem we_str {i j} (q : Q (.str i) C) : WE T (.Constant (.str i) j pos) ρ C Q := we_look (d := .str i) pe_str (fun _ _ _ _ => ⟨.str i, rfl, fun _ r => r⟩) q
theorem we_var (i : Nat) {x : Str} {d : D} (hd : ρ[i]? = some (some d)) (q : Q d C) (h : PE X (.Name x pos) (tVar i)) : WE T (.Name x pos) ρ C Q :=
  we_look h (fun σ H H0 a => let ⟨v, e, r⟩ := a.s i d hd; ⟨v, r, fun R k => ⟨v, e, k⟩⟩) q
theorem we_glob {x : Str} {v : V} {d : D} (h : PE X (.Name x pos) (tC v)) (r : ∀ H0 : Hp, Rep X.K H0 d v) (q : Q d C) : WE T (.Name x pos) ρ C Q :=
  we_look h (fun σ H H0 a => ⟨v, r H0, fun R k => k⟩) q

def OW (T : TX X) (f : Value → Value → Sem Value) (d1 d2 : D) (C : Cells) (Q : QE) : Prop :=
  OpR X f fun x y H R => ∃ H0, CellsR X.K H0 C H ∧ Rep X.K H0 d1 x ∧ Rep X.K H0 d2 y ∧ Cont X H0 C H Q R
def someO (T : TX X) (f : Value → Value → Sem Value) : R2 := fun x y H R => ∃ d1 d2 C Q, OW T f d1 d2 C Q ∧ ∃ H0, CellsR X.K H0 C H ∧ Rep X.K H0 d1 x ∧ Rep X.K H0 d2 y ∧ Cont X H0 C H Q R
theorem op_some (T : TX X) (f : Value → Value → Sem Value) : OpR X f (someO T f) := fun pins s σ H x y v u Q I rx ry ⟨d1, d2, C, q, h, k⟩ => h pins s σ H x y v u Q I rx ry k
theorem ow_look {f : Value → Value → Sem Value} {r : R2} {d1 d2 d : D} (h : OpR X f r) (i : ∀ x y H H0, CellsR X.K H0 C H → Rep X.K H0 d1 x → Rep X.K H0 d2 y → ∃ v, Rep X.K H0 d v ∧ ∀ R : VK, R v H → r x y H R) (q : Q d C) : OW T f d1 d2 C Q :=
  OpR.imp h fun x y H R ⟨H0, c, r1, r2, k⟩ => let ⟨v, rr, j⟩ := i x y H H0 c r1 r2; j R (k.here c rr q)
theorem both {r : R2} {f : Value → Value → Sem Value} (h : WE T a ρ C fun d1 C1 => WE T b ρ C1 fun d2 C2 => OW T f d1 d2 C2 Q) (hr : ∀ x y H R, someO T f x y H R → r x y H R) :
    ∀ σ H R, TEx T ρ C Q σ H R → tOp r (TEx T ρ C fun d1 C1 => WE T b ρ C1 fun d2 C2 => OW T f d1 d2 C2 Q) (someE T ρ b) σ H R := fun σ H R ⟨H0, at_, k⟩ => by
  refine ⟨H0, at_, fun v1 d1 C1 H1 H01 p1 c1 r1 q1 => ?_⟩
  have at1 := at_.step p1 c1
  refine ⟨C1, _, q1, H01, at1, fun v2 d2 C2 H2 H02 p2 c2 r2 q2 => ?_⟩
  exact hr _ _ _ _ ⟨d1, d2, C2, Q, q2, H02, c2, r1.mono p2.base, r2, k.after (p1.trans c1 p2) c2 fun _ _ z => z⟩
theorem we_bin {op : Operator} (h : WE T a ρ C fun d1 C1 => WE T b ρ C1 fun d2 C2 => OW T (binaryOp op) d1 d2 C2 Q) : WE T (.BinOp a op b pos) ρ C Q :=
  PE.imp (pe_op (op_some T (binaryOp op)) h (pe_some T ρ b)) (both h fun _ _ _ _ z => z)
theorem we_cmp {op : CmpOp} (h : WE T a ρ C fun d1 C1 => WE T b ρ C1 fun d2 C2 => OW T (compareOp op) d1 d2 C2 Q) (hm : behindInMarks op b = false) : WE T (.Compare a [op] [b] pos) ρ C Q :=
  PE.imp (pe_cmpR (op_some T (compareOp op)) h (pe_some T ρ b) hm) (both h fun _ _ _ _ z => z)
theorem wt_cmp {op : CmpOp} {Q : QT} (h : WE T a ρ C fun d1 C1 => WE T b ρ C1 fun d2 C2 => OW T (compareOp op) d1 d2 C2 fun d C3 => ∃ k, d = .bl k ∧ Q k C3) (hm : behindInMarks op b = false) : WT T (.Compare a [op] [b] pos) ρ C Q :=
  PT.imp (pt_cmpR (op_some T (compareOp op)) h (pe_some T ρ b) hm) fun σ H R ⟨H0, at_, k⟩ => both (Q := fun d C3 => ∃ k, d = .bl k ∧ Q k C3) h (fun _ _ _ _ z => z) σ H _ ⟨H0, at_, fun v d C' H' H0' p c r ⟨j, e, q⟩ => by
    subst e; cases r; exact ⟨j, rfl, k j C' H' H0' p c q⟩⟩

theorem wt_tB {Q : QT} {t : TE → TT} (ht : ∀ ta, PE X e ta → PT X e (t ta)) (hm : ∀ ta σ H R, tTest ta σ H R → t ta σ H R) (h : WE T e ρ C fun d C1 => ∃ k, d = .bl k ∧ Q k C1) : WT T e ρ C Q :=
  PT.imp (ht _ h) fun σ H R ⟨H0, at_, k⟩ => hm _ σ H R ⟨H0, at_, fun v d C' H' H0' p c r ⟨j, e, q⟩ => by subst e; cases r; exact ⟨j, rfl, k j C' H' H0' p c q⟩⟩
theorem wt_val {Q : QT} (h : WE T e ρ C fun d C1 => ∃ k, d = .bl k ∧ Q k C1) (he : ∀ whole, isTrue e X.env whole = (do let v ← whole; standAt e.pos; holding [v] (truthy v)) := by intro _; rfl) : WT T e ρ C Q :=
  wt_tB (t := tB) (fun _ z => pt_val z he) (fun _ _ _ _ z => z) h
theorem wt_not {Q : QT} (h : WT T a ρ C fun k C1 => Q (!k) C1) : WT T (.UnaryOp .Not a pos) ρ C Q :=
  PT.imp (pt_not h) fun σ H R ⟨H0, at_, k⟩ => ⟨H0, at_, fun j C' H' H0' p c q => k _ C' H' H0' p c q⟩
theorem wt_p {Q : QT} (h : WP T a ρ C Q) : WT T a ρ C Q := PW.pt h
theorem wp_and1 {Q : QT} (h : WT T a ρ C Q) : WP T (.BoolOp .And [a] pos) ρ C Q := pw_and1 h
theorem wp_or1 {Q : QT} (h : WT T a ρ C Q) : WP T (.BoolOp .Or [a] pos) ρ C Q := pw_or1 h
theorem wp_and {Q : QT} (h : WT T a ρ C fun k C1 => if k = true then WP T (.BoolOp .And (b :: es) pos) ρ C1 Q else Q false C1) : WP T (.BoolOp .And (a :: b :: es) pos) ρ C Q :=
  PW.imp (pw_and h (pw_some T ρ _)) fun σ H R ⟨H0, at_, k⟩ => ⟨H0, at_, fun j C' H' H0' p c q => by
    cases j with
    | true => exact ⟨C', Q, q, H0', at_.step p c, fun j C2 H2 H02 p2 c2 q2 => k j C2 H2 H02 (p.trans c p2) c2 q2⟩
    | false => exact k false C' H' H0' p c q⟩
theorem wp_or {Q : QT} (h : WT T a ρ C fun k C1 => if k = true then Q true C1 else WP T (.BoolOp .Or (b :: es) pos) ρ C1 Q) : WP T (.BoolOp .Or (a :: b :: es) pos) ρ C Q :=
  PW.imp (pw_or h (pw_some T ρ _)) fun σ H R ⟨H0, at_, k⟩ => ⟨H0, at_, fun j C' H' H0' p c q => by
    cases j with
    | false => exact ⟨C', Q, q, H0', at_.step p c, fun j C2 H2 H02 p2 c2 q2 => k j C2 H2 H02 (p.trans c p2) c2 q2⟩
    | true => exact k true C' H' H0' p c q⟩
theorem we_one {op} (h : WE T a ρ C Q) : WE T (.BoolOp op [a] pos) ρ C Q := pe_one h
theorem we_and (h : WE T a ρ C fun d C1 => ∃ k, d = .bl k ∧ if k = true then WE T (.BoolOp .And (b :: es) pos) ρ C1 Q else Q (.bl false) C1) : WE T (.BoolOp .And (a :: b :: es) pos) ρ C Q :=
  PE.imp (pe_and h (pe_some T ρ _)) fun σ H R ⟨H0, at_, k⟩ => ⟨H0, at_, fun v d C' H' H0' p c r ⟨j, e, q⟩ => by
    subst e; cases r
    refine ⟨j, rfl, ?_⟩
    cases j with
    | true => exact ⟨C', Q, q, H0', at_.step p c, k.after p c fun _ _ z => z⟩
    | false => exact k _ (.bl false) C' H' H0' p c rfl q⟩
theorem we_or (h : WE T a ρ C fun d C1 => ∃ k, d = .bl k ∧ if k = true then Q (.bl true) C1 else WE T (.BoolOp .Or (b :: es) pos) ρ C1 Q) : WE T (.BoolOp .Or (a :: b :: es) pos) ρ C Q :=
  PE.imp (pe_or h (pe_some T ρ _)) fun σ H R ⟨H0, at_, k⟩ => ⟨H0, at_, fun v d C' H' H0' p c r ⟨j, e, q⟩ => by
    subst e; cases r
    refine ⟨j, rfl, ?_⟩
    cases j with
    | false => exact ⟨C', Q, q, H0', at_.step p c, k.after p c fun _ _ z => z⟩
    | true => exact k _ (.bl true) C' H' H0' p c rfl q⟩
theorem we_ifExp (h : WT T c ρ C fun k C1 => if k = true then WE T a ρ C1 Q else WE T b ρ C1 Q) : WE T (.IfExp c a b pos) ρ C Q :=
  PE.imp (pe_ifExp h (pe_some T ρ a) (pe_some T ρ b)) fun σ H R ⟨H0, at_, k⟩ => ⟨H0, at_, fun j C' H' H0' p c q => by
    cases j with
    | true => exact ⟨C', Q, q, H0', at_.step p c, k.after p c fun _ _ z => z⟩
    | false => exact ⟨C', Q, q, H0', at_.step p c, k.after p c fun _ _ z => z⟩⟩

theorem wa_nil {Q : QA} (q : Q [] C) : WA T [] ρ C Q := PA.imp pa_nil fun σ H R ⟨H0, at_, k⟩ => k [] [] C H H0 (Stp.refl _ _ _) at_.c Reps.nil q
theorem wa_cons {Q : QA} (h : WE T a ρ C fun d C1 => WA T es ρ C1 fun ds C2 => Q (d :: ds) C2) (hs : starEach (a :: es) X.env = (false, eval a X.env) :: starEach es X.env := by rfl) : WA T (a :: es) ρ C Q :=
  PA.imp (pa_cons h (pa_some T ρ es) hs) fun σ H R ⟨H0, at_, k⟩ => ⟨H0, at_, fun v d C1 H1 H01 p1 c1 r1 q1 => ⟨C1, _, q1, H01, at_.step p1 c1, fun vs ds C2 H2 H02 p2 c2 r2 q2 =>
    k _ _ C2 H2 H02 (p1.trans c1 p2) c2 (Reps.cons (r1.mono p2.base) r2) q2⟩⟩
theorem we_tup {x1} (h : WA T es ρ C fun ds C1 => ds.length ≤ 100000 ∧ Q (.tup ds) C1) : WE T (.Tuple es x1 pos) ρ C Q :=
  PE.imp (pe_tup h) fun σ H R ⟨H0, at_, k⟩ => ⟨H0, at_, fun vs ds C1 H1 H01 p1 c1 r1 ⟨z, q⟩ => ⟨Nat.le_trans (by rw [← r1.length]; exact z) (by decide), fun p hp => by
    obtain ⟨p2, c2⟩ := stp_new (o := .tup vs) c1 hp
    exact k _ (.tup ds) C1 _ _ (p1.trans c1 p2) c2 ⟨p, vs, rfl, .inl (.inl upd_same), r1.mono p2.base⟩ q⟩⟩
theorem we_lst (h : WA T es ρ C fun ds C1 => ds.length ≤ 100000 ∧ Q (.lst ds) C1) : WE T (.List es pos) ρ C Q :=
  PE.imp (pe_lst h) fun σ H R ⟨H0, at_, k⟩ => ⟨H0, at_, fun vs ds C1 H1 H01 p1 c1 r1 ⟨z, q⟩ => ⟨Nat.le_trans (by rw [← r1.length]; exact z) (by decide), fun p hp => by
    obtain ⟨p2, c2⟩ := stp_new (o := .lst vs) c1 hp
    exact k _ (.lst ds) C1 _ _ (p1.trans c1 p2) c2 ⟨p, vs, rfl, .inl (.inl upd_same), r1.mono p2.base⟩ q⟩⟩
theorem we_lstC (h : WA T es ρ C fun ds C1 => ds.length ≤ 100000 ∧ ∀ p, Q (.raw (.ref p)) ((p, .lst ds) :: C1)) : WE T (.List es pos) ρ C Q :=
  PE.imp (pe_lst h) fun σ H R ⟨H0, at_, k⟩ => ⟨H0, at_, fun vs ds C1 H1 H01 p1 c1 r1 ⟨z, q⟩ => ⟨Nat.le_trans (by rw [← r1.length]; exact z) (by decide), fun p hp => by
    obtain ⟨p2, c2⟩ := stp_cell (o := .lst vs) (c := .lst ds) c1 hp ⟨vs, upd_same, r1⟩
    exact k _ (.raw (.ref p)) _ _ _ (p1.trans c1 p2) c2 rfl (q p)⟩⟩

def CW (T : TX X) (f : Value) (ds : List D) (C : Cells) (Q : QE) : Prop := CallR X f fun xs H R => ∃ H0, CellsR X.K H0 C H ∧ Reps X.K H0 ds xs ∧ Cont X H0 C H Q R
def someC (T : TX X) (f : Value) : List V → Hp → VK → Prop := fun xs H R => ∃ ds C Q, CW T f ds C Q ∧ ∃ H0, CellsR X.K H0 C H ∧ Reps X.K H0 ds xs ∧ Cont X H0 C H Q R
theorem call_some (T : TX X) (f : Value) : CallR X f (someC T f) := fun pins s σ H vs us Q I r ⟨ds, C, q, h, k⟩ => h pins s σ H vs us Q I r k
theorem CallR.imp {f : Value} {r r' : List V → Hp → VK → Prop} (h : CallR X f r) (i : ∀ xs H R, r' xs H R → r xs H R) : CallR X f r' := fun pins s σ H vs us Q I rv q => h pins s σ H vs us Q I rv (i _ _ _ q)
theorem cw_look {f : Value} {r : List V → Hp → VK → Prop} {ds : List D} {d : D} (h : CallR X f r) (i : ∀ xs H H0, CellsR X.K H0 C H → Reps X.K H0 ds xs → ∃ v, Rep X.K H0 d v ∧ ∀ R : VK, R v H → r xs H R) (q : Q d C) : CW T f ds C Q :=
  CallR.imp h fun xs H R ⟨H0, c, r1, k⟩ => let ⟨v, rr, j⟩ := i xs H H0 c r1; j R (k.here c rr q)
theorem args_some {t : List V → Hp → VK → Prop} {es : List Expr} {f : Value} (i : ∀ xs H R, someC T f xs H R → t xs H R) : ∀ σ H R, TEx T ρ C Q σ H R → tCB t (TAx T ρ C fun ds C1 => CW T f ds C1 Q) σ H R :=
  fun σ H R ⟨H0, at_, k⟩ => ⟨H0, at_, fun vs ds C1 H1 H01 p1 c1 r1 q1 => i _ _ _ ⟨ds, C1, Q, q1, H01, c1, r1, k.after p1 c1 fun _ _ z => z⟩⟩
theorem we_callB {x : Str} {p : Pos} {id : String} (hg : Gl X x) (hm : X.mg x = none) (hv : bootBuiltins x = some (.builtin id)) (h : WA T (a :: es) ρ C fun ds C1 => CW T (.builtin id) ds C1 Q)
    (hn : x ≠ "__name__" := by decide) (hdb : (x == ("__debug__" : Str)) = false := by decide) (he : starEach (a :: es) X.env = (false, eval a X.env) :: starEach es X.env := by rfl) (hpl : (backTo pos (starEach es X.env)).any (·.1) = false := by rfl) :
    WE T (.Call (.Name x p) (a :: es) [] pos) ρ C Q := PE.imp (pe_callB (call_some T _) hg hm hv h hn hdb he hpl) (args_some (es := es) fun _ _ _ z => z)
theorem we_callTy {x : Str} {p : Pos} {id : String} (hg : Gl X x) (hm : X.mg x = none) (hv : bootBuiltins x = some (.type id)) (h : WA T (a :: es) ρ C fun ds C1 => CW T (.type id) ds C1 Q)
    (hn : x ≠ "__name__" := by decide) (hdb : (x == ("__debug__" : Str)) = false := by decide) (he : starEach (a :: es) X.env = (false, eval a X.env) :: starEach es X.env := by rfl) (hpl : (backTo pos (starEach es X.env)).any (·.1) = false := by rfl) :
    WE T (.Call (.Name x p) (a :: es) [] pos) ρ C Q := PE.imp (pe_callTy (call_some T _) hg hm hv h hn hdb he hpl) (args_some (es := es) fun _ _ _ z => z)
end
end Tr

set_option maxHeartbeats 2000000
namespace Tr
open PySem L2 PySem.Spec PyProof.Rows
section
variable {X : Cx}
abbrev QS := Rho → Cells → Prop
structure TEnds where
  nx : QS
  rt : QE
  bk : QS := fun _ _ => False
  ct : QS := fun _ _ => False
abbrev ContS (X : Cx) (H0 : Hp) (C : Cells) (H : Hp) (Q : QS) (R : L2.St → Hp → Prop) : Prop :=
  ∀ (ρ' : Rho) (σ' : L2.St) C' H' H0', Stp H0 C H H0' C' H' → CellsR X.K H0' C' H' → SlotsR X.K H0' ρ' σ' → ρ'.length = σ'.length → Q ρ' C' → R σ' H'
structure Tail (X : Cx) (H0 : Hp) (C : Cells) (H : Hp) (N : TEnds) (Dn : Ends) : Prop where
  nx : ContS X H0 C H N.nx Dn.nx
  rt : Cont X H0 C H N.rt Dn.rt
  bk : ContS X H0 C H N.bk Dn.bk
  ct : ContS X H0 C H N.ct Dn.ct
theorem ContS.after {H0 H0' H H' : Hp} {C C' : Cells} {Q : QS} {R : L2.St → Hp → Prop} (k : ContS X H0 C H Q R) (p : Stp H0 C H H0' C' H') (c : CellsR X.K H0' C' H') : ContS X H0' C' H' Q R :=
  fun ρ σ C2 H2 H02 p2 c2 s l q => k ρ σ C2 H2 H02 (p.trans c p2) c2 s l q
theorem Tail.after {H0 H0' H H' : Hp} {C C' : Cells} {N : TEnds} {Dn : Ends} (k : Tail X H0 C H N Dn) (p : Stp H0 C H H0' C' H') (c : CellsR X.K H0' C' H') : Tail X H0' C' H' N Dn :=
  ⟨ContS.after k.nx p c, k.rt.after p c fun _ _ z => z, ContS.after k.bk p c, ContS.after k.ct p c⟩
def TSx (T : TX X) (ρ : Rho) (C : Cells) (N : TEnds) : TS := fun Dn σ H => ∃ H0, At T H0 ρ C σ H ∧ Tail X H0 C H N Dn
def WS (T : TX X) (st : Stmt) (ρ : Rho) (C : Cells) (N : TEnds) : Prop := PS X st (TSx T ρ C N)
def WSs (T : TX X) (st : List Stmt) (ρ : Rho) (C : Cells) (N : TEnds) : Prop := PSs X st (TSx T ρ C N)
def someS (T : TX X) (st : List Stmt) : TS := fun Dn σ H => ∃ ρ C N, WSs T st ρ C N ∧ TSx T ρ C N Dn σ H
theorem pss_some (T : TX X) (st : List Stmt) : PSs X st (someS T st) := ⟨fun pins s σ H D I ⟨ρ, C, N, h, t⟩ => h.run pins s σ H D I t⟩

variable {T : TX X} {ρ : Rho} {C : Cells} {N : TEnds} {e a b c : Expr} {pos : Pos} {es : List Expr} {st : Stmt} {rest body : List Stmt}
theorem ContS.here {H0 H : Hp} {Q : QS} {R : L2.St → Hp → Prop} {σ : L2.St} (k : ContS X H0 C H Q R) (at_ : At T H0 ρ C σ H) (q : Q ρ C) : R σ H := k ρ σ C H H0 (Stp.refl _ _ _) at_.c at_.s at_.l q

theorem wss_nil (h : N.nx ρ C) : WSs T [] ρ C N := PSs.imp pss_nil fun Dn σ H ⟨H0, at_, k⟩ => ContS.here k.nx at_ h
theorem wss_cons (h : WS T st ρ C { N with nx := fun ρ1 C1 => WSs T rest ρ1 C1 N }) : WSs T (st :: rest) ρ C N :=
  PSs.imp (pss_cons h (pss_some T rest)) fun Dn σ H ⟨H0, at_, k⟩ => ⟨H0, at_, ⟨fun ρ' σ' C' H' H0' p c s l q => ⟨ρ', C', N, q, H0', ⟨T.up at_.a at_.c p c, c, s, l⟩, k.after p c⟩, k.rt, k.bk, k.ct⟩⟩
theorem wss_one (h : WS T st ρ C N) : WSs T [st] ρ C N := pss_one h
theorem ws_expr (h : WE T e ρ C fun _ C1 => N.nx ρ C1) (hs : swapsWith e none pos.line X.env = pure false := by rfl) : WS T (.Expr e pos) ρ C N :=
  PS.imp (ps_expr h hs) fun Dn σ H ⟨H0, at_, k⟩ => ⟨H0, at_, fun v d C1 H1 H01 p c r q => ContS.here (k.after p c).nx (at_.step p c) q⟩
theorem ws_ret (h : WE T e ρ C N.rt) : WS T (.Return (some e) pos) ρ C N := PS.imp (ps_ret h) fun Dn σ H ⟨H0, at_, k⟩ => ⟨H0, at_, k.rt⟩
theorem ws_if {tb fb : List Stmt} (h : WT T c ρ C fun k C1 => if k = true then WSs T tb ρ C1 N else WSs T fb ρ C1 N) : WS T (.If c tb fb pos) ρ C N :=
  PS.imp (ps_if h (pss_some T tb) (pss_some T fb)) fun Dn σ H ⟨H0, at_, k⟩ => ⟨H0, at_, fun b C1 H1 H01 p c q => by
    cases b with
    | true => exact ⟨ρ, C1, N, q, H01, at_.step p c, k.after p c⟩
    | false => exact ⟨ρ, C1, N, q, H01, at_.step p c, k.after p c⟩⟩

def TGx (T : TX X) (d : D) (ρ : Rho) (C : Cells) (Q : QS) : TG := fun v σ H R => ∃ H0, At T H0 ρ C σ H ∧ Rep X.K H0 d v ∧ ContS X H0 C H Q R
def TGsx (T : TX X) (ds : List D) (ρ : Rho) (C : Cells) (Q : QS) : TGs := fun vs σ H R => ∃ H0, At T H0 ρ C σ H ∧ Reps X.K H0 ds vs ∧ ContS X H0 C H Q R
def WG (T : TX X) (tg : Expr) (d : D) (ρ : Rho) (C : Cells) (Q : QS) : Prop := PG X tg (TGx T d ρ C Q)
def WGs (T : TX X) (tg : List Expr) (ds : List D) (ρ : Rho) (C : Cells) (Q : QS) : Prop := PGs X tg (TGsx T ds ρ C Q)
theorem PG.imp {e : Expr} {t t' : TG} (h : PG X e t) (i : ∀ v σ H R, t' v σ H R → t v σ H R) : PG X e t' := ⟨fun pins s σ H v u Q I r q => h.run pins s σ H v u Q I r (i v σ H Q q)⟩
theorem PGs.imp {e : List Expr} {t t' : TGs} (h : PGs X e t) (i : ∀ v σ H R, t' v σ H R → t v σ H R) : PGs X e t' := ⟨fun pins s σ H v u Q I r q => h.run pins s σ H v u Q I r (i v σ H Q q)⟩
def someG (T : TX X) (tg : Expr) : TG := fun v σ H R => ∃ d ρ C Q, WG T tg d ρ C Q ∧ TGx T d ρ C Q v σ H R
theorem pg_some (T : TX X) (tg : Expr) : PG X tg (someG T tg) := ⟨fun pins s σ H v u Q I r ⟨d, ρ, C, q, h, t⟩ => h.run pins s σ H v u Q I r t⟩
def someGs (T : TX X) (tg : List Expr) : TGs := fun v σ H R => ∃ d ρ C Q, WGs T tg d ρ C Q ∧ TGsx T d ρ C Q v σ H R
theorem pgs_some (T : TX X) (tg : List Expr) : PGs X tg (someGs T tg) := ⟨fun pins s σ H v u Q I r ⟨d, ρ, C, q, h, t⟩ => h.run pins s σ H v u Q I r t⟩
theorem wg_name {d : D} {Q : QS} (i : Nat) {x : Str} (q : Q (ρ.set i (some d)) C) (h : PG X (.Name x pos) (gName i)) : WG T (.Name x pos) d ρ C Q :=
  PG.imp h fun v σ H R ⟨H0, at_, r, k⟩ => k _ _ C H H0 (Stp.refl _ _ _) at_.c (SlotsR.set i at_.s r at_.l) (by rw [List.length_set, List.length_set]; exact at_.l) q
theorem wgs_nil {Q : QS} (q : Q ρ C) : WGs T [] [] ρ C Q := PGs.imp pgs_nil fun v σ H R ⟨H0, at_, r, k⟩ => ⟨r, ContS.here k at_ q⟩
theorem wgs_cons {tg : Expr} {tgs : List Expr} {d : D} {ds : List D} {Q : QS} (h : WG T tg d ρ C fun ρ1 C1 => WGs T tgs ds ρ1 C1 Q)
    (hs : (assignEach (tg :: tgs) X.env).map (·.2) = assign tg X.env :: (assignEach tgs X.env).map (·.2) := by rfl) : WGs T (tg :: tgs) (d :: ds) ρ C Q :=
  PGs.imp (pgs_cons h (pgs_some T tgs) hs) fun v σ H R ⟨H0, at_, ⟨v1, r, e1, r1, r2⟩, k⟩ => ⟨v1, r, e1, H0, at_, r1, fun ρ' σ' C' H' H0' p c s l q =>
    ⟨ds, ρ', C', Q, q, H0', ⟨T.up at_.a at_.c p c, c, s, l⟩, r2.mono p.base, ContS.after k p c⟩⟩
theorem wg_tup {tgs : List Expr} {k : Nat} {ds : List D} {Q : QS} {n : Nat} (hc : X.calm = true) (h : WGs T tgs ds ρ C Q) (hl : ds.length = n)
    (hn : (assignEach tgs X.env).length = n := by rfl) (hst : (assignEach tgs X.env).findIdx? (·.1) = none := by rfl) : WG T (.Tuple tgs k pos) (.tup ds) ρ C Q :=
  PG.imp (pg_tup hc h hn hst) fun v σ H R ⟨H0, at_, ⟨a, vs, e1, q1, r1⟩, k⟩ => ⟨a, vs, e1, Same.sqT at_.c.same q1, by rw [← r1.length]; exact hl, H0, at_, r1, k⟩
theorem ws_asg {tg : Expr} (h : WE T e ρ C fun d C1 => WG T tg d ρ C1 N.nx) (hs : swapsWithSole [tg] e pos.line X.env = pure false := by rfl) (hw : swappedStores [tg] e X.env = pure none := by rfl)
    (h1 : (assignEach [tg] X.env).map (·.2) = [assign tg X.env] := by rfl) : WS T (.Assign [tg] e pos) ρ C N :=
  PS.imp (ps_asg h (pg_some T tg) hs hw h1) fun Dn σ H ⟨H0, at_, k⟩ => ⟨H0, at_, fun v d C1 H1 H01 p c r q => ⟨d, ρ, C1, N.nx, q, H01, at_.step p c, r, (k.after p c).nx⟩⟩
theorem ws_set (i : Nat) {x : Str} {pos' : Pos} (hN : X.N.Nodup) (hi : X.N[i]? = some x) (hx : Loc X.env.scope x) (h : WE T e ρ C fun d C1 => N.nx (ρ.set i (some d)) C1) (hs : swapsWith e (some (.Name x pos')) pos.line X.env = pure false := by rfl)
    (hf : X.fn x = true ∨ X.env.scope.names.lookup x = some .local := by first | exact .inl rfl | exact .inr rfl | assumption) : WS T (.Assign [.Name x pos'] e pos) ρ C N :=
  PS.imp (ps_set hN hi hx h hs hf) fun Dn σ H ⟨H0, at_, k⟩ => ⟨H0, at_, fun v d C1 H1 H01 p c r q =>
    (k.after p c).nx _ _ C1 H1 H01 (Stp.refl _ _ _) c (SlotsR.set i (at_.step p c).s r at_.l) (by rw [List.length_set, List.length_set]; exact at_.l) q⟩

structure Yields (K : W.Frag) (J : It) (H0 : Hp) (P : Cells → Prop) (ds : List D) : Prop where
  go : ∀ (i : Nat) H0' C H, Same H0 H0' → CellsR K H0' C H → P C → i < ds.length → J.go i H
  stop : ∀ (i : Nat) H0' C H, Same H0 H0' → CellsR K H0' C H → P C → ds.length ≤ i → J.stop i H
  yld : ∀ (i : Nat) H0' C H x H' d, Same H0 H0' → CellsR K H0' C H → P C → ds[i]? = some d → J.yld i H x H' → ∃ H0'', Stp H0' C H H0'' C H' ∧ CellsR K H0'' C H' ∧ Rep K H0'' d x
abbrev QI := List D → (Cells → Prop) → Cells → Prop
def TIx (T : TX X) (ρ : Rho) (C : Cells) (Q : QI) : TI := fun σ H R => ∃ H0, At T H0 ρ C σ H ∧ ∀ J ds P C' H' H0', Stp H0 C H H0' C' H' → CellsR X.K H0' C' H' → Yields X.K J H0' P ds → Q ds P C' → R J H'
def WI (T : TX X) (tg iter : Expr) (ρ : Rho) (C : Cells) (Q : QI) : Prop := PI X tg iter (TIx T ρ C Q)
theorem PI.imp {tg e : Expr} {t t' : TI} (h : PI X tg e t) (i : ∀ σ H R, t' σ H R → t σ H R) : PI X tg e t' := ⟨fun pins s σ H R I q => h.run pins s σ H R I (i σ H R q)⟩
theorem yields_list {K : W.Frag} {H0 : Hp} {a : Addr} {vs : List V} {ds : List D} (hs : SqL K H0 a vs) (r : Reps K H0 ds vs) : Yields K (Itl K a) H0 (fun _ => True) ds where
  go := fun i H0' C H e c _ hi => ⟨vs, vs[i]'(by rw [← r.length]; exact hi), Same.sqL (e.trans c.same) hs, by simp⟩
  stop := fun i H0' C H e c _ hi => ⟨vs, Same.sqL (e.trans c.same) hs, by rw [← r.length]; exact hi⟩
  yld := fun i H0' C H x H' d e c _ hd ⟨e1, y⟩ => by
    subst e1
    refine ⟨H0', Stp.refl _ _ _, c, ?_⟩
    have := y vs (Same.sqL (e.trans c.same) hs)
    obtain ⟨v, h1, h2⟩ := r.get hd
    rw [this] at h1; cases h1
    exact h2.mono e
def ForW (T : TX X) (tg : Expr) (body : List Stmt) (P : Cells → Prop) (N : TEnds) : List D → Rho → Cells → Prop
  | [], ρ, C => P C ∧ N.nx ρ C
  | d :: r, ρ, C => P C ∧ WG T tg d ρ C fun ρ1 C1 => WSs T body ρ1 C1 { nx := ForW T tg body P N r, ct := ForW T tg body P N r, bk := N.nx, rt := N.rt }
theorem ForW.p {tg : Expr} {P : Cells → Prop} {ds : List D} (h : ForW T tg body P N ds ρ C) : P C := by
  cases ds with
  | nil => exact h.1
  | cons d r => exact h.1
theorem ws_for {tg iter : Expr} (hc : X.calm = true) (h : WI T tg iter ρ C fun ds P C1 => ForW T tg body P N ds ρ C1) (hs : ∀ x, foldedSetIterable iter X.env x = pure x := by intro _; rfl) : WS T (.For tg iter body [] pos) ρ C N := by
  refine PS.imp (ps_for T.pass hc h (pg_some T tg) (pss_some T body) hs) fun Dn σ H ⟨H0, at_, k⟩ => ⟨H0, at_, fun J ds P C1 H1 H01 p1 c1 y1 q1 => ?_⟩
  refine ⟨fun i m σ2 H2 => m = ds.length - i ∧ i ≤ ds.length ∧ ∃ ρ2 C2 H02, At T H02 ρ2 C2 σ2 H2 ∧ Stp H01 C1 H1 H02 C2 H2 ∧ ForW T tg body P N (ds.drop i) ρ2 C2, ⟨_, rfl, Nat.zero_le _, ρ, C1, H01, at_.step p1 c1, Stp.refl _ _ _, q1⟩, ?_⟩
  rintro i m σ2 H2 ⟨rfl, hi, ρ2, C2, H02, at2, p2, q2⟩
  have hP : P C2 := ForW.p q2
  by_cases hlt : i < ds.length
  · refine .inr ⟨y1.go i _ _ _ p2.base at2.c hP hlt, fun σ3 H3 => ∃ ρ3 C3 H03, At T H03 ρ3 C3 σ3 H3 ∧ Stp H01 C1 H1 H03 C3 H3 ∧ ForW T tg body P N (ds.drop (i + 1)) ρ3 C3, fun σ3 H3 ⟨ρ3, C3, H03, at3, p3, q3⟩ => ⟨_, by omega, rfl, hlt, ρ3, C3, H03, at3, p3, q3⟩, fun x H3 hy => ?_⟩
    obtain ⟨H03, p3, c3, r3⟩ := y1.yld i _ _ _ x H3 ds[i] p2.base at2.c hP (by simp [hlt]) hy
    rw [List.drop_eq_getElem_cons hlt] at q2
    have at3 := at2.step p3 c3
    refine ⟨ds[i], ρ2, C2, _, q2.2, H03, at3, r3, fun ρ4 σ4 C4 H4 H04 p4 c4 s4 l4 q4 => ⟨ρ4, C4, _, q4, H04, ⟨T.up at3.a at3.c p4 c4, c4, s4, l4⟩, ?_⟩⟩
    have at4 : At T H04 ρ4 C4 σ4 H4 := ⟨T.up at3.a at3.c p4 c4, c4, s4, l4⟩
    have p14 : Stp H01 C1 H1 H04 C4 H4 := (p2.trans at2.c p3).trans at3.c p4
    have again : ContS X H04 C4 H4 (ForW T tg body P N (ds.drop (i + 1))) fun σ3 H3 => ∃ ρ3 C3 H03, At T H03 ρ3 C3 σ3 H3 ∧ Stp H01 C1 H1 H03 C3 H3 ∧ ForW T tg body P N (ds.drop (i + 1)) ρ3 C3 :=
      fun ρ5 σ5 C5 H5 H05 p5 c5 s5 l5 q5 => ⟨ρ5, C5, H05, ⟨T.up at4.a at4.c p5 c5, c5, s5, l5⟩, p14.trans c4 p5, q5⟩
    have tail := (k.after p1 c1).after p14 c4
    exact ⟨again, tail.rt, tail.nx, again⟩
  · have e : i = ds.length := by omega
    subst e
    rw [List.drop_length] at q2
    exact .inl ⟨y1.stop _ _ _ _ p2.base at2.c hP (Nat.le_refl _), ContS.here ((k.after p1 c1).after p2 at2.c).nx at2 q2.2⟩

theorem ws_while {cond : Expr} (W : Nat → Rho → Cells → Prop) (m0 : Nat) (h0 : W m0 ρ C)
    (turn : ∀ m ρ C, W m ρ C → WT T cond ρ C fun k C1 => if k = true then WSs T body ρ C1 { nx := fun ρ' C' => ∃ m', m' < m ∧ W m' ρ' C', ct := fun ρ' C' => ∃ m', m' < m ∧ W m' ρ' C', bk := N.nx, rt := N.rt } else N.nx ρ C1) :
    WS T (.While cond body [] pos) ρ C N := by
  have hcond : PT X cond (fun σ H R => ∃ ρ C Q, WT T cond ρ C Q ∧ TTx T ρ C Q σ H R) := ⟨fun pins s σ H Q I ⟨ρ, C, q, h, t⟩ => h.run pins s σ H Q I t⟩
  refine PS.imp (ps_while T.pass hcond (pss_some T body)) fun Dn σ H ⟨H0, at_, k⟩ => ?_
  refine ⟨fun m σ2 H2 => ∃ ρ2 C2 H02, At T H02 ρ2 C2 σ2 H2 ∧ Stp H0 C H H02 C2 H2 ∧ W m ρ2 C2, ⟨m0, ρ, C, H0, at_, Stp.refl _ _ _, h0⟩, ?_⟩
  rintro m σ2 H2 ⟨ρ2, C2, H02, at2, p2, w2⟩
  refine ⟨ρ2, C2, _, turn m ρ2 C2 w2, H02, at2, fun b C3 H3 H03 p3 c3 q3 => ?_⟩
  have at3 := at2.step p3 c3
  have tail := (k.after p2 at2.c).after p3 c3
  cases b with
  | false => exact ContS.here tail.nx at3 q3
  | true =>
    refine ⟨fun σ4 H4 => ∃ m', m' < m ∧ ∃ ρ4 C4 H04, At T H04 ρ4 C4 σ4 H4 ∧ Stp H0 C H H04 C4 H4 ∧ W m' ρ4 C4, fun σ4 H4 ⟨m', hm, z⟩ => ⟨m', hm, z⟩, ρ2, C3, _, q3, H03, at3, ?_⟩
    have again : ContS X H03 C3 H3 (fun ρ' C' => ∃ m', m' < m ∧ W m' ρ' C') fun σ4 H4 => ∃ m', m' < m ∧ ∃ ρ4 C4 H04, At T H04 ρ4 C4 σ4 H4 ∧ Stp H0 C H H04 C4 H4 ∧ W m' ρ4 C4 :=
      fun ρ5 σ5 C5 H5 H05 p5 c5 s5 l5 ⟨m', hm, w5⟩ => ⟨m', hm, ρ5, C5, H05, ⟨T.up at3.a at3.c p5 c5, c5, s5, l5⟩, (p2.trans at2.c p3).trans at3.c p5, w5⟩
    exact ⟨again, tail.rt, tail.nx, again⟩
end
end Tr

set_option maxHeartbeats 2000000
namespace Tr
open PySem L2 PySem.Spec PyProof.Rows

abbrev QX := Value → XF → Cells → Prop
abbrev FS := List D → Cells → QE → QX → Prop
abbrev ContX (K : W.Frag) (H0 : Hp) (C : Cells) (H : Hp) (Qx : QX) (E : XK) : Prop := ∀ cls dd fs C' H' H0', Stp H0 C H H0' C' H' → CellsR K H0' C' H' → ExcR K H0' H' dd fs → Qx cls fs C' → E cls dd H'
abbrev ContK (K : W.Frag) (H0 : Hp) (C : Cells) (H : Hp) (Q : QE) (R : VK) : Prop := ∀ v d C' H' H0', Stp H0 C H H0' C' H' → CellsR K H0' C' H' → Rep K H0' d v → Q d C' → R v H'
def spT (K : W.Frag) (F : FS) : Sp := fun vs H R E => ∃ H0 ds C Q Qx, CellsR K H0 C H ∧ Reps K H0 ds vs ∧ F ds C Q Qx ∧ ContK K H0 C H Q R ∧ ContX K H0 C H Qx E
def rho0 (N : List Str) (ds : List D) : Rho := ds.map some ++ List.replicate (N.length - ds.length) none
theorem slots_start {K : W.Frag} {H0 : Hp} {N : List Str} {ds : List D} {vs : List V} (r : Reps K H0 ds vs) : SlotsR K H0 (rho0 N ds) (L2.start N vs) ∧ (rho0 N ds).length = (L2.start N vs).length := by
  have hl := r.length
  refine ⟨fun i d h => ?_, by simp [rho0, L2.start, hl]⟩
  unfold rho0 at h
  by_cases hi : i < ds.length
  · rw [List.getElem?_append_left (by simpa using hi), List.getElem?_map] at h
    cases e : ds[i]? with
    | none => rw [e] at h; cases h
    | some d' =>
      rw [e] at h; cases h
      obtain ⟨v, h1, h2⟩ := r.get e
      refine ⟨v, ?_, h2⟩
      unfold L2.start
      rw [List.getElem?_append_left (by simp [← hl, hi]), List.getElem?_map, h1]; rfl
  · rw [List.getElem?_append_right (by simpa using hi), List.getElem?_replicate] at h
    split at h <;> cases h

section
variable {P : Program} {w : World} {K : W.Frag} {mg : Str → Option Value} {base : Heap}
def bodyT {N : List Str} {qual : Str} {scope : Scope} {f : Addr} {cdv : Value} {A : Around} {outer : List Env} {s : Shared} {H : Hp} {E : XK} {H0 : Hp} {C : Cells} {Qx : QX} (hE : ContX K H0 C H Qx E) :
    TX (cxOf (CallX P w) P w K mg base N qual scope f cdv A outer s H E) where
  A := fun H0' C' H' => Stp H0 C H H0' C' H'
  up := fun a c p c' => a.trans c p
  XQ := fun cls fs _ C' => Qx cls fs C'
  tk := (tkX_of (X := cxOf (CallX P w) P w K mg base N qual scope f cdv A outer s H E) rfl rfl rfl rfl).imp fun cls d σ H' ⟨fs, ρ, C', H0', a, c, _, _, x, q⟩ => hE cls d fs C' H' H0' a c x q
  pass := passes_of rfl
  pas := fun A' A'' h => PassesOwnAt.leavingOf h
structure RoomG (k : Nat) (A : Around) : Prop where
  rm : Room k A
  gd : A.guards = some []
theorem RoomG.mono {j k : Nat} {A : Around} (r : RoomG k A) (h : j ≤ k) : RoomG j A := ⟨r.rm.mono h, r.gd⟩
theorem RoomG.deeper {k : Nat} {A : Around} (r : RoomG (k + 1) A) (env : Env) : RoomG k (A.deeper env) := ⟨r.rm.deeper env, r.gd⟩
theorem RoomG.make {k : Nat} {A : Around} (r : RoomG (k + 1) A) (C : Addr) (us : List Value) (kw : List (Str × Value)) : RoomG k (A.under (.builtin "type.__call__" ⟨.ref C :: us, kw⟩)) := by
  refine ⟨r.rm.make C us kw, ?_⟩
  show pushGuards (Code.guards (.builtin "type.__call__" ⟨.ref C :: us, kw⟩)) A.guards = some []
  have e : Code.guards (.builtin "type.__call__" ⟨.ref C :: us, kw⟩) = [] := by
    have n : guardIds.contains "type.__call__" = false := by decide
    unfold Code.guards Code.isGuard
    simp only [n, Bool.false_eq_true, if_false]
  rw [e]; exact r.gd
structure FnG (P : Program) (w : World) (K : W.Frag) (mg : Str → Option Value) (base : Heap) (k : Nat) (f : Addr) (fd : FuncData) (ps : List Str) (F : FS) : Prop where
  len : ∀ ds C Q Qx, F ds C Q Qx → ds.length = ps.length
  run : ∀ (A : Around) (outer : List Env) (s : Shared) (H : Hp) (args : Args) (us : List Value) (vs : List V) (R : VK) (E : XK), RoomG k A → Env0 P w K mg base A outer s H → BindsTo s fd args (ps.zip us) → Vals vs us → spT K F vs H R E →
    codeAny (model P w) A (.call (.ref f) args) (CR (CallX P w) outer P w H s R E) s
theorem FnG.mono {P : Program} {w : World} {K : W.Frag} {mg : Str → Option Value} {base : Heap} {j k : Nat} {f : Addr} {fd : FuncData} {ps : List Str} {F : FS} (h : FnG P w K mg base j f fd ps F) (e : j ≤ k) : FnG P w K mg base k f fd ps F :=
  ⟨h.len, fun A outer s H args us vs R E hr => h.run A outer s H args us vs R E (hr.mono e)⟩
theorem FnG.imp {P : Program} {w : World} {K : W.Frag} {mg : Str → Option Value} {base : Heap} {k : Nat} {f : Addr} {fd : FuncData} {ps : List Str} {F F' : FS} (h : FnG P w K mg base k f fd ps F) (i : ∀ ds C Q Qx, F' ds C Q Qx → F ds C Q Qx) : FnG P w K mg base k f fd ps F' :=
  ⟨fun ds C Q Qx z => h.len _ _ _ _ (i _ _ _ _ z), fun A outer s H args us vs R E hr e0 hb rv ⟨H0, ds, C, Q, Qx, c, r, z, k1, k2⟩ => h.run A outer s H args us vs R E hr e0 hb rv ⟨H0, ds, C, Q, Qx, c, r, i _ _ _ _ z, k1, k2⟩⟩
theorem fnT {x qual : Str} {params : Arguments} {body : List Stmt} {scope : Scope} {dvs : List V} {kws : List (Str × V)} {f : Addr} {fd : FuncData} {N ps : List Str} {k : Nat} {F : FS}
    (Fd : FunD K x qual params body scope dvs kws f fd) (S : FnScope N ps scope) (len : ∀ ds C Q Qx, F ds C Q Qx → ds.length = ps.length)
    (hbody : ∀ (cdv : Value) (A : Around) (outer : List Env) (s : Shared) (H : Hp) (E : XK) (T : TX (cxOf (CallX P w) P w K mg base N qual scope f cdv A outer s H E)) (ds : List D) (C : Cells) (Q : QE),
      RoomG k (cxOf (CallX P w) P w K mg base N qual scope f cdv A outer s H E).A → F ds C Q (fun cls fs C' => ∀ ρ, T.XQ cls fs ρ C') → WSs T body (rho0 N ds) C { nx := fun _ C' => Q .non C', rt := Q }) :
    FnG P w K mg base (k + 1) f fd ps F := by
  obtain ⟨oc, od, dV, kV, doc, pm, an, cdv, ct, osl, efd, lk, hcd, _, _⟩ := Fd.ex
  subst efd
  refine ⟨len, fun A outer s H args us vs R E hr e0 hb rv ⟨H0, ds, C, Q, Qx, c, r, h, kR, kE⟩ => ?_⟩
  have nvs : vs.length = ps.length := r.length.symm.trans (len _ _ _ _ h)
  have keepB := fun (b : Addr) (o : Obj) (e : base.get? b = some o) => (e0.bs b o e).1
  have inHeap := e0.mod.kin.keeps keepB
  have quiet := e0.mod.nolimit.keeps keepB
  have cellsOk : ∀ y ∈ ps.zip us, scope.names.lookup y.1 = some .local ∨ (scope.names.lookup y.1 = some .cell ∧ ((cellsFrom (s.heap.objs.size + 1) scope.names []).lookup y.1).isSome = true) := by
    rintro ⟨n, v⟩ hy
    exact (S.par n (List.of_mem_zip hy).1).imp id fun q => ⟨q, W.cellsFrom_some _ _ _ (.inl q)⟩
  refine codeAny_call_function hr.rm.depth (inHeap _ _ lk) rfl S.co S.gen rfl (W.codeRec_of inHeap hcd) (hb _ _ _ _ (wpAny_newFunctionEnv_cells S.kind cellsOk ?_))
  intro env he s1 entered
  subst he
  refine ⟨quiet.keeps entered.toInCall.keep, codeAny_func ?_⟩
  have I := inv_start (CX := CallX P w) (N := N) (E := E) (H := H) S hr.rm.hd e0 nvs rv entered
  obtain ⟨sl, ln⟩ := slots_start (N := N) r
  have hb2 := hbody cdv A outer s H E (bodyT kE) ds C Q (hr.deeper _) (by
    have same : (fun cls fs C' => ∀ ρ : Rho, (bodyT (P := P) (w := w) (K := K) (mg := mg) (base := base) (N := N) (qual := qual) (scope := scope) (f := f) (cdv := cdv) (A := A) (outer := outer) (s := s) kE).XQ cls fs ρ C') = Qx := by
      funext cls fs C'
      exact propext ⟨fun z => z [], fun z _ => z⟩
    rw [same]; exact h)
  have went := hb2.run [] s1 _ H { nx := fun _ H' => R .non H', rt := R } I ⟨H0, ⟨Stp.refl _ _ _, c, sl, ln⟩, ⟨fun _ _ C' H' H0' p c' _ _ q => kR .non .non C' H' H0' p c' rfl q, kR, fun _ _ _ _ _ _ _ _ _ q => False.elim q, fun _ _ _ _ _ _ _ _ _ q => False.elim q⟩⟩
  refine wpAny_mono went ?_ fun _ _ z => z
  rintro (_ | _ | _ | u) s' hs
  · obtain ⟨_, H', J, q⟩ := hs
    exact ⟨.non, H', J.os, J.bare, J.base, J.hok, rfl, q⟩
  · exact False.elim (let ⟨_, _, _, q⟩ := hs; q)
  · exact False.elim (let ⟨_, _, _, q⟩ := hs; q)
  · obtain ⟨v, _, H', J, rv', q⟩ := hs
    exact ⟨v, H', J.os, J.bare, J.base, J.hok, rv', q⟩
end

theorem CellsR.part {K : W.Frag} {H0 H : Hp} {C μ r : Cells} (c : CellsR K H0 C H) (p : C.Perm (μ ++ r)) : CellsR K H0 μ H :=
  ⟨c.same, fun a ⟨x, hx⟩ => c.free a ⟨x, p.mem_iff.mpr (List.mem_append_left _ hx)⟩, fun a x hx => c.ok a x (p.mem_iff.mpr (List.mem_append_left _ hx)),
    (List.nodup_append.mp (by have := (p.map (·.1)).nodup_iff.mp c.nd; rwa [List.map_append] at this)).1⟩
theorem CellsR.back {K : W.Frag} {H0 H H0' H' : Hp} {C μ r μ' : Cells} (c : CellsR K H0 C H) (p : C.Perm (μ ++ r)) (st : Stp H0 μ H H0' μ' H') (c' : CellsR K H0' μ' H') :
    Stp H0 C H H0' (μ' ++ r) H' ∧ CellsR K H0' (μ' ++ r) H' := by
  have nd := (p.map (·.1)).nodup_iff.mp c.nd
  rw [List.map_append, List.nodup_append] at nd
  have off : ∀ a, Dom r a → ¬ Dom μ a := fun a ⟨x, hx⟩ ⟨y, hy⟩ => nd.2.2 a (List.mem_map.mpr ⟨_, hy, rfl⟩) a (List.mem_map.mpr ⟨_, hx, rfl⟩) rfl
  have inC : ∀ a, Dom r a → Dom C a := fun a ⟨x, hx⟩ => ⟨x, p.mem_iff.mpr (List.mem_append_right _ hx)⟩
  have rest : ∀ a, Dom r a → H0' a = none ∧ ¬ Dom μ' a ∧ H' a = H a := fun a d => by
    obtain ⟨x, hx⟩ := id d
    have ne := (c.ok a x (p.mem_iff.mpr (List.mem_append_right _ hx))).some
    obtain ⟨q1, q2⟩ := st.own a ne (c.free a (inC a d)) (off a d)
    obtain ⟨o, ho⟩ := Option.ne_none_iff_exists'.mp ne
    exact ⟨q1, q2, by rw [ho]; exact st.fr a o ho (off a d)⟩
  have domC : ∀ a, Dom C a ↔ Dom μ a ∨ Dom r a := fun a => by
    constructor
    · rintro ⟨x, hx⟩
      rcases List.mem_append.mp (p.mem_iff.mp hx) with h | h
      · exact .inl ⟨x, h⟩
      · exact .inr ⟨x, h⟩
    · rintro (⟨x, hx⟩ | h)
      · exact ⟨x, p.mem_iff.mpr (List.mem_append_left _ hx)⟩
      · exact inC a h
  refine ⟨⟨st.base, fun a o h n => st.fr a o h fun d => n ((domC a).mpr (.inl d)), fun a h e n => ?_⟩, ⟨c'.same, fun a d => ?_, fun a x hx => ?_, ?_⟩⟩
  · obtain ⟨q1, q2⟩ := st.own a h e fun d => n ((domC a).mpr (.inl d))
    refine ⟨q1, fun ⟨x, hx⟩ => ?_⟩
    rcases List.mem_append.mp hx with hx | hx
    · exact q2 ⟨x, hx⟩
    · exact n ((domC a).mpr (.inr ⟨x, hx⟩))
  · obtain ⟨x, hx⟩ := d
    rcases List.mem_append.mp hx with hx | hx
    · exact c'.free a ⟨x, hx⟩
    · exact (rest a ⟨x, hx⟩).1
  · rcases List.mem_append.mp hx with hx | hx
    · exact c'.ok a x hx
    · exact (c.ok a x (p.mem_iff.mpr (List.mem_append_right _ hx))).mono st.base (rest a ⟨x, hx⟩).2.2
  · rw [List.map_append, List.nodup_append]
    refine ⟨c'.nd, nd.2.1, fun a ha b hb e => ?_⟩
    subst e
    obtain ⟨⟨a1, x⟩, h1, h2⟩ := List.mem_map.mp ha
    obtain ⟨⟨a2, y⟩, h3, h4⟩ := List.mem_map.mp hb
    simp only at h2 h4
    subst h2; subst h4
    exact (rest _ ⟨y, h3⟩).2.1 ⟨x, h1⟩

section
variable {X : Cx} {T : TX X} {ρ : Rho} {C : Cells} {Q : QE} {e a b o : Expr} {pos p apos : Pos} {es : List Expr} {k : Nat} {f Cl : Addr} {fd : FuncData} {ps : List Str} {F : FS} {dvs : List V} {dds : List D} {dus : List Value} {x m : Str}
def Asks (T : TX X) (F : FS) (ρ : Rho) (ds : List D) (C : Cells) (Q : QE) : Prop :=
  ∃ μ r, C.Perm (μ ++ r) ∧ F ds μ (fun d μ' => Q d (μ' ++ r)) fun cls fs μ' => T.XQ cls fs ρ (μ' ++ r)
theorem asks_sp {H0 H : Hp} {ds : List D} {vs : List V} {R : VK} {σ : L2.St} (h : Asks T F ρ ds C Q) (at_ : At T H0 ρ C σ H) (r : Reps X.K H0 ds vs) (k : Cont X H0 C H Q R) :
    spT X.K F vs H R (L2.WE (fun cls d σ H => ∃ fs ρ C H0, T.A H0 C H ∧ CellsR X.K H0 C H ∧ SlotsR X.K H0 ρ σ ∧ ρ.length = σ.length ∧ ExcR X.K H0 H d fs ∧ T.XQ cls fs ρ C) σ) := by
  obtain ⟨μ, rr, pm, h⟩ := h
  refine ⟨H0, ds, μ, _, _, at_.c.part pm, r, h, fun v d C' H' H0' p c r' q => ?_, fun cls dd fs C' H' H0' p c x q => ?_⟩
  · obtain ⟨p2, c2⟩ := at_.c.back pm p c
    exact k v d _ H' H0' p2 c2 r' q
  · obtain ⟨p2, c2⟩ := at_.c.back pm p c
    have a2 := at_.step p2 c2
    exact ⟨fs, ρ, _, H0', a2.a, a2.c, a2.s, a2.l, x, q⟩
theorem run_T {pins : List (Addr × Obj)} {σ : L2.St} {H H0 : Hp} {s : Shared} {R : VK} {us : List Value} {vs : List V} {ds : List D} (Fk : FnG X.prog X.w X.K X.mg X.base k f fd ps F) (hr : RoomG k X.A) (hb : Binds X.K fd ps dus) (hd : Vals dvs dus) (hdd : ∀ H, Reps X.K H dds dvs)
    (I : Inv X pins σ H s) (rv : Vals vs us) (at_ : At T H0 ρ C σ H) (r : Reps X.K H0 ds vs) (h : Asks T F ρ (ds ++ dds) C Q) (k : Cont X H0 C H Q R) : wpAny (model X.prog X.w) X.A (call (.ref f) us) (EP X pins σ R) X.xe s := by
  have all := asks_sp h at_ (r.append (hdd H0)) k
  have nlen : (us ++ dus).length = ps.length := by
    obtain ⟨_, ds', _, _, _, _, r', h', _⟩ := id all
    rw [← (rv.append hd).length, ← r'.length]
    exact Fk.len _ _ _ _ h'
  have went := Fk.run X.A X.stack s H ⟨us, []⟩ (us ++ dus) (vs ++ dvs) R _ hr I.env0 (hb s us I.kIn nlen) (rv.append hd) all
  refine wpAny_call (codeAny_mono went ?_)
  rintro (e | (_ | _ | _ | u)) s' hq
  · exact passX T.tk σ pins H s e s' I hq
  · exact False.elim hq
  · exact False.elim hq
  · exact False.elim hq
  · exact I.after hq
theorem we_call (Fk : FnG X.prog X.w X.K X.mg X.base k f fd ps F) (hr : RoomG k X.A) (hg : Gl X x) (hm : X.mg x = some (.ref f)) (hk : W.keepIn X.K (.ref f) = true) (hb : Binds X.K fd ps dus) (hd : Vals dvs dus) (hdd : ∀ H, Reps X.K H dds dvs)
    (h : WA T (a :: es) ρ C fun ds C1 => Asks T F ρ (ds ++ dds) C1 Q) (hdb : (x == ("__debug__" : Str)) = false := by decide) (he : starEach (a :: es) X.env = (false, eval a X.env) :: starEach es X.env := by rfl) (hpl : (backTo pos (starEach es X.env)).any (·.1) = false := by rfl) :
    WE T (.Call (.Name x p) (a :: es) [] pos) ρ C Q := by
  refine ⟨fun pins s σ H R I ⟨H0, at_, k⟩ => wpAny_Call_Name_kw (ld_glob I hg hm (W.callWith_K (h₀ := X.base) I.ok.mod.kin hk ?_ he hpl) hdb)⟩
  refine thn (h.run pos pins s σ H (fun vs H1 => ∃ ds C1 H01, At T H01 ρ C1 σ H1 ∧ Cont X H01 C1 H1 Q R ∧ Reps X.K H01 ds vs ∧ Asks T F ρ (ds ++ dds) C1 Q) I ⟨H0, at_, fun vs ds C1 H1 H01 p1 c1 r1 q1 => ⟨ds, C1, H01, at_.step p1 c1, k.after p1 c1 fun _ _ z => z, r1, q1⟩⟩) ?_
  exact fun us s1 ⟨vs, H1, I1, rv, ds, C1, H01, at1, k1, r1, q1⟩ => ⟨I1.kIn, run_T Fk hr hb hd hdd I1 rv at1 r1 q1 k1⟩
def InsD (C : Cells) (d : D) (Cl : Addr) (ns : List Str) (ds : List D) : Prop := d = .ins Cl ns ds ∨ ∃ a, d = .raw (.ref a) ∧ (a, Cell.ins Cl ns ds) ∈ C
theorem ins_at {H0 H : Hp} {d : D} {v : V} {ns : List Str} {ds : List D} (c : CellsR X.K H0 C H) (r : Rep X.K H0 d v) (h : InsD C d Cl ns ds) : ∃ a dx vs, v = .ref a ∧ H a = some (.ins Cl dx (ns.zip vs)) ∧ ns.length = vs.length ∧ Reps X.K H0 ds vs := by
  rcases h with rfl | ⟨a, rfl, hm⟩
  · obtain ⟨a, dx, vs, h1, h2, h3, h4⟩ := r
    exact ⟨a, dx, vs, h1, c.same _ _ h2, h3, h4⟩
  · obtain ⟨dx, vs, h2, h3, h4⟩ := c.ok a _ hm
    exact ⟨a, dx, vs, r, h2, h3, h4⟩
theorem lookup_zip {K : W.Frag} {H0 : Hp} {f : Str} {d : D} : ∀ {ns : List Str} {ds : List D} {vs : List V}, Reps K H0 ds vs → ns.length = vs.length → (ns.zip ds).lookup f = some d → ∃ v, (ns.zip vs).lookup f = some v ∧ Rep K H0 d v
  | [], _, _, _, _, h => by simp at h
  | n :: ns, [], _, _, _, h => by simp at h
  | n :: ns, d0 :: ds, vs, ⟨v, r, h1, h2, h3⟩, hl, h => by
    subst h1
    rw [List.zip_cons_cons, List.lookup_cons] at h ⊢
    cases e : f == n with
    | true => rw [e] at h; cases h; exact ⟨v, rfl, h2⟩
    | false => rw [e] at h; exact lookup_zip h3 (by simpa using hl) h
theorem we_fld (hb : attributeBase e m X.env (eval e X.env) = eval e X.env) (h : WE T e ρ C fun d C1 => ∃ Cl ns ds d', InsD C1 d Cl ns ds ∧ Cls X.K Cl ∧ NoAttr X.K Cl m ∧ (ns.zip ds).lookup m = some d' ∧ Q d' C1) : WE T (.Attribute e m pos) ρ C Q :=
  PE.imp (pe_fld h hb) fun σ H R ⟨H0, at_, k⟩ => ⟨H0, at_, fun v d C1 H1 H01 p1 c1 r1 ⟨Cl, ns, ds, d', hi, hc, hn, hl, q⟩ => by
    obtain ⟨a, dx, vs, e1, e2, e3, e4⟩ := ins_at c1 r1 hi
    obtain ⟨v', g1, g2⟩ := lookup_zip e4 e3 hl
    exact ⟨a, Cl, dx, _, v', e1, e2, hc, hn, g1, k _ d' C1 H1 H01 p1 c1 g2 q⟩⟩
end
end Tr

set_option maxHeartbeats 2000000
namespace Tr
open PySem L2 PySem.Spec PyProof.Rows

section
variable {X : Cx} {T : TX X} {ρ : Rho} {C : Cells} {Q : QE} {e a b o : Expr} {pos p apos : Pos} {es : List Expr} {k : Nat} {f Cl : Addr} {fd : FuncData} {ps : List Str} {F : FS} {dvs : List V} {dds : List D} {dus : List Value} {x m : Str}
def AsksM (T : TX X) (F : FS) (Cl : Addr) (ρ : Rho) (ds : List D) (C : Cells) (Q : QE) : Prop :=
  ∃ μ r, C.Perm (μ ++ r) ∧ ∀ z, F (.raw (.ref z) :: ds) ((z, .ins Cl [] []) :: μ) (fun d μ' => d = .non ∧ Q (.raw (.ref z)) (μ' ++ r)) fun cls fs μ' => T.XQ cls fs ρ (μ' ++ r)
theorem stp_made {K : W.Frag} {H0 H : Hp} {C : Cells} {z dz Cl : Addr} (c : CellsR K H0 C H) (hz : H z = none) (hdz : H dz = none) (ne : dz ≠ z) :
    Stp H0 C H (upd H0 dz (.own z)) ((z, .ins Cl [] []) :: C) (upd (upd H dz (.own z)) z (.ins Cl dz [])) ∧ CellsR K (upd H0 dz (.own z)) ((z, .ins Cl [] []) :: C) (upd (upd H dz (.own z)) z (.ins Cl dz [])) := by
  obtain ⟨p1, c1⟩ := stp_new (o := .own z) c hdz
  have hz1 : (upd H dz (.own z)) z = none := by rw [upd_ne (Ne.symm ne)]; exact hz
  obtain ⟨p2, c2⟩ := stp_cell (o := .ins Cl dz []) (c := .ins Cl [] []) c1 hz1 ⟨dz, [], by rw [upd_same]; rfl, rfl, Reps.nil⟩
  exact ⟨p1.trans c1 p2, c2⟩
theorem asksM_sp {H0 H : Hp} {ds : List D} {vs : List V} {R : VK} {σ : L2.St} (h : AsksM T F Cl ρ ds C Q) (at_ : At T H0 ρ C σ H) (r : Reps X.K H0 ds vs) (k : Cont X H0 C H Q R) {z dz : Addr} (hz : H z = none) (hdz : H dz = none) (ne : dz ≠ z) :
    spT X.K F (.ref z :: vs) (upd (upd H dz (.own z)) z (.ins Cl dz [])) (fun v H2 => v = .non ∧ R (.ref z) H2) (L2.WE (fun cls d σ H => ∃ fs ρ C H0, T.A H0 C H ∧ CellsR X.K H0 C H ∧ SlotsR X.K H0 ρ σ ∧ ρ.length = σ.length ∧ ExcR X.K H0 H d fs ∧ T.XQ cls fs ρ C) σ) := by
  obtain ⟨μ, rr, pm, h⟩ := h
  obtain ⟨p1, c1⟩ := stp_made (Cl := Cl) at_.c hz hdz ne
  have at1 := at_.step p1 c1
  have pm1 : ((z, Cell.ins Cl [] []) :: C).Perm (((z, Cell.ins Cl [] []) :: μ) ++ rr) := by rw [List.cons_append]; exact pm.cons _
  refine ⟨upd H0 dz (.own z), .raw (.ref z) :: ds, (z, .ins Cl [] []) :: μ, _, _, c1.part pm1, Reps.cons rfl (r.mono p1.base), h z, fun v d C' H' H0' p c r' ⟨q1, q2⟩ => ?_, fun cls dd fs C' H' H0' p c xr q => ?_⟩
  · subst q1
    obtain ⟨p2, c2⟩ := c1.back pm1 p c
    exact ⟨r', k (.ref z) (.raw (.ref z)) _ H' H0' (p1.trans c1 p2) c2 rfl q2⟩
  · obtain ⟨p2, c2⟩ := c1.back pm1 p c
    have a3 := at_.step (p1.trans c1 p2) c2
    exact ⟨fs, ρ, _, H0', a3.a, a3.c, a3.s, a3.l, xr, q⟩
theorem run_makeT {pins : List (Addr × Obj)} {σ : L2.St} {H H0 : Hp} {s : Shared} {R : VK} {us : List Value} {vs : List V} {ds : List D} (M : Mk X.K Cl f) (Fk : FnG X.prog X.w X.K X.mg X.base k f fd ps F) (hr : RoomG (k + 1) X.A) (hb : Binds X.K fd ps dus) (hd : Vals dvs dus) (hdd : ∀ H, Reps X.K H dds dvs)
    (I : Inv X pins σ H s) (rv : Vals vs us) (at_ : At T H0 ρ C σ H) (r : Reps X.K H0 ds vs) (h : AsksM T F Cl ρ (ds ++ dds) C Q) (k : Cont X H0 C H Q R) : wpAny (model X.prog X.w) X.A (call (.ref Cl) us) (EP X pins σ R) X.xe s := by
  have J := Inv.made (C := Cl) I
  have all := asksM_sp h at_ (r.append (hdd H0)) k (z := s.heap.objs.size + 1) (dz := s.heap.objs.size) (I.hok.fresh (Nat.le_succ _)) (I.hok.fresh (Nat.le_refl _)) (Nat.ne_of_lt (Nat.lt_succ_self _))
  have rall : Vals (V.ref (s.heap.objs.size + 1) :: (vs ++ dvs)) (Value.ref (s.heap.objs.size + 1) :: (us ++ dus)) := .cons rfl (rv.append hd)
  have nlen : ((Value.ref (s.heap.objs.size + 1) :: us) ++ dus).length = ps.length := by
    obtain ⟨_, ds', _, _, _, _, r', h', _⟩ := id all
    have e1 := Fk.len _ _ _ _ h'
    rw [r'.length, rall.length] at e1
    exact e1
  have went := Fk.run _ X.stack _ _ ⟨Value.ref (s.heap.objs.size + 1) :: us, []⟩ _ _ _ _ (hr.make Cl us []) (J.env0.make Cl us []) (hb _ (Value.ref (s.heap.objs.size + 1) :: us) J.kIn nlen) rall all
  refine wpAny_call (make_map (f := f) I.kIn M.makes M.init (beq_iff_eq.mp M.fn) (codeAny_mono went ?_))
  rintro (e | (_ | _ | _ | u)) s' hq
  · exact passX T.tk σ pins _ _ e s' J hq
  · exact False.elim hq
  · exact False.elim hq
  · exact False.elim hq
  · obtain ⟨v, H', I', rv', ev, q⟩ := J.after hq
    subst ev
    exact ⟨rv', .ref (s.heap.objs.size + 1), H', I', rfl, q⟩
theorem we_make (M : Mk X.K Cl f) (Fk : FnG X.prog X.w X.K X.mg X.base k f fd ps F) (hr : RoomG (k + 1) X.A) (hg : Gl X x) (hm : X.mg x = some (.ref Cl)) (hb : Binds X.K fd ps dus) (hd : Vals dvs dus) (hdd : ∀ H, Reps X.K H dds dvs)
    (h : WA T (a :: es) ρ C fun ds C1 => AsksM T F Cl ρ (ds ++ dds) C1 Q) (hdb : (x == ("__debug__" : Str)) = false := by decide) (he : starEach (a :: es) X.env = (false, eval a X.env) :: starEach es X.env := by rfl) (hpl : (backTo pos (starEach es X.env)).any (·.1) = false := by rfl) :
    WE T (.Call (.Name x p) (a :: es) [] pos) ρ C Q := by
  refine ⟨fun pins s σ H R I ⟨H0, at_, k⟩ => wpAny_Call_Name_kw (ld_glob I hg hm (W.callWith_K (h₀ := X.base) I.ok.mod.kin M.kp ?_ he hpl) hdb)⟩
  refine thn (h.run pos pins s σ H (fun vs H1 => ∃ ds C1 H01, At T H01 ρ C1 σ H1 ∧ Cont X H01 C1 H1 Q R ∧ Reps X.K H01 ds vs ∧ AsksM T F Cl ρ (ds ++ dds) C1 Q) I
    ⟨H0, at_, fun vs ds C1 H1 H01 p1 c1 r1 q1 => ⟨ds, C1, H01, at_.step p1 c1, k.after p1 c1 fun _ _ z => z, r1, q1⟩⟩) ?_
  exact fun us s1 ⟨vs, H1, I1, rv, ds, C1, H01, at1, k1, r1, q1⟩ => ⟨I1.kIn, run_makeT M Fk hr hb hd hdd I1 rv at1 r1 q1 k1⟩
def Cell.toD : Cell → D
  | .lst ds => .lst ds
  | .dK ks ds => .dic ks ds
  | .ins Cl ns ds => .ins Cl ns ds
theorem stp_freeze {K : W.Frag} {H0 H : Hp} {C : Cells} {i : Nat} {z : Addr} {c : Cell} (r : CellsR K H0 C H) (hi : C[i]? = some (z, c)) :
    ∃ o, H z = some o ∧ Stp H0 C H (upd H0 z o) (C.eraseIdx i) H ∧ CellsR K (upd H0 z o) (C.eraseIdx i) H ∧ Rep K (upd H0 z o) c.toD (.ref z) := by
  have hm : (z, c) ∈ C := List.mem_iff_getElem?.mpr ⟨i, hi⟩
  have ok := r.ok z c hm
  obtain ⟨o, ho⟩ := Option.ne_none_iff_exists'.mp ok.some
  have n0 := r.free z ⟨c, hm⟩
  have s0 : Same H0 (upd H0 z o) := fun a u h => by rw [upd_ne (ne_of_none h n0)]; exact h
  have er : ∀ a x, (a, x) ∈ C.eraseIdx i → (a, x) ∈ C ∧ a ≠ z := fun a x h => by
    have h' := List.mem_of_mem_eraseIdx h
    refine ⟨h', fun e => ?_⟩
    subst e
    obtain ⟨j, hj⟩ := List.mem_iff_getElem?.mp h
    rw [List.getElem?_eraseIdx] at hj
    have nd := r.nd
    have key : ∀ j', C[j']? = some (a, x) → j' = i := fun j' hj' => by
      have h1 : (C.map (·.1))[i]? = some a := by rw [List.getElem?_map, hi]; rfl
      have h2 : (C.map (·.1))[j']? = some a := by rw [List.getElem?_map, hj']; rfl
      obtain ⟨l1, e1⟩ := List.getElem?_eq_some_iff.mp h1
      obtain ⟨l2, e2⟩ := List.getElem?_eq_some_iff.mp h2
      exact ((List.getElem_inj nd).mp (e1.trans e2.symm)).symm
    split at hj
    · have := key _ hj; omega
    · have := key _ hj; omega
  refine ⟨o, ho, ⟨s0, fun a u h _ => h, fun a h e n => ⟨?_, fun ⟨x, hx⟩ => n ⟨x, (er a x hx).1⟩⟩⟩, ⟨fun a u h => ?_, fun a ⟨x, hx⟩ => ?_, fun a x hx => (r.ok a x (er a x hx).1).mono s0 rfl, ?_⟩, ?_⟩
  · rw [upd_ne (show a ≠ z from fun q => n ⟨c, by rw [q]; exact hm⟩)]; exact e
  · by_cases q : a = z
    · subst q; rw [upd_same] at h; cases h; exact ho
    · rw [upd_ne q] at h; exact r.same a u h
  · rw [upd_ne (er a x hx).2]; exact r.free a ⟨x, (er a x hx).1⟩
  · exact r.nd.sublist ((List.eraseIdx_sublist _ _).map _)
  · cases c with
    | lst ds =>
      obtain ⟨vs, q1, q2⟩ := ok
      rw [ho] at q1; cases q1
      exact ⟨z, vs, rfl, .inl (.inl upd_same), q2.mono s0⟩
    | dK ks ds =>
      obtain ⟨vs, q1, q3, q2⟩ := ok
      rw [ho] at q1; cases q1
      exact ⟨z, vs, rfl, .inl upd_same, q3, q2.mono s0⟩
    | ins Cl ns ds =>
      obtain ⟨dx, vs, q1, q3, q2⟩ := ok
      rw [ho] at q1; cases q1
      exact ⟨z, dx, vs, rfl, upd_same, q3, q2.mono s0⟩
theorem we_frz (h : WE T e ρ C fun d C1 => ∃ (i : Nat) (z : Addr) (c : Cell), d = .raw (.ref z) ∧ C1[i]? = some (z, c) ∧ Q c.toD (C1.eraseIdx i)) : WE T e ρ C Q :=
  PE.imp h fun σ H R ⟨H0, at_, k⟩ => ⟨H0, at_, fun v d C1 H1 H01 p1 c1 r1 ⟨i, z, c, e1, hi, q⟩ => by
    subst e1
    obtain rfl : v = .ref z := r1
    obtain ⟨o, ho, p2, c2, r2⟩ := stp_freeze c1 hi
    exact k _ _ _ H1 _ (p1.trans c1 p2) c2 r2 q⟩
def putN (f : Str) (d : D) : List Str → List D → List Str × List D
  | n :: ns, x :: ds => if n = f then (n :: ns, d :: ds) else (n :: (putN f d ns ds).1, x :: (putN f d ns ds).2)
  | _, _ => ([f], [d])
theorem reps_put {K : W.Frag} {H0 : Hp} {f : Str} {d : D} {v : V} (r : Rep K H0 d v) : ∀ {ns : List Str} {ds : List D} {vs : List V}, Reps K H0 ds vs → ns.length = vs.length →
    ∃ vs', putF f v (ns.zip vs) = (putN f d ns ds).1.zip vs' ∧ (putN f d ns ds).1.length = vs'.length ∧ Reps K H0 (putN f d ns ds).2 vs'
  | [], ds, vs, h, hl => by
    cases vs with
    | nil => cases ds with
      | nil => exact ⟨[v], rfl, rfl, Reps.cons r Reps.nil⟩
      | cons d0 ds => obtain ⟨_, _, q, _⟩ := h; cases q
    | cons v0 vs => cases hl
  | n :: ns, [], vs, h, hl => by cases h; cases hl
  | n :: ns, d0 :: ds, vs, ⟨v0, vr, h1, h2, h3⟩, hl => by
    subst h1
    rw [List.zip_cons_cons]
    unfold putN
    by_cases e : n = f
    · subst e
      rw [if_pos rfl]
      exact ⟨v :: vr, by unfold putF; rw [if_pos rfl]; rfl, by simpa using hl, Reps.cons r h3⟩
    · rw [if_neg e]
      obtain ⟨vs', q1, q2, q3⟩ := reps_put r h3 (by simpa using hl)
      exact ⟨v0 :: vs', by unfold putF; rw [if_neg e, q1]; rfl, by simp [q2], Reps.cons h2 q3⟩
end
end Tr

set_option maxHeartbeats 2000000
namespace Tr
open PySem L2 PySem.Spec PyProof.Rows

section
variable {X : Cx} {T : TX X} {ρ : Rho} {C : Cells} {Q : QE} {e a b o : Expr} {pos p apos cpos : Pos} {es : List Expr} {d d1 d2 : D} {ds ds2 : List D}

def LstD (C : Cells) (d : D) (ds : List D) : Prop := d = .lst ds ∨ ∃ a, d = .raw (.ref a) ∧ (a, Cell.lst ds) ∈ C
def SeqD (C : Cells) (d : D) (ds : List D) : Prop := LstD C d ds ∨ d = .tup ds
theorem LstD.l : LstD C (.lst ds) ds := .inl rfl
theorem LstD.c {i : Nat} {a : Addr} (h : C[i]? = some (a, .lst ds)) : LstD C (.raw (.ref a)) ds := .inr ⟨a, rfl, List.mem_iff_getElem?.mpr ⟨i, h⟩⟩
theorem SeqD.l : SeqD C (.lst ds) ds := .inl (.inl rfl)
theorem SeqD.t : SeqD C (.tup ds) ds := .inr rfl
theorem SeqD.c {i : Nat} {a : Addr} (h : C[i]? = some (a, .lst ds)) : SeqD C (.raw (.ref a)) ds := .inl (.c h)
theorem lst_at {K : W.Frag} {H0 H : Hp} {v : V} (c : CellsR K H0 C H) (r : Rep K H0 d v) (h : LstD C d ds) : ∃ a vs, v = .ref a ∧ SqL K H a vs ∧ Reps K H0 ds vs := by
  rcases h with rfl | ⟨a, rfl, hm⟩
  · obtain ⟨a, vs, h1, h2, h3⟩ := r
    exact ⟨a, vs, h1, Same.sqL c.same h2, h3⟩
  · obtain ⟨vs, h1, h2⟩ := c.ok a _ hm
    exact ⟨a, vs, r, .inl (.inl h1), h2⟩
theorem tup_at {K : W.Frag} {H0 H : Hp} {v : V} (c : CellsR K H0 C H) (r : Rep K H0 (.tup ds) v) : ∃ a vs, v = .ref a ∧ SqT K H a vs ∧ Reps K H0 ds vs := by
  obtain ⟨a, vs, h1, h2, h3⟩ := r
  exact ⟨a, vs, h1, Same.sqT c.same h2, h3⟩
theorem cw_len (h : SeqD C d ds) (q : Q (.int ds.length) C) : CW T (.builtin "len") [d] C Q :=
  cw_look (d := .int ds.length) call_len_seq (fun xs H H0 c r => by
    obtain ⟨v, e1, r1⟩ := r.one
    subst e1
    rcases h with h | h
    · obtain ⟨a, vs, e2, h2, h3⟩ := lst_at c r1 h
      subst e2
      exact ⟨.int ds.length, rfl, fun R k => ⟨a, vs, rfl, .inl h2, by rw [← h3.length]; exact k⟩⟩
    · subst h
      obtain ⟨a, vs, e2, h2, h3⟩ := tup_at c r1
      subst e2
      exact ⟨.int ds.length, rfl, fun R k => ⟨a, vs, rfl, .inr h2, by rw [← h3.length]; exact k⟩⟩) q
theorem cw_len_str {s : Str} (h : s.length ≤ 100000) (q : Q (.int s.length) C) : CW T (.builtin "len") [.str s] C Q :=
  cw_look (d := .int s.length) call_len_str (fun xs H H0 c r => by
    obtain ⟨v, e1, r1⟩ := r.one
    cases r1; subst e1
    exact ⟨.int s.length, rfl, fun R k => ⟨s, rfl, Nat.le_trans h (by decide), k⟩⟩) q
theorem cw_tuple (h : SeqD C d ds) (q : Q (.tup ds) C) : CW T (.type "tuple") [d] C Q :=
  CallR.imp call_tuple_of fun xs H R ⟨H0, c, r, k⟩ => by
    obtain ⟨v, e1, r1⟩ := r.one
    subst e1
    rcases h with h | h
    · obtain ⟨a, vs, e2, h2, h3⟩ := lst_at c r1 h
      subst e2
      refine ⟨a, vs, rfl, .inl ⟨h2, fun l hl => ?_⟩⟩
      obtain ⟨p2, c2⟩ := stp_new (o := .tup vs) c hl
      exact k _ (.tup ds) C _ _ p2 c2 ⟨l, vs, rfl, .inl (.inl upd_same), h3.mono p2.base⟩ q
    · subst h
      obtain ⟨a, vs, e2, h2, h3⟩ := tup_at c r1
      subst e2
      exact ⟨a, vs, rfl, .inr ⟨h2, k.here (d := .tup ds) c r1 q⟩⟩

def IW (T : TX X) (d1 d2 : D) (C : Cells) (Q : QE) : Prop := IxR X fun x y H R => ∃ H0, CellsR X.K H0 C H ∧ Rep X.K H0 d1 x ∧ Rep X.K H0 d2 y ∧ Cont X H0 C H Q R
theorem IxR.imp {r r' : R2} (h : IxR X r) (i : ∀ x y H R, r' x y H R → r x y H R) : IxR X r' := fun value slice pins s σ H x y v u Q I rx ry q hs => h value slice pins s σ H x y v u Q I rx ry (i _ _ _ _ q) hs
theorem ix_some (T : TX X) : IxR X (fun x y H R => ∃ d1 d2 C Q, IW T d1 d2 C Q ∧ ∃ H0, CellsR X.K H0 C H ∧ Rep X.K H0 d1 x ∧ Rep X.K H0 d2 y ∧ Cont X H0 C H Q R) :=
  fun value slice pins s σ H x y v u Q I rx ry ⟨d1, d2, C, q, h, k⟩ hs => h value slice pins s σ H x y v u Q I rx ry k hs
theorem we_ix (h : WE T a ρ C fun d1 C1 => WE T b ρ C1 fun d2 C2 => IW T d1 d2 C2 Q) (hs : PlainIx b) : WE T (.Subscript a b pos) ρ C Q := by
  refine PE.imp (pe_ix (ix_some T) h (pe_some T ρ b) hs) fun σ H R ⟨H0, at_, k⟩ => ⟨H0, at_, fun v1 d1 C1 H1 H01 p1 c1 r1 q1 => ?_⟩
  have at1 := at_.step p1 c1
  exact ⟨C1, _, q1, H01, at1, fun v2 d2 C2 H2 H02 p2 c2 r2 q2 => ⟨d1, d2, C2, Q, q2, H02, c2, r1.mono p2.base, r2, k.after (p1.trans c1 p2) c2 fun _ _ z => z⟩⟩
theorem atI_reps {K : W.Frag} {H0 : Hp} {vs : List V} {i : Int} (r : Reps K H0 ds vs) (h : atI ds i = some d) : ∃ v, atI vs i = some v ∧ Rep K H0 d v := by
  unfold atI at h ⊢
  rw [← r.length]
  cases e : ixN ds.length i with
  | none => rw [e] at h; cases h
  | some j => rw [e] at h; exact r.get h
theorem iw_lst {i : Int} (h : LstD C d1 ds) (hi : atI ds i = some d) (q : Q d C) : IW T d1 (.int i) C Q :=
  IxR.imp ix_list fun x y H R ⟨H0, c, r1, r2, k⟩ => by
    cases r2
    obtain ⟨a, vs, e2, h2, h3⟩ := lst_at c r1 h
    obtain ⟨v, g1, g2⟩ := atI_reps h3 hi
    exact ⟨a, vs, i, v, e2, rfl, h2, g1, k.here c g2 q⟩
theorem iw_tup {i : Int} (hi : atI ds i = some d) (q : Q d C) : IW T (.tup ds) (.int i) C Q :=
  IxR.imp ix_tup fun x y H R ⟨H0, c, r1, r2, k⟩ => by
    cases r2
    obtain ⟨a, vs, e2, h2, h3⟩ := tup_at c r1
    obtain ⟨v, g1, g2⟩ := atI_reps h3 hi
    exact ⟨a, vs, i, v, e2, rfl, h2, g1, k.here c g2 q⟩
theorem iw_str {s : Str} {i : Int} {c : Nat} (hl : s.length ≤ 100000) (hi : atI s.cps.toList i = some c) (q : Q (.str ⟨#[c]⟩) C) : IW T (.str s) (.int i) C Q :=
  IxR.imp ix_str fun x y H R ⟨H0, c, r1, r2, k⟩ => by
    cases r1; cases r2
    exact ⟨s, i, _, rfl, rfl, Nat.le_trans hl (by decide), hi, k.here (d := .str ⟨#[_]⟩) c rfl q⟩

def cutD (ds : List D) (lo hi : Option Int) : List D := (ds.drop (HT.sIx ds.length 0 lo)).take (HT.sIx ds.length ds.length hi - HT.sIx ds.length 0 lo)
theorem reps_cut {K : W.Frag} {H0 : Hp} {vs : List V} (r : Reps K H0 ds vs) (lo hi : Option Int) : Reps K H0 (cutD ds lo hi) (cutV vs lo hi) := by
  unfold cutD cutV
  rw [← r.length]
  exact (r.drop _).take _
def TOx (T : TX X) (ρ : Rho) (C : Cells) (Q : Option Int → Cells → Prop) : TO := fun σ H R => ∃ H0, At T H0 ρ C σ H ∧ ∀ i C' H' H0', Stp H0 C H H0' C' H' → CellsR X.K H0' C' H' → Q i C' → R i H'
def WO (T : TX X) (e : Option Expr) (ρ : Rho) (C : Cells) (Q : Option Int → Cells → Prop) : Prop := PO X e (TOx T ρ C Q)
theorem PO.imp {e : Option Expr} {t t' : TO} (h : PO X e t) (i : ∀ σ H R, t' σ H R → t σ H R) : PO X e t' := ⟨fun pins s σ H Q I q => h.run pins s σ H Q I (i σ H Q q)⟩
theorem po_any (T : TX X) (ρ : Rho) (e : Option Expr) : PO X e (fun σ H R => ∃ C Q, WO T e ρ C Q ∧ TOx T ρ C Q σ H R) := ⟨fun pins s σ H Q I ⟨C, q, h, t⟩ => h.run pins s σ H Q I t⟩
theorem wo_none {Q : Option Int → Cells → Prop} (q : Q none C) : WO T none ρ C Q := PO.imp po_none fun σ H R ⟨H0, at_, k⟩ => k none C H H0 (Stp.refl _ _ _) at_.c q
theorem wo_some {Q : Option Int → Cells → Prop} (h : WE T e ρ C fun d C1 => ∃ i, d = .int i ∧ Q (some i) C1) : WO T (some e) ρ C Q :=
  PO.imp (po_some h) fun σ H R ⟨H0, at_, k⟩ => ⟨H0, at_, fun v d C1 H1 H01 p1 c1 r1 ⟨i, e1, q⟩ => by subst e1; exact ⟨i, r1, k _ C1 H1 H01 p1 c1 q⟩⟩
def SW (T : TX X) (d : D) (lo hi : Option Int) (C : Cells) (Q : QE) : Prop := SlR X fun x l u H R => l = lo ∧ u = hi ∧ ∃ H0, CellsR X.K H0 C H ∧ Rep X.K H0 d x ∧ Cont X H0 C H Q R
theorem SlR.imp {r r' : V → Option Int → Option Int → Hp → VK → Prop} (h : SlR X r) (i : ∀ x l u H R, r' x l u H R → r x l u H R) : SlR X r' := fun pins s σ H x v vl vu lo hi sl Q I rx hs pl pu q => h pins s σ H x v vl vu lo hi sl Q I rx hs pl pu (i _ _ _ _ _ q)
theorem sl_some (T : TX X) : SlR X (fun x l u H R => ∃ d C Q, SW T d l u C Q ∧ ∃ H0, CellsR X.K H0 C H ∧ Rep X.K H0 d x ∧ Cont X H0 C H Q R) :=
  fun pins s σ H x v vl vu lo hi sl Q I rx hs pl pu ⟨d, C, q, h, k⟩ => h pins s σ H x v vl vu lo hi sl Q I rx hs pl pu ⟨rfl, rfl, k⟩
theorem we_slice {lo hi : Option Expr} {p2 : Pos} (h : WE T e ρ C fun d C1 => WO T lo ρ C1 fun l C2 => WO T hi ρ C2 fun u C3 => SW T d l u C3 Q) : WE T (.Subscript e (.Slice lo hi none p2) pos) ρ C Q := by
  refine PE.imp (pe_slice (sl_some T) h (po_any T ρ lo) (po_any T ρ hi)) fun σ H R ⟨H0, at_, k⟩ => ⟨H0, at_, fun v d C1 H1 H01 p1 c1 r1 q1 => ?_⟩
  have at1 := at_.step p1 c1
  exact ⟨C1, _, q1, H01, at1, fun l C2 H2 H02 p2 c2 q2 => ⟨C2, _, q2, H02, at1.step p2 c2, fun u C3 H3 H03 p3 c3 q3 => ⟨d, C3, Q, q3, H03, c3, (r1.mono p2.base).mono p3.base, k.after ((p1.trans c1 p2).trans c2 p3) c3 fun _ _ z => z⟩⟩⟩
theorem sw_lst {lo hi : Option Int} (h : LstD C d ds) (q : Q (.lst (cutD ds lo hi)) C) : SW T d lo hi C Q :=
  SlR.imp sl_list fun x l u H R ⟨e1, e2, H0, c, r1, k⟩ => by
    subst e1; subst e2
    obtain ⟨a, vs, e2, h2, h3⟩ := lst_at c r1 h
    refine ⟨a, vs, e2, h2, fun z hz => ?_⟩
    obtain ⟨p2, c2⟩ := stp_new (o := .lst (cutV vs l u)) c hz
    exact k _ (.lst (cutD ds l u)) C _ _ p2 c2 ⟨z, _, rfl, .inl (.inl upd_same), (reps_cut h3 l u).mono p2.base⟩ q
end
end Tr

set_option maxHeartbeats 2000000
namespace Tr
open PySem L2 PySem.Spec PyProof.Rows

section
variable {X : Cx} {T : TX X} {ρ : Rho} {C : Cells} {Q : QE} {e a b o : Expr} {pos p apos cpos : Pos} {es : List Expr} {d d1 d2 : D} {ds ds2 : List D}

theorem yields_tup {K : W.Frag} {H0 : Hp} {a : Addr} {vs : List V} (hs : SqT K H0 a vs) (r : Reps K H0 ds vs) : Yields K (Itt K a) H0 (fun _ => True) ds where
  go := fun i H0' C H e c _ hi => ⟨vs, vs[i]'(by rw [← r.length]; exact hi), Same.sqT (e.trans c.same) hs, by simp⟩
  stop := fun i H0' C H e c _ hi => ⟨vs, Same.sqT (e.trans c.same) hs, by rw [← r.length]; exact hi⟩
  yld := fun i H0' C H x H' d e c _ hd ⟨e1, y⟩ => by
    subst e1
    refine ⟨H0', Stp.refl _ _ _, c, ?_⟩
    have := y vs (Same.sqT (e.trans c.same) hs)
    obtain ⟨v, h1, h2⟩ := r.get hd
    rw [this] at h1; cases h1
    exact h2.mono e
theorem yields_cell {K : W.Frag} {H0 : Hp} {a : Addr} : Yields K (Itl K a) H0 (fun C => (a, Cell.lst ds) ∈ C) ds where
  go := fun i H0' C H e c hm hi => by
    obtain ⟨vs, h1, h2⟩ := c.ok a _ hm
    exact ⟨vs, vs[i]'(by rw [← h2.length]; exact hi), .inl (.inl h1), by simp⟩
  stop := fun i H0' C H e c hm hi => by
    obtain ⟨vs, h1, h2⟩ := c.ok a _ hm
    exact ⟨vs, .inl (.inl h1), by rw [← h2.length]; exact hi⟩
  yld := fun i H0' C H x H' d e c hm hd ⟨e1, y⟩ => by
    subst e1
    obtain ⟨vs, h1, h2⟩ := c.ok a _ hm
    have := y vs (.inl (.inl h1))
    obtain ⟨v, g1, g2⟩ := h2.get hd
    rw [this] at g1; cases g1
    exact ⟨H0', Stp.refl _ _ _, c, g2⟩
def rangeD (lo : Int) (n : Nat) : List D := (List.range n).map fun i => .int (lo + (i : Nat))
theorem rangeD_len (lo : Int) (n : Nat) : (rangeD lo n).length = n := by simp [rangeD]
theorem yields_range {K : W.Frag} {H0 : Hp} (lo : Int) (n : Nat) : Yields K (Itr lo n) H0 (fun _ => True) (rangeD lo n) where
  go := fun i H0' C H e c _ hi => by rw [rangeD_len] at hi; exact hi
  stop := fun i H0' C H e c _ hi => by rw [rangeD_len] at hi; exact hi
  yld := fun i H0' C H x H' d e c _ hd ⟨e1, e2⟩ => by
    subst e1; subst e2
    refine ⟨H0', Stp.refl _ _ _, c, ?_⟩
    unfold rangeD at hd
    rw [List.getElem?_map] at hd
    cases q : (List.range n)[i]? with
    | none => rw [q] at hd; cases hd
    | some j =>
      rw [q] at hd; cases hd
      obtain ⟨h1, h2⟩ := List.getElem?_eq_some_iff.mp q
      rw [List.getElem_range] at h2
      subst h2
      rfl
theorem wi_range1 {tg : Expr} {Q : QI} (hg : Gl X "range") (hm : X.mg "range" = none) (h : WE T a ρ C fun d C1 => ∃ j : Int, d = .int j ∧ -(2 ^ 62) ≤ j ∧ j < 2 ^ 62 ∧ Q (rangeD 0 j.toNat) (fun _ => True) C1)
    (hs : starEach [a] X.env = [(false, eval a X.env)] := by rfl) (hs2 : starEach [a] X.env = (false, eval a X.env) :: starEach [] X.env := by rfl) : WI T tg (.Call (.Name "range" p) [a] [] pos) ρ C Q := by
  refine PI.imp (pi_range1 hg hm (pa_cons h pa_nil hs2) hs) fun σ H R ⟨H0, at_, k⟩ => ⟨H0, at_, fun v d C1 H1 H01 p1 c1 r1 ⟨j, e1, l1, l2, q⟩ => ?_⟩
  subst e1; cases r1
  exact ⟨j, rfl, l1, l2, k _ _ _ C1 H1 H01 p1 c1 (yields_range 0 _) q⟩
def signsD (s : Str) : List D := s.cps.toList.map fun c => .str ⟨#[c]⟩
def TX.blk (T : TX X) (s : Shared) (H : Hp) (scope : Scope) (cenv : Env) (fp : List Addr) : TX (X.blk s H scope cenv fp) where
  A := T.A
  up := T.up
  XQ := fun _ _ _ _ => False
  tk := fun u s' ⟨_, _, _, _, _, _, _, _, _, _, _, _, _, _, _, _, w⟩ => let ⟨_, _, _, _, _, _, _, _, _, q⟩ := w; False.elim q
  pass := PassesOwn.never
  pas := fun _ _ _ => PassesOwnAt.never
theorem At.blk {T : TX X} {s : Shared} {H' : Hp} {scope : Scope} {cenv : Env} {fp : List Addr} {H0 : Hp} {σ : L2.St} {H : Hp} (h : At T H0 ρ C σ H) : At (T.blk s H' scope cenv fp) H0 ρ C σ H := ⟨h.a, h.c, h.s, h.l⟩
abbrev InBlk (T : TX X) (scope : Scope) (P : ∀ {Y : Cx}, TX Y → Prop) : Prop := ∀ (s : Shared) (H : Hp) (Ca : Addr) (cl : List (Str × Addr)) (fp : List Addr), P (T.blk s H scope (compEnvC scope cl Ca X.env) fp)
def wipeR (ρ : Rho) : List Nat → Rho
  | [] => ρ
  | v :: vs => (wipeR ρ vs).set v none
theorem wipeR_len (ρ : Rho) : ∀ vs : List Nat, (wipeR ρ vs).length = ρ.length
  | [] => rfl
  | v :: vs => by unfold wipeR; rw [List.length_set, wipeR_len ρ vs]
theorem slots_wipe {K : W.Frag} {H0 : Hp} {σ : L2.St} (h : SlotsR K H0 ρ σ) : ∀ vs : List Nat, SlotsR K H0 (wipeR ρ vs) (wipe σ vs)
  | [] => h
  | v :: vs => SlotsR.unset v (slots_wipe h vs)
theorem At.wipe {T : TX X} {H0 : Hp} {σ : L2.St} {H : Hp} (h : At T H0 ρ C σ H) (vs : List Nat) : At T H0 (wipeR ρ vs) C (L2.wipe σ vs) H := ⟨h.a, h.c, slots_wipe h.s vs, by rw [wipeR_len, wipe_length]; exact h.l⟩
inductive Bind where
  | one (i : Nat)
  | tup (is : List Nat)
def setAll {α : Type} (l : List (Option α)) : List Nat → List α → List (Option α)
  | i :: is, x :: xs => setAll (l.set i (some x)) is xs
  | _, _ => l
def Bind.to (b : Bind) (d : D) (ρ : Rho) : Option Rho := match b, d with
  | .one i, d => some (ρ.set i (some d))
  | .tup is, .tup ds => if is.length = ds.length then some (setAll ρ is ds) else none
  | _, _ => none
def gNames : List Nat → TGs
  | [] => gNil
  | i :: is => gCons (gName i) (gNames is)
def Bind.g (K : W.Frag) : Bind → TG
  | .one i => gName i
  | .tup is => gTup K is.length (gNames is)
def Bind.slots : Bind → List Nat
  | .one i => [i]
  | .tup is => is
theorem setAll_len {α : Type} : ∀ (is : List Nat) (xs : List α) (l : List (Option α)), (setAll l is xs).length = l.length
  | [], xs, l => by cases xs <;> rfl
  | i :: is, [], l => rfl
  | i :: is, x :: xs, l => by unfold setAll; rw [setAll_len is xs, List.length_set]
theorem slots_setAll {K : W.Frag} {H0 : Hp} : ∀ {is : List Nat} {ds : List D} {vs : List V} {ρ : Rho} {σ : L2.St}, Reps K H0 ds vs → SlotsR K H0 ρ σ → ρ.length = σ.length → SlotsR K H0 (setAll ρ is ds) (setAll σ is vs)
  | [], ds, vs, ρ, σ, r, h, l => by cases ds <;> cases vs <;> exact h
  | i :: is, [], vs, ρ, σ, r, h, l => by cases r; exact h
  | i :: is, d :: ds, vs, ρ, σ, ⟨v, rr, e1, r1, r2⟩, h, l => by
    subst e1
    have z : SlotsR K H0 (setAll (ρ.set i (some d)) is ds) (setAll (σ.set i (some v)) is rr) := slots_setAll r2 (SlotsR.set i h r1 l) (by simp [l])
    exact z
theorem gNames_to {R : L2.St → Hp → Prop} {H : Hp} : ∀ {is : List Nat} {vs : List V} {σ : L2.St}, is.length = vs.length → R (setAll σ is vs) H → gNames is vs σ H R
  | [], [], σ, _, h => ⟨rfl, h⟩
  | i :: is, v :: vs, σ, hl, h => ⟨v, vs, rfl, gNames_to (by simpa using hl) h⟩
theorem set_wipe {i : Nat} {x : V} : ∀ {vs : List Nat} {σ : L2.St}, i ∈ vs → wipe (σ.set i (some x)) vs = wipe σ vs
  | [], _, h => by cases h
  | v :: vs, σ, h => by
    show (wipe (σ.set i (some x)) vs).set v none = (wipe σ vs).set v none
    by_cases e : i ∈ vs
    · rw [set_wipe e]
    · have e' : i = v := (List.mem_cons.mp h).resolve_right e
      subst e'
      apply List.ext_getElem?
      intro j
      rw [List.getElem?_set, List.getElem?_set, wipe_length, wipe_length, List.length_set]
      by_cases q : i = j
      · subst q; simp
      · rw [if_neg q, if_neg q]
        by_cases hj : j ∈ vs
        · have z : ∀ τ : L2.St, (wipe τ vs)[j]? = if j < τ.length then some none else none := by
            intro τ
            induction vs with
            | nil => cases hj
            | cons w ws ih =>
              show ((wipe τ ws).set w none)[j]? = _
              rw [List.getElem?_set, wipe_length]
              by_cases q2 : w = j
              · subst q2; simp
              · rw [if_neg q2]
                rcases List.mem_cons.mp hj with q3 | q3
                · exact absurd q3.symm q2
                · exact ih (fun h1 => e (List.mem_cons_of_mem _ h1)) (by simp) q3
          rw [z, z, List.length_set]
        · rw [wipe_out hj, wipe_out hj, List.getElem?_set_ne q]
theorem wipe_wipe (σ : L2.St) : ∀ vs : List Nat, wipe (wipe σ vs) vs = wipe σ vs := by
  intro vs
  apply List.ext_getElem?
  intro j
  by_cases hj : j ∈ vs
  · have z : ∀ (τ : L2.St), (wipe τ vs)[j]? = if j < τ.length then some none else none := by
      intro τ
      induction vs with
      | nil => cases hj
      | cons w ws ih =>
        show ((wipe τ ws).set w none)[j]? = _
        rw [List.getElem?_set, wipe_length]
        by_cases q2 : w = j
        · subst q2; simp
        · rw [if_neg q2]
          rcases List.mem_cons.mp hj with q3 | q3
          · exact absurd q3.symm q2
          · exact ih q3
    rw [z, z, wipe_length]
  · rw [wipe_out hj]
theorem setAll_wipe : ∀ {is vs : List Nat} {xs : List V} {σ : L2.St}, (∀ i ∈ is, i ∈ vs) → wipe (setAll σ is xs) vs = wipe σ vs
  | [], vs, xs, σ, h => by cases xs <;> rfl
  | i :: is, vs, [], σ, h => rfl
  | i :: is, vs, x :: xs, σ, h => by
    unfold setAll
    rw [setAll_wipe (fun j hj => h j (List.mem_cons_of_mem _ hj)), set_wipe (h i List.mem_cons_self)]
theorem bind_to {bd : Bind} {d : D} {v : V} {ρ' : Rho} {H0 H : Hp} {σ : L2.St} {vs : List Nat} {R : L2.St → Hp → Prop} {K : W.Frag} (c : Same H0 H) (hb : bd.to d ρ = some ρ') (hv : ∀ i ∈ bd.slots, i ∈ vs) (r : Rep K H0 d v) (s : SlotsR K H0 ρ σ) (l : ρ.length = σ.length)
    (h : ∀ σ', SlotsR K H0 ρ' σ' → ρ'.length = σ'.length → wipe σ' vs = wipe σ vs → R σ' H) : bd.g K v σ H R := by
  cases bd with
  | one i =>
    cases hb
    exact h _ (SlotsR.set i s r l) (by simp [l]) (set_wipe (hv i (by simp [Bind.slots])))
  | tup is =>
    cases d with
    | tup ds =>
      simp only [Bind.to] at hb
      split at hb
      · rename_i hl
        cases hb
        obtain ⟨a, ws, h1, h2, h3⟩ := r
        refine ⟨a, ws, h1, Same.sqT c h2, by rw [← h3.length]; exact hl.symm, gNames_to (hl.trans h3.length) (h _ (slots_setAll h3 s l) (by rw [setAll_len, setAll_len]; exact l) (setAll_wipe hv))⟩
      · cases hb
    | _ => simp [Bind.to] at hb
def LcW (T : TX X) (scope : Scope) (bd : Bind) (elt : Expr) (vs : List Nat) (ρ : Rho) (P : Cells → Prop) (Q : QE) : List D → List D → Cells → Prop
  | [], acc, C => P C ∧ Q (.lst acc) C
  | d :: r, acc, C => P C ∧ ∃ ρ', bd.to d (wipeR ρ vs) = some ρ' ∧ InBlk T scope fun T' => WE T' elt ρ' C fun y C2 => acc.length < 100000 ∧ LcW T scope bd elt vs ρ P Q r (acc ++ [y]) C2
def LcW1 (T : TX X) (scope : Scope) (bd : Bind) (i elt : Expr) (vs : List Nat) (ρ : Rho) (P : Cells → Prop) (Q : QE) : List D → List D → Cells → Prop
  | [], acc, C => P C ∧ Q (.lst acc) C
  | d :: r, acc, C => P C ∧ ∃ ρ', bd.to d (wipeR ρ vs) = some ρ' ∧ InBlk T scope fun T' => WT T' i ρ' C fun k C1 =>
      if k = true then (InBlk T scope fun T' => WE T' elt ρ' C1 fun y C2 => acc.length < 100000 ∧ LcW1 T scope bd i elt vs ρ P Q r (acc ++ [y]) C2) else LcW1 T scope bd i elt vs ρ P Q r acc C1
structure Way (X : Cx) (H01 : Hp) (C1 : Cells) (H1 : Hp) (L : Addr) (acc : List D) (H0 : Hp) (C : Cells) (H : Hp) : Prop where
  st : Stp H01 C1 H1 H0 C H
  c : CellsR X.K H0 C H
  at_ : ∃ vs, H L = some (.lst vs) ∧ Reps X.K H0 acc vs
  n0 : H0 L = none
  nd : ¬ Dom C L
theorem Way.step {H01 H1 H0 H H0' H' : Hp} {C1 C' : Cells} {L : Addr} {acc : List D} (w : Way X H01 C1 H1 L acc H0 C H) (p : Stp H0 C H H0' C' H') (c' : CellsR X.K H0' C' H') : Way X H01 C1 H1 L acc H0' C' H' := by
  obtain ⟨vs, h1, h2⟩ := w.at_
  obtain ⟨q1, q2⟩ := p.own L (by rw [h1]; simp) w.n0 w.nd
  exact ⟨w.st.trans w.c p, c', ⟨vs, p.fr L _ h1 w.nd, h2.mono p.base⟩, q1, q2⟩
theorem Way.add {H01 H1 H0 H : Hp} {C1 : Cells} {L : Addr} {acc : List D} {d : D} {v : V} (w : Way X H01 C1 H1 L acc H0 C H) (hL : H1 L = none) (r : Rep X.K H0 d v) : ∃ vs, H L = some (.lst vs) ∧ vs.length = acc.length ∧ Way X H01 C1 H1 L (acc ++ [d]) H0 C (upd H L (.lst (vs ++ [v]))) := by
  obtain ⟨vs, h1, h2⟩ := w.at_
  have off : ∀ a x, (a, x) ∈ C → a ≠ L := fun a x hx e => w.nd ⟨x, e ▸ hx⟩
  refine ⟨vs, h1, h2.length.symm, ⟨⟨w.st.base, fun a o h n => ?_, w.st.own⟩, ⟨fun a o h => ?_, w.c.free, fun a x hx => (w.c.ok a x hx).mono (Same.refl _) (upd_ne (off a x hx)), w.c.nd⟩, ⟨_, upd_same, h2.append (Reps.cons r Reps.nil)⟩, w.n0, w.nd⟩⟩
  · rw [upd_ne (ne_of_none h hL)]; exact w.st.fr a o h n
  · rw [upd_ne (ne_of_none h w.n0)]; exact w.c.same a o h
theorem Way.fin {H01 H1 H0 H : Hp} {C1 : Cells} {L : Addr} {acc : List D} (w : Way X H01 C1 H1 L acc H0 C H) (hL : H1 L = none) : ∃ H0', Stp H01 C1 H1 H0' C H ∧ CellsR X.K H0' C H ∧ Rep X.K H0' (.lst acc) (.ref L) := by
  obtain ⟨vs, h1, h2⟩ := w.at_
  have s0 : Same H0 (upd H0 L (.lst vs)) := fun a u h => by rw [upd_ne (ne_of_none h w.n0)]; exact h
  refine ⟨upd H0 L (.lst vs), ⟨w.st.base.trans s0, w.st.fr, fun a h e n => ?_⟩, ⟨fun a o h => ?_, fun a d => ?_, fun a x hx => (w.c.ok a x hx).mono s0 rfl, w.c.nd⟩, ⟨L, vs, rfl, .inl (.inl upd_same), h2.mono s0⟩⟩
  · obtain ⟨q1, q2⟩ := w.st.own a h e n
    exact ⟨by rw [upd_ne (show a ≠ L from fun z => h (by rw [z]; exact hL))]; exact q1, q2⟩
  · by_cases q : a = L
    · subst q; rw [upd_same] at h; cases h; exact h1
    · rw [upd_ne q] at h; exact w.c.same a o h
  · rw [upd_ne (show a ≠ L from fun z => w.nd (by rw [← z]; exact d))]; exact w.c.free a d
theorem way0 {H0 H : Hp} {L : Addr} (c : CellsR X.K H0 C H) (hL : H L = none) : Way X H0 C H L [] H0 C (upd H L (.lst [])) := by
  have n0 := c.nn hL
  refine ⟨⟨Same.refl _, fun a o h n => by rw [upd_ne (ne_of_none h hL)]; exact h, fun a h e n => ⟨e, n⟩⟩, ⟨fun a o h => by rw [upd_ne (ne_of_none h n0)]; exact c.same a o h, c.free, fun a x hx => (c.ok a x hx).mono (Same.refl _) (upd_ne fun z => (c.ok a x hx).some (by rw [z]; exact hL)), c.nd⟩, ⟨[], upd_same, Reps.nil⟩, n0, c.notDom hL⟩
section
variable {scope : Scope} {own : List (Str × Nat)} {tg iter elt i : Expr} {bd : Bind}
def someB (T : TX X) (scope : Scope) (elt : Expr) : TE := fun σ H R => ∃ ρ C Q, InBlk T scope (fun T' => WE T' elt ρ C Q) ∧ TEx T ρ C Q σ H R
theorem pe_someB (T : TX X) (scope : Scope) (elt : Expr) (s : Shared) (H : Hp) (Ca : Addr) (cl : List (Str × Addr)) (fp : List Addr) : PE (X.blk s H scope (compEnvC scope cl Ca X.env) fp) elt (someB T scope elt) :=
  ⟨fun pins s' σ H' R I ⟨ρ, C, Q, h, H0, at_, k⟩ => (h s H Ca cl fp).run pins s' σ H' R I ⟨H0, at_.blk, k⟩⟩
def someBT (T : TX X) (scope : Scope) (elt : Expr) : TT := fun σ H R => ∃ ρ C Q, InBlk T scope (fun T' => WT T' elt ρ C Q) ∧ TTx T ρ C Q σ H R
theorem pt_someB (T : TX X) (scope : Scope) (elt : Expr) (s : Shared) (H : Hp) (Ca : Addr) (cl : List (Str × Addr)) (fp : List Addr) : PT (X.blk s H scope (compEnvC scope cl Ca X.env) fp) elt (someBT T scope elt) :=
  ⟨fun pins s' σ H' R I ⟨ρ, C, Q, h, H0, at_, k⟩ => (h s H Ca cl fp).run pins s' σ H' R I ⟨H0, at_.blk, k⟩⟩
theorem read_lc (own : List (Str × Nat)) (bd : Bind) (hv : ∀ i ∈ bd.slots, i ∈ own.map (·.2)) : ∀ σ H R, TEx T ρ C Q σ H R → tLc (TIx T ρ C fun ds P C1 => LcW T scope bd elt (own.map (·.2)) ρ P Q ds [] C1) (bd.g X.K) tYes (someB T scope elt) (own.map (·.2)) σ H R := by
  refine fun σ H R ⟨H0, at_, k⟩ => ⟨H0, at_, fun J ds P C1 H1 H01 p1 c1 y1 q1 L hL => ?_⟩
  have at1 := at_.step p1 c1
  refine ⟨fun j m H2 => m = ds.length - j ∧ j ≤ ds.length ∧ ∃ acc C2 H02, Way X H01 C1 H1 L acc H02 C2 H2 ∧ LcW T scope bd elt (own.map (·.2)) ρ P Q (ds.drop j) acc C2, ⟨_, rfl, Nat.zero_le _, [], C1, H01, way0 c1 hL, q1⟩, ?_⟩
  rintro j m H2 ⟨rfl, hj, acc, C2, H02, w2, q2⟩
  have hP : P C2 := by
    generalize ds.drop j = l at q2
    cases l with
    | nil => exact q2.1
    | cons d r => exact q2.1
  by_cases hlt : j < ds.length
  · rw [List.drop_eq_getElem_cons hlt] at q2
    obtain ⟨_, ρ', hb, qe⟩ := q2
    refine .inr ⟨y1.go j _ _ _ w2.st.base w2.c hP hlt, fun H3 => ∃ acc C3 H03, Way X H01 C1 H1 L acc H03 C3 H3 ∧ LcW T scope bd elt (own.map (·.2)) ρ P Q (ds.drop (j + 1)) acc C3, fun H3 ⟨acc, C3, H03, w3, q3⟩ => ⟨_, by omega, rfl, hlt, acc, C3, H03, w3, q3⟩, fun x H3 hy => ?_⟩
    obtain ⟨H03, p3, c3, r3⟩ := y1.yld j _ _ _ x H3 ds[j] w2.st.base w2.c hP (by simp [hlt]) hy
    have w3 := w2.step p3 c3
    have at3 := at1.step w3.st c3
    refine bind_to c3.same hb hv r3 (at3.wipe _).s (at3.wipe _).l fun σ' s' l' ew => ⟨by rw [ew, wipe_wipe], ρ', C2, _, qe, H03, ⟨at3.a, c3, s', l'⟩, fun v y C4 H4 H04 p4 c4 r4 ⟨hlen, q4⟩ => ?_⟩
    obtain ⟨vs, f1, f2, w5⟩ := (w3.step p4 c4).add hL r4
    exact ⟨vs, f1, by rw [f2]; exact Nat.lt_trans hlen (by decide), _, C4, H04, w5, q4⟩
  · have e : j = ds.length := by omega
    subst e
    rw [List.drop_length] at q2
    obtain ⟨H0', f1, f2, f3⟩ := w2.fin hL
    exact .inl ⟨y1.stop _ _ _ _ w2.st.base w2.c hP (Nat.le_refl _), k _ _ C2 H2 H0' (p1.trans c1 f1) f2 f3 q2.2⟩
theorem we_lc (own : List (Str × Nat)) (bd : Bind) (hc : X.calm = true) (hN : X.N.Nodup) (ok : BlkOk X.N X.env.scope scope own)
    (hg : ∀ (s : Shared) (H : Hp) (Ca : Addr) (cl : List (Str × Addr)) (fp : List Addr), PG (X.blk s H scope (compEnvC scope cl Ca X.env) fp) tg (bd.g X.K)) (hv : ∀ i ∈ bd.slots, i ∈ own.map (·.2))
    (h : WI T tg iter ρ C fun ds P C1 => LcW T scope bd elt (own.map (·.2)) ρ P Q ds [] C1) (hs : ∀ x, foldedSetIterable iter X.env x = pure x := by intro _; rfl) : WE T (.ListComp elt [⟨tg, iter, [], 0⟩] scope pos) ρ C Q := by
  exact PE.imp (pe_lc hc hN h ok hg (fun _ _ _ _ _ => pts_nil) (pe_someB T scope elt) hs) (read_lc own bd hv)
theorem ws_setLc {N : TEnds} {x : Str} {py spos : Pos} (own : List (Str × Nat)) (bd : Bind) (j : Nat) (hc : X.calm = true) (hN : X.N.Nodup) (hy : X.N[j]? = some x) (hyl : X.env.scope.names.lookup x = some .local)
    (hsw : swapsWith (.ListComp elt [⟨tg, iter, [], 0⟩] scope pos) (some (.Name x py)) spos.line X.env = pure true) (ok : BlkOk X.N X.env.scope scope own)
    (hg : ∀ (s : Shared) (H : Hp) (Ca : Addr) (cl : List (Str × Addr)) (fp : List Addr), PG (X.blk s H scope (compEnvC scope cl Ca X.env) fp) tg (bd.g X.K)) (hv : ∀ i ∈ bd.slots, i ∈ own.map (·.2))
    (h : WI T tg iter ρ C fun ds P C1 => LcW T scope bd elt (own.map (·.2)) ρ P (fun d C2 => N.nx (ρ.set j (some d)) C2) ds [] C1) (hs : ∀ x, foldedSetIterable iter X.env x = pure x := by intro _; rfl) : WS T (.Assign [.Name x py] (.ListComp elt [⟨tg, iter, [], 0⟩] scope pos) spos) ρ C N :=
  PS.imp (ps_setLc hc hN hy hyl hsw h ok hg (fun _ _ _ _ _ => pts_nil) (pe_someB T scope elt) hs) fun Dn σ H ⟨H0, at_, k⟩ => read_lc own bd hv σ H _ ⟨H0, at_, fun v d C1 H1 H01 p c r q =>
    (k.after p c).nx _ _ C1 H1 H01 (Stp.refl _ _ _) c (SlotsR.set j (at_.step p c).s r at_.l) (by rw [List.length_set, List.length_set]; exact at_.l) q⟩
theorem read_lc1 (own : List (Str × Nat)) (bd : Bind) (hv : ∀ i ∈ bd.slots, i ∈ own.map (·.2)) : ∀ σ H R, TEx T ρ C Q σ H R → tLc (TIx T ρ C fun ds P C1 => LcW1 T scope bd i elt (own.map (·.2)) ρ P Q ds [] C1) (bd.g X.K) (someBT T scope i) (someB T scope elt) (own.map (·.2)) σ H R := by
  refine fun σ H R ⟨H0, at_, k⟩ => ⟨H0, at_, fun J ds P C1 H1 H01 p1 c1 y1 q1 L hL => ?_⟩
  have at1 := at_.step p1 c1
  refine ⟨fun j m H2 => m = ds.length - j ∧ j ≤ ds.length ∧ ∃ acc C2 H02, Way X H01 C1 H1 L acc H02 C2 H2 ∧ LcW1 T scope bd i elt (own.map (·.2)) ρ P Q (ds.drop j) acc C2, ⟨_, rfl, Nat.zero_le _, [], C1, H01, way0 c1 hL, q1⟩, ?_⟩
  rintro j m H2 ⟨rfl, hj, acc, C2, H02, w2, q2⟩
  have hP : P C2 := by
    generalize ds.drop j = l at q2
    cases l with
    | nil => exact q2.1
    | cons d r => exact q2.1
  by_cases hlt : j < ds.length
  · rw [List.drop_eq_getElem_cons hlt] at q2
    obtain ⟨_, ρ', hb, qe⟩ := q2
    refine .inr ⟨y1.go j _ _ _ w2.st.base w2.c hP hlt, fun H3 => ∃ acc C3 H03, Way X H01 C1 H1 L acc H03 C3 H3 ∧ LcW1 T scope bd i elt (own.map (·.2)) ρ P Q (ds.drop (j + 1)) acc C3, fun H3 ⟨acc, C3, H03, w3, q3⟩ => ⟨_, by omega, rfl, hlt, acc, C3, H03, w3, q3⟩, fun x H3 hy => ?_⟩
    obtain ⟨H03, p3, c3, r3⟩ := y1.yld j _ _ _ x H3 ds[j] w2.st.base w2.c hP (by simp [hlt]) hy
    have w3 := w2.step p3 c3
    have at3 := at1.step w3.st c3
    refine bind_to c3.same hb hv r3 (at3.wipe _).s (at3.wipe _).l fun σ' s' l' ew => ⟨by rw [ew, wipe_wipe], ρ', C2, _, qe, H03, ⟨at3.a, c3, s', l'⟩, fun b C5 H5 H05 p5 c5 q5 => ?_⟩
    have w5 := w3.step p5 c5
    have at5 : At T H05 ρ' C5 σ' H5 := ⟨(at1.step w5.st c5).a, c5, SlotsR.mono s' p5.base, l'⟩
    cases b with
    | false => exact ⟨acc, C5, H05, w5, q5⟩
    | true =>
      refine ⟨ρ', C5, _, q5, H05, at5, fun v y C4 H4 H04 p4 c4 r4 ⟨hlen, q4⟩ => ?_⟩
      obtain ⟨vs, f1, f2, w6⟩ := (w5.step p4 c4).add hL r4
      exact ⟨vs, f1, by rw [f2]; exact Nat.lt_trans hlen (by decide), _, C4, H04, w6, q4⟩
  · have e : j = ds.length := by omega
    subst e
    rw [List.drop_length] at q2
    obtain ⟨H0', f1, f2, f3⟩ := w2.fin hL
    exact .inl ⟨y1.stop _ _ _ _ w2.st.base w2.c hP (Nat.le_refl _), k _ _ C2 H2 H0' (p1.trans c1 f1) f2 f3 q2.2⟩
theorem we_lc1 (own : List (Str × Nat)) (bd : Bind) (hc : X.calm = true) (hN : X.N.Nodup) (ok : BlkOk X.N X.env.scope scope own)
    (hg : ∀ (s : Shared) (H : Hp) (Ca : Addr) (cl : List (Str × Addr)) (fp : List Addr), PG (X.blk s H scope (compEnvC scope cl Ca X.env) fp) tg (bd.g X.K)) (hv : ∀ i ∈ bd.slots, i ∈ own.map (·.2))
    (h : WI T tg iter ρ C fun ds P C1 => LcW1 T scope bd i elt (own.map (·.2)) ρ P Q ds [] C1) (hs : ∀ x, foldedSetIterable iter X.env x = pure x := by intro _; rfl) : WE T (.ListComp elt [⟨tg, iter, [i], 0⟩] scope pos) ρ C Q := by
  exact PE.imp (pe_lc hc hN h ok hg (fun s H Ca cl fp => pts_one (pt_someB T scope i s H Ca cl fp)) (pe_someB T scope elt) hs) (read_lc1 own bd hv)
end
end
end Tr

set_option maxHeartbeats 2000000
namespace Tr
open PySem L2 PySem.Spec PyProof.Rows

section
variable {X : Cx} {T : TX X} {ρ : Rho} {C : Cells} {Q : QE} {e a b c o : Expr} {pos p apos cpos : Pos} {es : List Expr} {d d1 d2 : D} {ds ds2 : List D}

theorem ow_int0 {f : Value → Value → Sem Value} {g : Int → Int → V} {i j : Int} (gd : D) (ho : OpR X f (rI0 g)) (hg : ∀ H0 : Hp, Rep X.K H0 gd (g i j)) (q : Q gd C) : OW T f (.int i) (.int j) C Q :=
  ow_look ho (fun x y H H0 c r1 r2 => by cases r1; cases r2; exact ⟨g i j, hg H0, fun R k => ⟨i, j, rfl, rfl, k⟩⟩) q
theorem ow_intC {f : Value → Value → Sem Value} {P : Int → Int → Prop} {g : Int → Int → V} {i j : Int} (gd : D) (ho : OpR X f (rI P g)) (hp : P i j) (hg : ∀ H0 : Hp, Rep X.K H0 gd (g i j)) (q : Q gd C) : OW T f (.int i) (.int j) C Q :=
  ow_look ho (fun x y H H0 c r1 r2 => by cases r1; cases r2; exact ⟨g i j, hg H0, fun R k => ⟨i, j, rfl, rfl, hp, k⟩⟩) q
theorem ow_add {i j : Int} (q : Q (.int (i + j)) C) : OW T (binaryOp .Add) (.int i) (.int j) C Q := ow_int0 (.int (i + j)) op_add (fun _ => rfl) q
theorem ow_mul {i j : Int} (h : CMul i j) (q : Q (.int (i * j)) C) : OW T (binaryOp .Mult) (.int i) (.int j) C Q := ow_intC (.int (i * j)) op_mul h (fun _ => rfl) q
theorem ow_fdiv {i j : Int} (h : 0 < j ∧ j < 1073741824) (q : Q (.int (i / j)) C) : OW T (binaryOp .FloorDiv) (.int i) (.int j) C Q := ow_intC (.int (i / j)) op_fdiv h (fun _ => rfl) q
theorem ow_mod {i j : Int} (h : 0 < j) (q : Q (.int (i % j)) C) : OW T (binaryOp .Mod) (.int i) (.int j) C Q := ow_intC (.int (i % j)) op_mod h (fun _ => rfl) q
theorem ow_pow {i j : Int} (h : CPow i j) (q : Q (.int (i ^ j.toNat)) C) : OW T (binaryOp .Pow) (.int i) (.int j) C Q := ow_intC (.int (i ^ j.toNat)) op_pow h (fun _ => rfl) q
theorem ow_gt {i j : Int} (q : Q (.bl (decide (j < i))) C) : OW T (compareOp .Gt) (.int i) (.int j) C Q := ow_int0 (.bl (decide (j < i))) op_gt (fun _ => rfl) q
theorem ow_ge {i j : Int} (q : Q (.bl (decide (j ≤ i))) C) : OW T (compareOp .GtE) (.int i) (.int j) C Q := ow_int0 (.bl (decide (j ≤ i))) op_ge (fun _ => rfl) q
theorem we_neg {i : Int} (h : WE T a ρ C fun d C1 => ∃ i, d = .int i ∧ Q (.int (-i)) C1) : WE T (.UnaryOp .USub a pos) ρ C Q :=
  PE.imp (pe_un un_neg h) fun σ H R ⟨H0, at_, k⟩ => ⟨H0, at_, fun v d C1 H1 H01 p1 c1 r1 ⟨i, e1, q⟩ => by subst e1; cases r1; exact ⟨i, rfl, k _ (.int (-i)) C1 H1 H01 p1 c1 rfl q⟩⟩
mutual
def toPy : D → PyData
  | .non => .none
  | .bl b => .bool b
  | .int i => .int i
  | .str s => .str s
  | .lst ds => .list (toPys ds)
  | .tup ds => .tuple (toPys ds)
  | _ => .none
def toPys : List D → List PyData
  | [] => []
  | d :: ds => toPy d :: toPys ds
end
mutual
def plainD : D → Bool
  | .non | .bl _ | .int _ | .str _ => true
  | .lst ds => plainDs ds
  | .tup ds => plainDs ds
  | _ => false
def plainDs : List D → Bool
  | [] => true
  | d :: ds => plainD d && plainDs ds
end
mutual
theorem rep_dp {K : W.Frag} {H0 H : Hp} (c : Same H0 H) : ∀ {d : D} {v : V}, plainD d = true → Rep K H0 d v → Dp K H v (toPy d)
  | .non, _, _, h => by cases h; exact .non
  | .bl _, _, _, h => by cases h; exact .bl _
  | .int _, _, _, h => by cases h; exact .int _
  | .str _, _, _, h => by cases h; exact .str _
  | .lst _, _, hp, ⟨a, vs, h1, h2, h3⟩ => by subst h1; exact .lst (Same.sqL c h2) (reps_dp c hp h3)
  | .tup _, _, hp, ⟨a, vs, h1, h2, h3⟩ => by subst h1; exact .tup (Same.sqT c h2) (reps_dp c hp h3)
theorem reps_dp {K : W.Frag} {H0 H : Hp} (c : Same H0 H) : ∀ {ds : List D} {vs : List V}, plainDs ds = true → Reps K H0 ds vs → DpAll K H vs (toPys ds)
  | [], _, _, h => by cases h; exact .nil
  | d :: ds, _, hp, ⟨v, r, h1, h2, h3⟩ => by
    subst h1
    have hp' : (plainD d && plainDs ds) = true := hp
    rw [Bool.and_eq_true] at hp'
    exact .cons (rep_dp c hp'.1 h2) (reps_dp c hp'.2 h3)
end
def PyR (C : Cells) (d : D) (p : PyData) : Prop := (plainD d = true ∧ p = toPy d) ∨ ∃ a ds, d = .raw (.ref a) ∧ (a, Cell.lst ds) ∈ C ∧ plainDs ds = true ∧ p = .list (toPys ds)
theorem pyR_dp {K : W.Frag} {H0 H : Hp} {v : V} {p : PyData} (c : CellsR K H0 C H) (r : Rep K H0 d v) (h : PyR C d p) : Dp K H v p := by
  rcases h with ⟨h1, rfl⟩ | ⟨a, ds, rfl, hm, hp, rfl⟩
  · exact rep_dp c.same h1 r
  · obtain ⟨vs, g1, g2⟩ := c.ok a _ hm
    obtain rfl : v = .ref a := r
    exact .lst (.inl (.inl g1)) (reps_dp c.same hp g2)
theorem ow_eq {p1 p2 : PyData} (hu : X.A.units + 64 < cLine) (h1 : PyR C d1 p1) (h2 : PyR C d2 p2) (s1 : SeqAt.shaped p1 = true) (s2 : SeqAt.shaped p2 = true) (q : Q (.bl (PyData.eqv p1 p2)) C) : OW T (compareOp .Eq) d1 d2 C Q :=
  ow_look (d := .bl (PyData.eqv p1 p2)) (op_eqD hu) (fun x y H H0 c r1 r2 => ⟨.bl (PyData.eqv p1 p2), rfl, fun R k => ⟨p1, p2, pyR_dp c r1 h1, pyR_dp c r2 h2, s1, s2, k⟩⟩) q
theorem ow_ne {p1 p2 : PyData} (hu : X.A.units + 64 < cLine) (h1 : PyR C d1 p1) (h2 : PyR C d2 p2) (s1 : SeqAt.shaped p1 = true) (s2 : SeqAt.shaped p2 = true) (q : Q (.bl (!PyData.eqv p1 p2)) C) : OW T (compareOp .NotEq) d1 d2 C Q :=
  ow_look (d := .bl (!PyData.eqv p1 p2)) (op_neD hu) (fun x y H H0 c r1 r2 => ⟨.bl (!PyData.eqv p1 p2), rfl, fun R k => ⟨p1, p2, pyR_dp c r1 h1, pyR_dp c r2 h2, s1, s2, k⟩⟩) q
theorem ow_eq_str {x y : Str} (q : Q (.bl (decide (x = y))) C) : OW T (compareOp .Eq) (.str x) (.str y) C Q :=
  ow_look (d := .bl (decide (x = y))) op_eq (fun u v H H0 c r1 r2 => by cases r1; cases r2; exact ⟨.bl (decide (x = y)), rfl, fun R k => ⟨rfl, by
    rw [show decide (V.str x = V.str y) = decide (x = y) by by_cases e : x = y <;> simp [e]]; exact k⟩⟩) q
theorem ow_ne_str {x y : Str} (q : Q (.bl (!decide (x = y))) C) : OW T (compareOp .NotEq) (.str x) (.str y) C Q :=
  ow_look (d := .bl (!decide (x = y))) op_ne (fun u v H H0 c r1 r2 => by cases r1; cases r2; exact ⟨.bl (!decide (x = y)), rfl, fun R k => ⟨rfl, by
    rw [show decide (V.str x = V.str y) = decide (x = y) by by_cases e : x = y <;> simp [e]]; exact k⟩⟩) q
theorem ow_eq_int {x y : Int} (q : Q (.bl (decide (x = y))) C) : OW T (compareOp .Eq) (.int x) (.int y) C Q :=
  ow_look (d := .bl (decide (x = y))) op_eq (fun u v H H0 c r1 r2 => by cases r1; cases r2; exact ⟨.bl (decide (x = y)), rfl, fun R k => ⟨rfl, by
    rw [show decide (V.int x = V.int y) = decide (x = y) by by_cases e : x = y <;> simp [e]]; exact k⟩⟩) q
theorem ow_ne_int {x y : Int} (q : Q (.bl (!decide (x = y))) C) : OW T (compareOp .NotEq) (.int x) (.int y) C Q :=
  ow_look (d := .bl (!decide (x = y))) op_ne (fun u v H H0 c r1 r2 => by cases r1; cases r2; exact ⟨.bl (!decide (x = y)), rfl, fun R k => ⟨rfl, by
    rw [show decide (V.int x = V.int y) = decide (x = y) by by_cases e : x = y <;> simp [e]]; exact k⟩⟩) q
def isNon : D → Bool
  | .non => true
  | _ => false
theorem ow_add_str {x y : Str} (h : x.length + y.length ≤ 100000) (q : Q (.str (x ++ y)) C) : OW T (binaryOp .Add) (.str x) (.str y) C Q :=
  ow_look (d := .str (x ++ y)) op_add_str (fun u v H H0 c r1 r2 => by cases r1; cases r2; exact ⟨.str (x ++ y), rfl, fun R k => ⟨x, y, rfl, rfl, Nat.le_trans h (by decide), k⟩⟩) q
theorem sw_str {s : Str} {lo hi : Option Int} (h : s.length ≤ 100000) (q : Q (.str (cutS s lo hi)) C) : SW T (.str s) lo hi C Q :=
  SlR.imp sl_str fun x l u H R ⟨e1, e2, H0, c, r1, k⟩ => by
    subst e1; subst e2; cases r1
    exact ⟨s, rfl, Nat.le_trans h (by decide), k.here (d := .str (cutS s l u)) c rfl q⟩
theorem sw_tup {lo hi : Option Int} (q : Q (.tup (cutD ds lo hi)) C) : SW T (.tup ds) lo hi C Q :=
  SlR.imp sl_tupA fun x l u H R ⟨e1, e2, H0, c, r1, k⟩ => by
    subst e1; subst e2
    obtain ⟨a, vs, g1, g2, g3⟩ := id r1
    have hl := g3.length
    refine ⟨a, vs, g1, Same.sqT c.same g2, fun hw => ?_, fun _ z hz => ?_⟩
    · have e : cutD ds l u = ds := by
        unfold cutD
        rw [hl, hw.1, hw.2, ← hl]; simp
      rw [e] at q
      subst g1
      exact k.here (d := .tup ds) c r1 q
    · obtain ⟨p2, c2⟩ := stp_new (o := .tup (cutV vs l u)) c hz
      exact k _ (.tup (cutD ds l u)) C _ _ p2 c2 ⟨z, _, rfl, .inl (.inl upd_same), (reps_cut g3 l u).mono p2.base⟩ q
theorem cw_str_int {i : Int} (h : i.natAbs.log2 < 1920) (q : Q (.str (toString i)) C) : CW T (.type "str") [.int i] C Q :=
  cw_look (d := .str (toString i)) call_str_int (fun xs H H0 c r => by
    obtain ⟨v, e1, r1⟩ := r.one
    cases r1; subst e1
    exact ⟨.str (toString i), rfl, fun R k => ⟨i, rfl, h, k⟩⟩) q
theorem cw_str_str {s : Str} (q : Q (.str s) C) : CW T (.type "str") [.str s] C Q :=
  cw_look (d := .str s) SkE.call_str_str (fun xs H H0 c r => by
    obtain ⟨v, e1, r1⟩ := r.one
    cases r1; subst e1
    exact ⟨.str s, rfl, fun R k => ⟨s, rfl, k⟩⟩) q
theorem cw_int_str {s : Str} {n : Int} (h : intText? s = some n) (hl : s.length ≤ 640) (q : Q (.int n) C) : CW T (.type "int") [.str s] C Q :=
  cw_look (d := .int n) call_int_str (fun xs H H0 c r => by
    obtain ⟨v, e1, r1⟩ := r.one
    cases r1; subst e1
    exact ⟨.int n, rfl, fun R k => ⟨s, n, rfl, h, hl, k⟩⟩) q
theorem cw_int {i : Int} (q : Q (.int i) C) : CW T (.type "int") [.int i] C Q :=
  cw_look (d := .int i) call_int1 (fun xs H H0 c r => by
    obtain ⟨v, e1, r1⟩ := r.one
    cases r1; subst e1
    exact ⟨.int i, rfl, fun R k => .inl ⟨i, rfl, k⟩⟩) q
theorem cw_int_bl {k : Bool} (q : Q (.int (if k then 1 else 0)) C) : CW T (.type "int") [.bl k] C Q :=
  cw_look (d := .int (if k then 1 else 0)) call_int1 (fun xs H H0 c r => by
    obtain ⟨v, e1, r1⟩ := r.one
    cases r1; subst e1
    exact ⟨.int (if k then 1 else 0), rfl, fun R q => .inr ⟨k, rfl, q⟩⟩) q
theorem cw_abs {i : Int} (q : Q (.int (if i < 0 then -i else i)) C) : CW T (.builtin "abs") [.int i] C Q :=
  cw_look (d := .int (if i < 0 then -i else i)) call_abs (fun xs H H0 c r => by
    obtain ⟨v, e1, r1⟩ := r.one
    cases r1; subst e1
    exact ⟨.int (if i < 0 then -i else i), rfl, fun R k => ⟨i, rfl, k⟩⟩) q
theorem reps_bls {K : W.Frag} {H0 : Hp} : ∀ {bs : List Bool} {vs : List V}, Reps K H0 (bs.map D.bl) vs → vs = bs.map V.bl
  | [], _, h => h
  | x :: r, _, ⟨_, _, h1, h2, h3⟩ => by subst h1; rw [reps_bls h3, h2]; rfl
theorem cw_all {bs : List Bool} (hc : X.calm = true) (q : Q (.bl (bs.all id)) C) : CW T (.builtin "all") [.lst (bs.map D.bl)] C Q :=
  cw_look (d := .bl (bs.all id)) (cr_all hc) (fun xs H H0 c r => by
    obtain ⟨v, e1, a, vs, e2, h2, h3⟩ := r.one
    subst e1; subst e2
    rw [reps_bls h3] at h2
    exact ⟨.bl (bs.all id), rfl, fun R k => ⟨a, bs, rfl, Same.sqL c.same h2, k⟩⟩) q
end
end Tr

set_option maxHeartbeats 2000000
namespace Tr
open PySem L2 PySem.Spec PyProof.Rows

section
open Builtin
variable {prog : Program} {w : World} {A : Around} {E : Value → Shared → Prop} {s : Shared} {K : W.Frag} {x C f : Addr} {ox : Obj} {od : Option Obj} {b tb : Value}
end

theorem in1_G {k : Nat} {A : Around} (r : RoomG (k + 1) A) : RoomG k A.in1 := ⟨r.rm.in1, r.gd⟩
structure ClsI (K : W.Frag) (Cl : Addr) : Prop where
  c : Cls K Cl
  ca : W.findIn K (.ref Cl) "__class__" = some (some (.builtin "object.__class__"))
  cn : W.specialIn K (.builtin "object.__class__") "__get__" = some (some (.builtin "getset_descriptor.__get__"))
  ct : W.takesIn K (.builtin "object.__class__") = some true
  cm : W.mroIn K Cl (.type "object") = some true
inductive TyD (K : W.Frag) (C : Cells) : D → Value → Prop
  | non : TyD K C .non (.type "NoneType")
  | bl (b) : TyD K C (.bl b) (.type "bool")
  | int (i) : TyD K C (.int i) (.type "int")
  | str (s) : TyD K C (.str s) (.type "str")
  | lst (ds) : TyD K C (.lst ds) (.type "list")
  | tup (ds) : TyD K C (.tup ds) (.type "tuple")
  | ins {Cl ns ds} (h : ClsI K Cl) : TyD K C (.ins Cl ns ds) (.ref Cl)
  | cl {a ds} (h : (a, Cell.lst ds) ∈ C) : TyD K C (.raw (.ref a)) (.type "list")
  | ci {a Cl ns ds} (h : (a, Cell.ins Cl ns ds) ∈ C) (hc : ClsI K Cl) : TyD K C (.raw (.ref a)) (.ref Cl)
theorem rd_tyL {K : W.Frag} {H : Hp} {a : Addr} {vs : List V} (h : SqL K H a vs) : TyX K H (.ref a) (.type "list") := by
  rcases h with (h | ⟨o, h⟩) | ⟨o, its, n, h1, h2, _⟩
  · exact .base (.lst h)
  · exact .base (.frz h)
  · exact .kList h1 h2
theorem rd_tyT {K : W.Frag} {H : Hp} {a : Addr} {vs : List V} (h : SqT K H a vs) : TyX K H (.ref a) (.type "tuple") := by
  rcases h with (h | ⟨o, h⟩) | ⟨o, its, n, h1, h2, _⟩
  · exact .base (.tup h)
  · exact .fTuple h
  · exact .kTuple h1 h2
theorem ty_at {K : W.Frag} {H0 H : Hp} {C : Cells} {d : D} {v : V} {t : Value} (c : CellsR K H0 C H) (r : Rep K H0 d v) (h : TyD K C d t) : TyX K H v t := by
  cases h with
  | non => cases r; exact .base .non
  | bl b => cases r; exact .base (.bl b)
  | int b => cases r; exact .base (.int b)
  | str b => cases r; exact .base (.str b)
  | lst ds => obtain ⟨a, vs, e, h, _⟩ := r; subst e; exact rd_tyL (Same.sqL c.same h)
  | tup ds => obtain ⟨a, vs, e, h, _⟩ := r; subst e; exact rd_tyT (Same.sqT c.same h)
  | ins h => obtain ⟨a, dx, vs, e, h1, _⟩ := r; subst e; exact .base (.ins (c.same _ _ h1) h.c h.ca h.cn h.ct h.cm)
  | cl hm => cases r; obtain ⟨vs, e, _⟩ := c.ok _ _ hm; exact .base (.lst e)
  | ci hm h => cases r; obtain ⟨dx, vs, e, _⟩ := c.ok _ _ hm; exact .base (.ins e h.c h.ca h.cn h.ct h.cm)
inductive ClsD : D → Value → Prop
  | ty (n : String) : ClsD (.raw (.ty n)) (.type n)
  | own (Cl : Addr) : ClsD (.raw (.ref Cl)) (.ref Cl)
theorem cls_at {K : W.Frag} {H0 : Hp} {d : D} {v : V} {u : Value} (r : Rep K H0 d v) (h : ClsD d u) : ClsV v u := by
  cases h with
  | ty n => cases r; exact .ty n
  | own C => cases r; exact .own C
theorem clss_at {K : W.Frag} {H0 : Hp} : ∀ {ds : List D} {vs : List V} {us : List Value}, Reps K H0 ds vs → Paired ClsD ds us → Paired ClsV vs us
  | [], _, _, r, .nil => by cases r; exact .nil
  | d :: ds, _, _, ⟨v, vs, e, r1, r2⟩, .cons h t => by subst e; exact .cons (cls_at r1 h) (clss_at r2 t)

section
variable {X : Cx} {T : TX X} {ρ : Rho} {C : Cells} {Q : QE} {e a b c o : Expr} {pos p apos cpos : Pos} {es : List Expr} {d d1 d2 : D} {ds ds2 : List D}
theorem we_ty {x : Str} {n : String} (hg : Gl X x) (hm : X.mg x = none) (hv : bootBuiltins x = some (.type n)) (q : Q (.raw (.ty n)) C) (hn : x ≠ "__name__" := by decide) (hd : (x == ("__debug__" : Str)) = false := by decide) : WE T (.Name x pos) ρ C Q :=
  we_look (d := .raw (.ty n)) (pe_bltn (v := .ty n) hg hm hv rfl hn hd) (fun σ H H0 a => ⟨.ty n, rfl, fun R k => k⟩) q
theorem call_isiS : CallR X (.builtin "isinstance") (fun xs H Q => ∃ (x : V) (tp : Addr) (cs : List V) (t : Value) (us : List Value) (b : Bool), xs = [x, .ref tp] ∧ SqT X.K H tp cs ∧ Paired ClsV cs us ∧ TyX X.K H x t ∧ W.kitAny X.K t us = some b ∧ Q (.bl b) H) := by
  intro pins s σ H xs us Q I r h
  obtain ⟨x, tp, cs, t, ws, b, rfl, hT, k, ty, e, q⟩ := h
  obtain ⟨u1, u2, rfl, r1, r2⟩ := vals2 r
  cases (show u2 = Value.ref tp from r2)
  obtain ⟨P, Z, p, hx⟩ := kit_of I r1 ty
  obtain ⟨its, rv, ⟨o, h1, h2, n, h3⟩, _⟩ := I.tuple hT
  have e3 := ClsV.all k rv
  subst e3
  obtain ⟨oc, od, dt, sl⟩ := o
  simp only at h2 h3
  subst h2 h3
  exact W.kia_tup Z I.kIn p h1 e hx fun tk => ⟨.bl b, H, I.tok tk, rfl, q⟩
theorem cw_isi {t u : Value} {b : Bool} (hc : ClsD d2 u) (ht : TyD X.K C d1 t) (hk : W.kitOne X.K t u = some b) (q : Q (.bl b) C) : CW T (.builtin "isinstance") [d1, d2] C Q :=
  cw_look (d := .bl b) call_isi (fun xs H H0 c r => by
    obtain ⟨v, w, e1, r1, r2⟩ := r.two
    subst e1
    exact ⟨.bl b, rfl, fun R k => ⟨v, w, t, u, b, rfl, cls_at r2 hc, ty_at c r1 ht, hk, k⟩⟩) q
theorem cw_isiT {t : Value} {us : List Value} {b : Bool} (hc : Paired ClsD ds us) (ht : TyD X.K C d1 t) (hk : W.kitAny X.K t us = some b) (q : Q (.bl b) C) : CW T (.builtin "isinstance") [d1, .tup ds] C Q :=
  cw_look (d := .bl b) call_isiS (fun xs H H0 c r => by
    obtain ⟨v, w, e1, r1, r2⟩ := r.two
    subst e1
    obtain ⟨a, vs, e2, h2, h3⟩ := tup_at c r2
    subst e2
    exact ⟨.bl b, rfl, fun R k => ⟨v, a, vs, t, us, b, rfl, h2, clss_at h3 hc, ty_at c r1 ht, hk, k⟩⟩) q
end

section
variable {X : Cx} {T : TX X} {ρ : Rho} {C : Cells} {Q : QE} {pos p apos : Pos} {k : Nat} {f Cl : Addr} {fd : FuncData} {ps : List Str} {F : FS} {dvs : List V} {dds : List D} {dus : List Value} {d1 d2 d : D} {ns : List Str} {ds : List D}
def AsksN (F : FS) (ds : List D) (C : Cells) (Q : QE) : Prop := ∃ μ r, C.Perm (μ ++ r) ∧ F ds μ (fun d μ' => Q d (μ' ++ r)) fun _ _ _ => False
theorem run_N {pins : List (Addr × Obj)} {σ : L2.St} {H H0 : Hp} {s : Shared} {R : VK} {us : List Value} {vs : List V} {A : Around} {E' : Value → Shared → Prop} (Fk : FnG X.prog X.w X.K X.mg X.base k f fd ps F) (hr : RoomG k A) (hb : Binds X.K fd ps [])
    (I : Inv X pins σ H s) (e0 : Env0 X.prog X.w X.K X.mg X.base A X.stack s H) (rv : Vals vs us) (c : CellsR X.K H0 C H) (r : Reps X.K H0 ds vs) (h : AsksN F ds C Q) (kk : Cont X H0 C H Q R) : wpAny (model X.prog X.w) A (call (.ref f) us) (EP X pins σ R) E' s := by
  obtain ⟨μ, rr, pm, h⟩ := h
  have all : spT X.K F vs H R (fun _ _ _ => False) := ⟨H0, ds, μ, _, _, c.part pm, r, h, fun v d C' H' H0' p c' r' q => by
    obtain ⟨p2, c2⟩ := c.back pm p c'
    exact kk v d _ H' H0' p2 c2 r' q, fun cls dd fs C' H' H0' p c x q => q⟩
  have nlen : us.length = ps.length := by
    rw [← rv.length, ← r.length]
    exact Fk.len _ _ _ _ h
  have bnd := hb s us I.kIn (by rw [List.append_nil]; exact nlen)
  rw [List.append_nil] at bnd
  have went := Fk.run A X.stack s H ⟨us, []⟩ us vs R _ hr e0 bnd rv all
  refine wpAny_call (codeAny_mono went ?_)
  rintro (e | (_ | _ | _ | u)) s' hq
  · obtain ⟨_, _, _, _, _, _, _, _, _, _, _, _, z⟩ := hq; exact z.elim
  · exact False.elim hq
  · exact False.elim hq
  · exact False.elim hq
  · exact I.after hq
theorem ins_inst {pins : List (Addr × Obj)} {σ : L2.St} {H H0 : Hp} {s : Shared} {v : V} {u : Value} (I : Inv X pins σ H s) (rv : RelV v u) (c : CellsR X.K H0 C H) (r : Rep X.K H0 d v) (h : InsD C d Cl ns ds) : ∃ ad ox od, v = .ref ad ∧ u = .ref ad ∧ W.InstAt s.heap ad ox Cl (some od) := by
  obtain ⟨ad, dx, vs, e1, e2, e3, e4⟩ := ins_at c r h
  subst e1
  obtain rfl : u = Value.ref ad := rv
  obtain ⟨mA, O, _⟩ := ins_get I.hok e2
  obtain ⟨od, J, _⟩ := O.look
  exact ⟨ad, _, od, rfl, rfl, J⟩
theorem cw_strOwn (hs : W.findIn X.K (.ref Cl) "__str__" = some (some (.ref f))) (hf : W.isFn X.K (.ref f) = true) (Fk : FnG X.prog X.w X.K X.mg X.base k f fd ps F) (hr : RoomG (k + 2) X.A) (hb : Binds X.K fd ps []) (h1 : InsD C d Cl ns ds)
    (h : AsksN F [d] C fun d C' => ∃ z : Str, d = .str z ∧ Q (.str z) C') : CW T (.type "str") [d] C Q := by
  intro pins s σ H vs us R I rv ⟨H0, c, r, kk⟩
  obtain ⟨v, e, r1⟩ := r.one
  subst e
  obtain ⟨u, rfl, ru⟩ := rv.one
  obtain ⟨ad, ox, od, e1, e2, J⟩ := ins_inst I ru c r1 h1
  subst e1; subst e2
  refine W.kso_call (in1_G (in1_G hr)).rm.units0 I.kIn J hs hf ?_
  refine wpAny_mono (run_N (us := [.ref ad]) (vs := [.ref ad]) (R := fun v H => ∃ z : Str, v = .str z ∧ R (.str z) H) Fk (in1_G (in1_G hr)) hb I I.env0.in1.in1 (.cons rfl .nil) c (Reps.cons r1 Reps.nil) h
    (fun v d C' H' H0' p c' r ⟨z, e, q⟩ => by subst e; cases r; exact ⟨z, rfl, kk _ (.str z) C' H' H0' p c' rfl q⟩)) (fun w s' z => ?_) fun _ _ x => x
  obtain ⟨z', H', I', rz, n, e, qz⟩ := z
  subst e
  obtain ⟨t, ht⟩ := (show ∃ t, w = Value.str n t from rz)
  subst ht
  exact ⟨.str n, H', I', ⟨_, rfl⟩, qz⟩
end

section
variable {X : Cx} {T : TX X} {ρ : Rho} {C : Cells} {Q : QE} {e a b c o : Expr} {pos p apos cpos : Pos} {es : List Expr} {d d1 d2 : D} {ds ds2 : List D}
def rCatS (K : W.Frag) : R2 := fun x y H Q => ∃ l b xs zs, x = .ref l ∧ y = .ref b ∧ SqL K H l xs ∧ SqL K H b zs ∧ xs.length + zs.length ≤ sizeLine ∧ ∀ p, H p = none → Q (.ref p) (upd H p (.lst (xs ++ zs)))
theorem op_catS : OpR X (binaryOp .Add) (rCatS X.K) := by
  intro pins s σ H x y v u Q I rx ry h
  obtain ⟨l, b, xs, zs, rfl, rfl, hH, hB, hz, q⟩ := h
  cases rx
  cases ry
  obtain ⟨its, r, ht, z1⟩ := I.list hH
  obtain ⟨its2, r2, ht2, z2⟩ := I.list hB
  have l1 := r.length
  have l2 := r2.length
  obtain ⟨⟨cl1, dd, data, sl⟩, n, ho, hc, _, hd⟩ := id ht
  obtain ⟨⟨cl2, dd2, data2, sl2⟩, n2, ho2, hc2, _, hd2⟩ := id ht2
  simp only at hc hd hc2 hd2
  subst hc hd hc2 hd2
  refine concat_meets ⟨_, ho, rfl⟩ ⟨_, ho2, rfl⟩ PySem.noFill_list_add PySem.seq_list_add PySem.F.slot_list_add PySem.F.entry_list_add (PySem.F.args_list_add_2 _ _) (list_addW l b its.toArray its2.toArray n n2 dd dd2 sl sl2 (by rw [List.size_toArray, List.size_toArray]; omega)) ⟨ho, ho2, ?_⟩
  rw [show its.toArray ++ its2.toArray = (its ++ its2).toArray by simp]
  exact ⟨.ref _, _, I.lnew (t' := s.toks) (r.append r2) (by rw [List.length_append]; omega), rfl, q _ I.fresh⟩
theorem ow_cat (h1 : LstD C d1 ds) (h2 : LstD C d2 ds2) (hl : ds.length + ds2.length ≤ 100000) (q : Q (.lst (ds ++ ds2)) C) : OW T (binaryOp .Add) d1 d2 C Q :=
  OpR.imp op_catS fun x y H R ⟨H0, c, r1, r2, k⟩ => by
    obtain ⟨a, vs, e1, g1, g2⟩ := lst_at c r1 h1
    obtain ⟨b, ws, e2, g3, g4⟩ := lst_at c r2 h2
    have l1 := g2.length
    have l2 := g4.length
    refine ⟨a, b, vs, ws, e1, e2, g1, g3, Nat.le_trans (by omega) (show 100000 ≤ sizeLine by decide), fun p hp => ?_⟩
    obtain ⟨p2, c2⟩ := stp_new (o := .lst (vs ++ ws)) c hp
    exact k _ (.lst (ds ++ ds2)) C _ _ p2 c2 ⟨p, _, rfl, .inl (.inl upd_same), (g2.append g4).mono p2.base⟩ q
theorem ow_catC (h1 : LstD C d1 ds) (h2 : LstD C d2 ds2) (hl : ds.length + ds2.length ≤ 100000) (q : ∀ p, Q (.raw (.ref p)) ((p, .lst (ds ++ ds2)) :: C)) : OW T (binaryOp .Add) d1 d2 C Q :=
  OpR.imp op_catS fun x y H R ⟨H0, c, r1, r2, k⟩ => by
    obtain ⟨a, vs, e1, g1, g2⟩ := lst_at c r1 h1
    obtain ⟨b, ws, e2, g3, g4⟩ := lst_at c r2 h2
    have l1 := g2.length
    have l2 := g4.length
    refine ⟨a, b, vs, ws, e1, e2, g1, g3, Nat.le_trans (by omega) (show 100000 ≤ sizeLine by decide), fun p hp => ?_⟩
    obtain ⟨p2, c2⟩ := stp_cell (o := .lst (vs ++ ws)) (c := .lst (ds ++ ds2)) c hp ⟨_, upd_same, g2.append g4⟩
    exact k _ (.raw (.ref p)) _ _ _ p2 c2 rfl (q p)
theorem ow_catT (hl : ds.length + ds2.length ≤ 100000) (q : Q (.tup (ds ++ ds2)) C) : OW T (binaryOp .Add) (.tup ds) (.tup ds2) C Q :=
  OpR.imp op_catA fun x y H R ⟨H0, c, r1, r2, k⟩ => by
    obtain ⟨a, vs, e1, g1, g2⟩ := tup_at c r1
    obtain ⟨b, ws, e2, g3, g4⟩ := tup_at c r2
    have l1 := g2.length
    have l2 := g4.length
    refine ⟨a, b, vs, ws, e1, e2, g1, g3, Nat.le_trans (by omega) (show 100000 ≤ sizeLine by decide), fun e => ?_, fun _ e => ?_, fun _ _ p hp => ?_⟩
    · subst e; subst e2
      have : ds = [] := List.length_eq_zero_iff.mp l1
      subst this
      exact k.here (d := .tup ([] ++ ds2)) c r2 q
    · subst e; subst e1
      have : ds2 = [] := List.length_eq_zero_iff.mp l2
      subst this
      rw [List.append_nil] at q
      exact k.here (d := .tup ds) c r1 q
    · obtain ⟨p2, c2⟩ := stp_new (o := .tup (vs ++ ws)) c hp
      exact k _ (.tup (ds ++ ds2)) C _ _ p2 c2 ⟨p, _, rfl, .inl (.inl upd_same), (g2.append g4).mono p2.base⟩ q
theorem Reps.reverse {K : W.Frag} {H : Hp} : ∀ {ds : List D} {vs : List V}, Reps K H ds vs → Reps K H ds.reverse vs.reverse
  | [], _, h => by cases h; exact Reps.nil
  | d :: ds, _, ⟨v, r, e, h1, h2⟩ => by
    subst e
    rw [List.reverse_cons, List.reverse_cons]
    exact (Reps.reverse h2).append (Reps.cons h1 Reps.nil)
theorem we_revC {k : Nat} {p1 p2 p3 : Pos} (h : WE T e ρ C fun d C1 => ∃ ds, LstD C1 d ds ∧ ∀ p, Q (.raw (.ref p)) ((p, .lst ds.reverse) :: C1)) : WE T (.Subscript e (.Slice none none (some (.UnaryOp .USub (.Constant (.int 1) k p1) p2)) p3) pos) ρ C Q :=
  PE.imp (pe_revL h) fun σ H R ⟨H0, at_, k⟩ => ⟨H0, at_, fun v d C1 H1 H01 pp c1 r1 ⟨ds, hl, q⟩ => by
    obtain ⟨a, vs, e1, g1, g2⟩ := lst_at c1 r1 hl
    refine ⟨a, vs, e1, g1, fun p hp => ?_⟩
    obtain ⟨p2, c2⟩ := stp_cell (o := .lst vs.reverse) (c := .lst ds.reverse) c1 hp ⟨_, upd_same, Reps.reverse g2⟩
    exact k _ (.raw (.ref p)) _ _ _ (pp.trans c1 p2) c2 rfl (q p)⟩

theorem we_m1 {r : V → List V → Hp → VK → Prop} {m : Str} (hm : ∀ {to te : TE}, PE X o to → PE X e te → PE X (.Call (.Attribute o m apos) [e] [] pos) (tM1 r to te))
    (h : WE T o ρ C fun d1 C1 => ∃ s, d1 = .str s ∧ WE T e ρ C1 fun d2 C2 => ∀ v H H0 R, CellsR X.K H0 C2 H → Rep X.K H0 d2 v → Cont X H0 C2 H Q R → r (.str s) [v] H R) : WE T (.Call (.Attribute o m apos) [e] [] pos) ρ C Q :=
  PE.imp (hm h (pe_some T ρ e)) fun σ H R ⟨H0, at_, k⟩ => ⟨H0, at_, fun v d C1 H1 H01 p1 c1 r1 ⟨s, e1, q1⟩ => by
    subst e1; cases r1
    exact ⟨⟨s, rfl⟩, C1, _, q1, H01, at_.step p1 c1, fun v2 d2 C2 H2 H02 p2 c2 r2 q2 => q2 _ _ _ _ c2 r2 (k.after (p1.trans c1 p2) c2 fun _ _ z => z)⟩⟩
theorem strs_split {K : W.Frag} {H0 H : Hp} {C : Cells} {x : List Str} {R : VK} {Q : QE} (c : CellsR K H0 C H) (q : Q (.lst (x.map D.str)) C)
    (k : ∀ v d C' H' H0', Stp H0 C H H0' C' H' → CellsR K H0' C' H' → Rep K H0' d v → Q d C' → R v H') : rNewStrs x H R := by
  intro p hp
  obtain ⟨p2, c2⟩ := stp_new (o := .lst (x.map V.str)) c hp
  exact k _ (.lst (x.map D.str)) C _ _ p2 c2 ⟨p, _, rfl, .inl (.inl upd_same), Reps.strs x⟩ q
theorem we_split (h : WE T o ρ C fun d1 C1 => ∃ s, d1 = .str s ∧ WE T e ρ C1 fun d2 C2 => ∃ t : Str, d2 = .str t ∧ (t.length == 0) = false ∧ s.length ≤ 100000 ∧ Q (.lst ((Txt.split s t).map D.str)) C2)
    (hs : starEach [e] X.env = [(false, eval e X.env)] := by rfl) (hbase : attributeBase o "split" X.env (eval o X.env) = eval o X.env := by rfl) (hline : (apos.endLine == pos.line) = true := by rfl) : WE T (.Call (.Attribute o "split" apos) [e] [] pos) ρ C Q :=
  we_m1 (fun ho he => pe_split ho he hs hbase hline) (h.mono fun d1 C1 ⟨s, e1, w⟩ => ⟨s, e1, w.mono fun d2 C2 ⟨t, e2, ht, hs, q⟩ v H H0 R c r k => by
    subst e2; cases r
    exact ⟨s, t, rfl, rfl, ht, Nat.le_trans (show s.length + 2 ≤ 100002 by omega) (by decide), strs_split c q k⟩⟩)
theorem we_partition (h : WE T o ρ C fun d1 C1 => ∃ s, d1 = .str s ∧ WE T e ρ C1 fun d2 C2 => ∃ t : Str, d2 = .str t ∧ (t.length == 0) = false ∧ s.length ≤ 100000 ∧ Q (.tup [.str (Txt.partition s t).1, .str (Txt.partition s t).2.1, .str (Txt.partition s t).2.2]) C2)
    (hs : starEach [e] X.env = [(false, eval e X.env)] := by rfl) (hbase : attributeBase o "partition" X.env (eval o X.env) = eval o X.env := by rfl) (hline : (apos.endLine == pos.line) = true := by rfl) : WE T (.Call (.Attribute o "partition" apos) [e] [] pos) ρ C Q :=
  we_m1 (fun ho he => pe_partition ho he hs hbase hline) (h.mono fun d1 C1 ⟨s, e1, w⟩ => ⟨s, e1, w.mono fun d2 C2 ⟨t, e2, ht, hs, q⟩ v H H0 R c r k => by
    subst e2; cases r
    refine ⟨s, t, rfl, rfl, ht, Nat.le_trans hs (by decide), fun p hp => ?_⟩
    obtain ⟨p2, c2⟩ := stp_new (o := .tup [.str (Txt.partition s t).1, .str (Txt.partition s t).2.1, .str (Txt.partition s t).2.2]) c hp
    exact k _ (.tup [.str (Txt.partition s t).1, .str (Txt.partition s t).2.1, .str (Txt.partition s t).2.2]) C2 _ _ p2 c2 ⟨p, _, rfl, .inl (.inl upd_same), Reps.cons rfl (Reps.cons rfl (Reps.cons rfl Reps.nil))⟩ q⟩)
theorem we_join (h : WE T o ρ C fun d1 C1 => ∃ s, d1 = .str s ∧ WE T e ρ C1 fun d2 C2 => ∃ ys : List Str, SeqD C2 d2 (ys.map D.str) ∧ (ys.map (·.length)).sum + ys.length * s.length ≤ 100000 ∧ Q (.str (Txt.join s ys)) C2)
    (hs : starEach [e] X.env = [(false, eval e X.env)] := by rfl) (hbase : attributeBase o "join" X.env (eval o X.env) = eval o X.env := by rfl) (hline : (apos.endLine == pos.line) = true := by rfl) : WE T (.Call (.Attribute o "join" apos) [e] [] pos) ρ C Q :=
  we_m1 (fun ho he => pe_join ho he hs hbase hline) (h.mono fun d1 C1 ⟨s, e1, w⟩ => ⟨s, e1, w.mono fun d2 C2 ⟨ys, hq, hz, q⟩ v H H0 R c r k => by
    rcases hq with hq | hq
    · obtain ⟨a, vs, e2, h2, h3⟩ := lst_at c r hq
      subst e2
      rw [Reps.of_strs h3] at h2
      exact ⟨s, a, ys, rfl, rfl, .inl h2, Nat.le_trans hz (by decide), k.here (d := .str (Txt.join s ys)) c rfl q⟩
    · subst hq
      obtain ⟨a, vs, e2, h2, h3⟩ := tup_at c r
      subst e2
      rw [Reps.of_strs h3] at h2
      exact ⟨s, a, ys, rfl, rfl, .inr h2, Nat.le_trans hz (by decide), k.here (d := .str (Txt.join s ys)) c rfl q⟩⟩)
theorem we_startswith (h : WE T o ρ C fun d1 C1 => ∃ s, d1 = .str s ∧ WE T e ρ C1 fun d2 C2 => ∃ t : Str, d2 = .str t ∧ Q (.bl (Txt.startswith s t)) C2)
    (hs : starEach [e] X.env = [(false, eval e X.env)] := by rfl) (hbase : attributeBase o "startswith" X.env (eval o X.env) = eval o X.env := by rfl) (hline : (apos.endLine == pos.line) = true := by rfl) : WE T (.Call (.Attribute o "startswith" apos) [e] [] pos) ρ C Q :=
  we_m1 (fun ho he => pe_m1 PySem.F.slot_str_startswith PySem.F.type_str_startswith mt_startswith ho he hs hbase hline) (h.mono fun d1 C1 ⟨s, e1, w⟩ => ⟨s, e1, w.mono fun d2 C2 ⟨t, e2, q⟩ v H H0 R c r k => by
    subst e2; cases r
    exact ⟨s, t, rfl, rfl, k.here (d := .bl (Txt.startswith s t)) c rfl q⟩⟩)

def flatD : D → Bool
  | .non | .bl _ | .int _ | .str _ => true
  | _ => false
def toV : D → V
  | .bl b => .bl b
  | .int i => .int i
  | .str s => .str s
  | _ => .non
theorem flat_at {K : W.Frag} {H0 : Hp} {d : D} {v : V} (r : Rep K H0 d v) (h : flatD d = true) : v = toV d ∧ flatV v = true := by
  cases d <;> first | (cases r; exact ⟨rfl, rfl⟩) | cases h
theorem flats_at {K : W.Frag} {H0 : Hp} : ∀ {ds : List D} {vs : List V}, Reps K H0 ds vs → ds.all flatD = true → vs = ds.map toV ∧ vs.all flatV = true
  | [], _, r, _ => by cases r; exact ⟨rfl, rfl⟩
  | d :: ds, _, ⟨v, vs, e, r1, r2⟩, h => by
    subst e
    rw [List.all_cons, Bool.and_eq_true] at h
    obtain ⟨e1, f1⟩ := flat_at r1 h.1
    obtain ⟨e2, f2⟩ := flats_at r2 h.2
    exact ⟨by rw [e1, e2]; rfl, by rw [List.all_cons, f1, f2]; rfl⟩
def inD (d : D) (ds : List D) : Bool := inV (toV d) (ds.map toV)
theorem in_at {n : Bool} {H0 H : Hp} {x y : V} {R : VK} (c : CellsR X.K H0 C H) (r1 : Rep X.K H0 d1 x) (r2 : Rep X.K H0 d2 y) (h : SeqD C d2 ds) (f1 : flatD d1 = true) (f2 : ds.all flatD = true) (k : R (.bl (if n then !inD d1 ds else inD d1 ds)) H) : rIn X.K n x y H R := by
  obtain ⟨e1, g1⟩ := flat_at r1 f1
  rcases h with h | h
  · obtain ⟨a, vs, e2, h2, h3⟩ := lst_at c r2 h
    obtain ⟨e3, g3⟩ := flats_at h3 f2
    refine ⟨a, vs, e2, .inl h2, g1, g3, ?_⟩
    rw [e1, e3]; exact k
  · subst h
    obtain ⟨a, vs, e2, h2, h3⟩ := tup_at c r2
    obtain ⟨e3, g3⟩ := flats_at h3 f2
    refine ⟨a, vs, e2, .inr h2, g1, g3, ?_⟩
    rw [e1, e3]; exact k
theorem ow_in (h : SeqD C d2 ds) (f1 : flatD d1 = true) (f2 : ds.all flatD = true) (q : Q (.bl (inD d1 ds)) C) : OW T (compareOp .In) d1 d2 C Q :=
  ow_look (d := .bl (inD d1 ds)) op_in_seq (fun u v H H0 c r1 r2 => ⟨.bl (inD d1 ds), rfl, fun R k => in_at (n := false) c r1 r2 h f1 f2 k⟩) q
theorem ow_notIn (h : SeqD C d2 ds) (f1 : flatD d1 = true) (f2 : ds.all flatD = true) (q : Q (.bl (!inD d1 ds)) C) : OW T (compareOp .NotIn) d1 d2 C Q :=
  ow_look (d := .bl (!inD d1 ds)) op_notIn_seq (fun u v H H0 c r1 r2 => ⟨.bl (!inD d1 ds), rfl, fun R k => in_at (n := true) c r1 r2 h f1 f2 k⟩) q
theorem inD_strs {s : Str} : ∀ {xs : List Str}, inD (.str s) (xs.map D.str) = decide (s ∈ xs)
  | [] => by simp [inD, inV]
  | x :: xs => by
    have ih := inD_strs (s := s) (xs := xs)
    unfold inD inV at ih ⊢
    rw [List.map_cons, List.map_cons, List.any_cons, ih]
    have : eqV (toV (.str x)) (toV (.str s)) = (x == s) := rfl
    rw [this]
    by_cases h : x = s
    · simp [h]
    · simp [h, Ne.symm h]
theorem ow_inSign {n : Nat} {z : Str} (q : Q (.bl (decide (n ∈ z.cps.toList))) C) : OW T (compareOp .In) (.str ⟨#[n]⟩) (.str z) C Q :=
  ow_look (d := .bl (decide (n ∈ z.cps.toList))) op_in_sign (fun u v H H0 c r1 r2 => by cases r1; cases r2; exact ⟨.bl (decide (n ∈ z.cps.toList)), rfl, fun R k => ⟨n, z, rfl, rfl, k⟩⟩) q

end
end Tr

set_option maxHeartbeats 2000000
namespace Tr
open PySem L2 PySem.Spec PyProof.Rows

def lawFS : FS := fun ds C Q _ => ∃ ns : List Int, ds = [.lst (ns.map .int)] ∧ ns.length ≤ 63 ∧ C = [] ∧ ∀ C', Q (.bl true) C'
theorem cells_nil (K : W.Frag) (H : Hp) : CellsR K H [] H := ⟨Same.refl _, fun a ⟨_, h⟩ => (by cases h), fun a c h => (by cases h), List.nodup_nil⟩
theorem law_sp {K : W.Frag} {H : Hp} {a : Addr} {ns : List Int} (hl : ns.length ≤ 63) (hs : SqL K H a (ns.map V.int)) : spT K lawFS [.ref a] H (fun v _ => v = .bl true) fun _ _ _ => False :=
  ⟨H, [.lst (ns.map .int)], [], fun d _ => d = .bl true, fun _ _ _ => False, cells_nil K H, Reps.cons ⟨a, _, rfl, hs, Reps.ints ns⟩ Reps.nil, ⟨ns, rfl, hl, rfl, fun _ => rfl⟩,
    fun v d C' H' H0' _ _ r e => (by subst e; exact r), fun _ _ _ _ _ _ _ _ _ q => q⟩
section
variable {P : Program} {w : World} {K : W.Frag} {mg mb : Str → Option Value} {k : Nat} {fa a : Addr} {fd : FuncData} {x : Str} {s₁ : Shared} {vs : List Value} {ns : List Int}
theorem law_from (H : Hp) (hO : Only H) (hS : SqL K H a (ns.map V.int)) (hok : HOk P w H s₁.heap) (hA : ∀ b, H b ≠ none → b = a) (hK : H a ≠ none → K.lookup a = none)
    (KX : K.In s₁.heap) (hns : s₁.heap.Ns mainGlobals mg) (hb : s₁.heap.Ns builtinsNs mb) (hbb : ∀ x : Str, x ≠ "__name__" → mb x = bootBuiltins x) (hlim : s₁.heap.NoLimit) (hg : s₁.gens = #[])
    (ha : s₁.heap.get? a = some { cls := .type "list", data := .seq vs.toArray }) (hl : ns.length ≤ 63) (hr : RoomG k callerA)
    (F : ∀ base : Heap, K.In base → base.Ns mainGlobals mg → FnG P w K mg base k fa fd [x] lawFS) (hbind : ∀ (s : Shared) (u : Value), BindsTo s fd ⟨[u], []⟩ [(x, u)]) :
    codeAny (model P w) callerA (.call (.ref fa) ⟨[.ref a], []⟩) (fun r s' => r = .ok (.ret (.bool true)) ∧ OldK s₁.heap s'.heap ∧ s'.os = s₁.os ∧ AllBare s'.gens) s₁ := by
  have only : ∀ {b : Addr}, b ≠ a → H b = none := fun {b} ne => Classical.byContradiction fun h => ne (hA b h)
  have dicts : ∀ {b : Addr} {o : Obj} {es : Array DictEntry} {ep : Nat}, s₁.heap.get? b = some o → o.data = .dict es ep → (hidT s₁.heap H).get? b = some o := fun {b o es ep} e d => hidT_get e (by
    refine only fun eq => ?_
    subst eq
    rw [ha] at e; cases e; cases d)
  have names : ∀ {b : Addr} {m : Str → Option Value}, s₁.heap.Ns b m → (hidT s₁.heap H).Ns b m := fun {b m} ⟨o, es, ep, e, d, r⟩ => ⟨o, es, ep, dicts e d, d, r⟩
  have kin : K.In (hidT s₁.heap H) := fun b o e => hidT_get (KX b o e) (by
    by_cases eq : b = a
    · subst eq
      exact Classical.byContradiction fun h => by rw [hK h] at e; cases e
    · exact only eq)
  have lim : (hidT s₁.heap H).NoLimit := let ⟨mc, h1, h2⟩ := hlim; ⟨mc, names h1, h2⟩
  have e0 : Env0 P w K mg (hidT s₁.heap H) callerA [] s₁ H := ⟨rfl, ⟨kin, names hns, ⟨mb, names hb, hbb⟩, lim⟩, fun b o e => of_hidT e, Nat.le_of_eq (hidT_size _ _), trivial, fun b hb => absurd (show b ∈ ([] : List Addr) from hb) (by simp), hok, .of_eq hg⟩
  have went := (F _ kin (names hns)).run callerA [] s₁ H ⟨[.ref a], []⟩ [.ref a] [.ref a] _ _ hr e0 (hbind s₁ (.ref a)) (.cons rfl .nil) (law_sp hl hS)
  refine codeAny_mono went ?_
  rintro (e | (_ | _ | _ | u)) s' h
  · obtain ⟨_, _, _, _, _, _, _, _, _, _, _, _, z⟩ := h
    exact z.elim
  · exact False.elim h
  · exact False.elim h
  · exact False.elim h
  · obtain ⟨v, H', os, bare, un, hok', r', q⟩ := h
    subst q
    obtain rfl : u = Value.bool true := r'
    refine ⟨rfl, OldK.of_keep fun b o e => ?_, os, bare⟩
    rcases hO b with z | ⟨ob, xs, z⟩
    · exact un.keep b o e z (by intro z; exact absurd (show b ∈ ([] : List Addr) from z) (by simp)) (by simp)
    · obtain ⟨e1, _⟩ := hok b _ z
      obtain ⟨e2, _⟩ := hok' b _ (un.frzs b ob _ z)
      rw [e] at e1; cases e1
      exact e2
theorem law_goes (KX : K.In s₁.heap) (hns : s₁.heap.Ns mainGlobals mg) (hb : s₁.heap.Ns builtinsNs mb) (hbb : ∀ x : Str, x ≠ "__name__" → mb x = bootBuiltins x) (hlim : s₁.heap.NoLimit) (hg : s₁.gens = #[])
    (ha : s₁.heap.get? a = some { cls := .type "list", data := .seq vs.toArray }) (hi : IntsAre vs ns) (hl : ns.length ≤ 63) (hr : RoomG k callerA)
    (F : ∀ base : Heap, K.In base → base.Ns mainGlobals mg → FnG P w K mg base k fa fd [x] lawFS) (hbind : ∀ (s : Shared) (u : Value), BindsTo s fd ⟨[u], []⟩ [(x, u)]) :
    codeAny (model P w) callerA (.call (.ref fa) ⟨[.ref a], []⟩) (fun r s' => r = .ok (.ret (.bool true)) ∧ OldK s₁.heap s'.heap ∧ s'.os = s₁.os ∧ AllBare s'.gens) s₁ := by
  have rv := vals_ints hi
  have hsz : ns.length ≤ sizeLine := Nat.le_trans hl (by decide)
  cases hk : K.lookup a with
  | some o =>
    have e := KX a o hk
    rw [ha] at e; cases e
    exact law_from (fun _ => none) (fun _ => .inl rfl) (.inr ⟨_, vs.toArray, _, hk, rfl, rfl, rfl, by rw [List.size_toArray, hi.length]; exact hsz, by simpa using rv⟩) (fun b u z => by cases z) (fun b z => absurd rfl z) (fun z => absurd rfl z) KX hns hb hbb hlim hg ha hl hr F hbind
  | none =>
    have at_a : ∀ b u, (if b = a then some (HO.frz { cls := .type "list", data := .seq vs.toArray } (.lst (ns.map V.int))) else none) = some u → b = a ∧ u = HO.frz { cls := .type "list", data := .seq vs.toArray } (.lst (ns.map V.int)) := fun b u z => by
      split at z
      · rename_i e; exact ⟨e, (Option.some.inj z).symm⟩
      · cases z
    refine law_from (fun b => if b = a then some (.frz { cls := .type "list", data := .seq vs.toArray } (.lst (ns.map V.int))) else none) (fun b => ?_) (.inl (.inr ⟨{ cls := .type "list", data := .seq vs.toArray }, if_pos rfl⟩)) (fun b u z => ?_) (fun b z => ?_) (fun _ => hk) KX hns hb hbb hlim hg ha hl hr F hbind
    · by_cases e : b = a
      · exact .inr ⟨_, _, if_pos e⟩
      · exact .inl (if_neg e)
    · obtain ⟨e1, e2⟩ := at_a b u z
      subst e1; subst e2
      exact ⟨ha, by rw [List.length_map]; exact hsz, vs, _, rv, ha⟩
    · by_cases e : b = a
      · exact e
      · exact absurd (if_neg e) z
end
end Tr

set_option maxHeartbeats 2000000
namespace Tr
open PySem L2 PySem.Spec PyProof.Rows

section
open AutoSeq1 (wpAny_loadPart')
end
section
variable {X : Cx} {T : TX X} {ρ : Rho} {C : Cells} {Q : QE} {e a b c o : Expr} {pos p apos cpos tpos : Pos} {es elts : List Expr} {d d1 d2 : D} {ds ds2 : List D} {kk : Nat}
def enumD : Nat → List D → List D
  | _, [] => []
  | n, d :: ds => .tup [.int n, d] :: enumD (n + 1) ds
end
end Tr

set_option maxHeartbeats 2000000
namespace Tr
open PySem L2 PySem.Spec PyProof.Rows

section
variable {K : W.Frag} {x qual : Str} {args : Arguments} {body : List Stmt} {scope : Scope} {f T : Addr} {oc kV doc pm cdv ct oT : Value} {od an dT : Option Addr} {osl sT : Array (Option Value)} {its : List Value} {n : Nat} {dvs : List V} {fd : FuncData} {ps : List Str}
theorem binds_all (F : FunD K x qual args body scope dvs [] f fd) (n : Nat) (hn : n = ps.length) (hd : dvs ≠ [])
    (h : ∀ (T : Addr) (kV doc pm : Value) (an : Option Addr) (cdv ct : Value) (us its : List Value), us.length = n → its.length = dvs.length →
      ∃ k, bindArgs (W.fnOf x qual args body scope (.ref T) kV doc pm an cdv ct) ⟨us, []⟩ = seqItems? (.ref T) >>= k ∧ k (some its.toArray) = pure (ps.zip us)) : Binds K fd ps [] := by
  obtain ⟨ds, h1, h2⟩ := F.binds1 (ps := ps) n dvs.length hd (by omega) fun T kV doc pm an cdv ct us its hu hi => by
    obtain ⟨k, e1, e2⟩ := h T kV doc pm an cdv ct us its hu hi
    exact ⟨k, e1, by rw [e2, List.drop_of_length_le (by omega), List.append_nil]⟩
  rw [List.drop_length] at h1
  cases h1
  exact h2
theorem kit_ref {C : Addr} {t : Value} {b : Bool} {cd : ClassData} (cl : W.clsIn K C = some cd) (ty : W.typeIn K (.ref C) = some (.type "type")) (ss : W.subIn K t (.ref C) = some b) (ne : (t == .ref C) = false) : W.kitOne K t (.ref C) = some b := by
  unfold W.kitOne
  rw [ne]
  simp only [Bool.false_eq_true, if_false]
  unfold W.kitCls
  simp only [cl, ty, ss]
  rfl
theorem kit_self {C : Addr} : W.kitOne K (.ref C) (.ref C) = some true := by
  unfold W.kitOne
  simp
theorem rep_ktup {H : Hp} {a : Addr} {vs : List V} {ds : List D} (l : K.lookup a = some ⟨.type "tuple", od, .seq its.toArray n, osl⟩) (hz : its.length ≤ 100000) (hv : Vals vs its) (r : Reps K H ds vs) : Rep K H (.tup ds) (.ref a) :=
  ⟨a, vs, rfl, .inr ⟨_, _, n, l, rfl, rfl, Nat.le_trans (by simpa using hz) (show 100000 ≤ sizeLine by decide), by simpa using hv⟩, r⟩
end
end Tr

set_option maxHeartbeats 2000000
namespace Tr
open PySem L2 PySem.Spec PyProof.Rows
theorem nn {b : Bool} (h : ¬ (!b) = true) : b = true := by cases b with | true => rfl | false => exact absurd rfl h
theorem nd {p : Prop} [Decidable p] (h : ¬ (!decide p) = true) : p := of_decide_eq_true (nn h)
section
variable {X : Cx} {T : TX X} {ρ : Rho} {C : Cells} {Q : QE} {e a b c o : Expr} {pos p apos cpos tpos : Pos} {es elts : List Expr} {d d1 d2 : D} {ds ds2 : List D} {N N' : TEnds} {st : List Stmt}
theorem WSs.mono (h : WSs T st ρ C N) (n : ∀ ρ C, N.nx ρ C → N'.nx ρ C) (r : ∀ d C, N.rt d C → N'.rt d C) (b : ∀ ρ C, N.bk ρ C → N'.bk ρ C) (c : ∀ ρ C, N.ct ρ C → N'.ct ρ C) : WSs T st ρ C N' :=
  PSs.imp h fun Dn σ H ⟨H0, at_, k⟩ => ⟨H0, at_, ⟨fun ρ' σ' C' H' H0' p cc s l q => k.nx ρ' σ' C' H' H0' p cc s l (n _ _ q), fun v d C' H' H0' p cc rr q => k.rt v d C' H' H0' p cc rr (r _ _ q),
    fun ρ' σ' C' H' H0' p cc s l q => k.bk ρ' σ' C' H' H0' p cc s l (b _ _ q), fun ρ' σ' C' H' H0' p cc s l q => k.ct ρ' σ' C' H' H0' p cc s l (c _ _ q)⟩⟩
theorem WG.mono {tg : Expr} {Q Q' : QS} (h : WG T tg d ρ C Q) (i : ∀ ρ C, Q ρ C → Q' ρ C) : WG T tg d ρ C Q' :=
  PG.imp h fun v σ H R ⟨H0, at_, r, k⟩ => ⟨H0, at_, r, fun ρ' σ' C' H' H0' p cc s l q => k ρ' σ' C' H' H0' p cc s l (i _ _ q)⟩
theorem Yields.weak {K : W.Frag} {J : It} {H0 : Hp} {P P' : Cells → Prop} (y : Yields K J H0 P ds) (i : ∀ C, P' C → P C) : Yields K J H0 P' ds :=
  ⟨fun i' H0' C H e c p hi => y.go i' H0' C H e c (i C p) hi, fun i' H0' C H e c p hi => y.stop i' H0' C H e c (i C p) hi, fun i' H0' C H x H' d e c p hd hy => y.yld i' H0' C H x H' d e c (i C p) hd hy⟩
theorem hu_G {k : Nat} {A : Around} (r : RoomG k A) : A.units + 64 < cLine := by have := r.rm.un; omega
theorem eqv_strs : ∀ xs ys : List Str, PyData.eqvAll (toPys (xs.map D.str)) (toPys (ys.map D.str)) = decide (xs = ys)
  | [], [] => rfl
  | [], y :: ys => by simp [toPys, PyData.eqvAll]
  | x :: xs, [] => by simp [toPys, PyData.eqvAll]
  | x :: xs, y :: ys => by
    have ih := eqv_strs xs ys
    rw [List.map_cons, List.map_cons]
    unfold toPys
    rw [PyData.eqvAll, ih]
    unfold toPy
    rw [PyData.eqv]
    by_cases h1 : x = y <;> by_cases h2 : xs = ys <;> simp [h1, h2]
theorem lay_strs : ∀ {xs : List Str}, (∀ x ∈ xs, PyData.strOk x = true) → PyData.canLayAll0 (toPys (xs.map D.str)) = true ∧ PyData.depthAll (toPys (xs.map D.str)) = 0
  | [], _ => ⟨rfl, rfl⟩
  | x :: xs, h => by
    obtain ⟨h1, h2⟩ := lay_strs (xs := xs) fun y hy => h y (List.mem_cons_of_mem _ hy)
    rw [List.map_cons]
    unfold toPys
    refine ⟨?_, ?_⟩
    · rw [PyData.canLayAll0, h1]
      unfold toPy
      rw [PyData.canLay0, h x List.mem_cons_self]; rfl
    · rw [PyData.depthAll, h2]
      unfold toPy
      rw [PyData.depth]; rfl
theorem shaped_lstS {xs : List Str} (h : ∀ x ∈ xs, PyData.strOk x = true) : SeqAt.shaped (.list (toPys (xs.map D.str))) = true := by
  obtain ⟨h1, h2⟩ := lay_strs h
  unfold SeqAt.shaped
  rw [PyData.canLay0, h1, PyData.depth, h2]; rfl
theorem plain_strs : ∀ xs : List Str, plainDs (xs.map D.str) = true
  | [] => rfl
  | x :: xs => by rw [List.map_cons]; unfold plainDs; rw [plain_strs xs]; rfl
theorem pyR_l (h : LstD C d ds) (hp : plainDs ds = true) : PyR C d (.list (toPys ds)) := by
  rcases h with rfl | ⟨a, rfl, hm⟩
  · exact .inl ⟨hp, rfl⟩
  · exact .inr ⟨a, ds, rfl, hm, hp, rfl⟩
section
variable {xs ys : List Str} (hu : X.A.units + 64 < cLine) (hx : ∀ x ∈ xs, PyData.strOk x = true) (hy : ∀ x ∈ ys, PyData.strOk x = true)
include hu hx hy
end
theorem eqv_ints : ∀ xs ys : List Int, PyData.eqvAll (toPys (xs.map D.int)) (toPys (ys.map D.int)) = decide (xs = ys)
  | [], [] => rfl
  | [], y :: ys => by simp [toPys, PyData.eqvAll]
  | x :: xs, [] => by simp [toPys, PyData.eqvAll]
  | x :: xs, y :: ys => by
    have ih := eqv_ints xs ys
    rw [List.map_cons, List.map_cons]
    unfold toPys
    rw [PyData.eqvAll, ih]
    unfold toPy
    rw [PyData.eqv]
    by_cases h1 : x = y <;> by_cases h2 : xs = ys <;> simp [h1, h2]
theorem lay_ints : ∀ xs : List Int, PyData.canLayAll0 (toPys (xs.map D.int)) = true ∧ PyData.depthAll (toPys (xs.map D.int)) = 0
  | [] => ⟨rfl, rfl⟩
  | x :: xs => by
    obtain ⟨h1, h2⟩ := lay_ints xs
    rw [List.map_cons]
    unfold toPys
    refine ⟨?_, ?_⟩
    · rw [PyData.canLayAll0, h1]; rfl
    · rw [PyData.depthAll, h2]; rfl
theorem plain_ints : ∀ xs : List Int, plainDs (xs.map D.int) = true
  | [] => rfl
  | x :: xs => by rw [List.map_cons]; unfold plainDs; rw [plain_ints xs]; rfl
theorem shaped_lstI (xs : List Int) : SeqAt.shaped (.list (toPys (xs.map D.int))) = true := by
  obtain ⟨h1, h2⟩ := lay_ints xs
  unfold SeqAt.shaped
  rw [PyData.canLay0, h1, PyData.depth, h2]; rfl
theorem show_strs : ∀ {xs : List Str}, (∀ x ∈ xs, PyData.strOk x = true) →
    PyData.showableAll (toPys (xs.map D.str)) = true ∧ PyData.hasDictAll (toPys (xs.map D.str)) = false ∧ PyData.intsShortAll 8 (toPys (xs.map D.str)) = true ∧ PyData.weightAll (toPys (xs.map D.str)) = (xs.map (·.length)).sum + xs.length
  | [], _ => ⟨rfl, rfl, rfl, rfl⟩
  | x :: xs, h => by
    obtain ⟨h1, h2, h3, h4⟩ := show_strs (xs := xs) fun y hy => h y (List.mem_cons_of_mem _ hy)
    rw [List.map_cons]
    unfold toPys toPy
    refine ⟨?_, ?_, ?_, ?_⟩
    · rw [PyData.showableAll, h1]; rfl
    · rw [PyData.hasDictAll, h2]; rfl
    · rw [PyData.intsShortAll, h3]; rfl
    · rw [PyData.weightAll, h4, PyData.weight, List.map_cons, List.sum_cons, List.length_cons]
      show x.length + 1 + _ = _
      omega
def cutL {α : Type} (l : List α) (lo hi : Option Int) : List α := (l.drop (HT.sIx l.length 0 lo)).take (HT.sIx l.length l.length hi - HT.sIx l.length 0 lo)
theorem cutD_map {α : Type} (f : α → D) (l : List α) (lo hi : Option Int) : cutD (l.map f) lo hi = (cutL l lo hi).map f := by
  unfold cutD cutL
  rw [List.length_map, List.map_take, List.map_drop]
theorem stp_part {K : W.Frag} {H0 H : Hp} {C C' r : Cells} (c : CellsR K H0 C H) (pm : C.Perm (C' ++ r)) : Stp H0 C H H0 C' H ∧ CellsR K H0 C' H :=
  ⟨⟨Same.refl _, fun a o h _ => h, fun a h e n => ⟨e, fun ⟨x, hx⟩ => n ⟨x, pm.mem_iff.mpr (List.mem_append_left _ hx)⟩⟩⟩, c.part pm⟩
theorem wss_part {C' r : Cells} (pm : C.Perm (C' ++ r)) (h : WSs T st ρ C' N) : WSs T st ρ C N :=
  PSs.imp h fun Dn σ H ⟨H0, at_, k⟩ => let ⟨p, c⟩ := stp_part at_.c pm; ⟨H0, at_.step p c, k.after p c⟩
end
end Tr

set_option maxHeartbeats 2000000
namespace Tr
open PySem L2 PySem.Spec PyProof.Rows
section
variable {X : Cx} {T : TX X} {ρ : Rho} {C : Cells} {Q : QE} {e a b c o : Expr} {pos p apos cpos tpos px py pz pt : Pos} {es elts : List Expr} {d d1 d2 : D} {ds ds2 : List D} {N N' : TEnds} {st : List Stmt} {x y z : Str} {kt k2 : Nat} {pt2 : Pos}
theorem ws_par (i j : Nat) (hN : X.N.Nodup) (hi : X.N[i]? = some x) (hj : X.N[j]? = some y) (hij : i ≠ j) (hx : X.env.scope.names.lookup x = some .local) (hy : X.env.scope.names.lookup y = some .local)
    (hw : swappedStores [.Tuple [.Name x px, .Name y py] kt pt] (.Tuple [a, b] k2 pt2) X.env = pure (some [x, y]))
    (h : WA T [a, b] ρ C fun ds C1 => ∃ d1 d2, ds = [d1, d2] ∧ N.nx ((ρ.set i (some d1)).set j (some d2)) C1)
    (hs : swapsWithSole [.Tuple [.Name x px, .Name y py] kt pt] (.Tuple [a, b] k2 pt2) pos.line X.env = pure false := by rfl) (hc : X.calm = true := by rfl) :
    WS T (.Assign [.Tuple [.Name x px, .Name y py] kt pt] (.Tuple [a, b] k2 pt2) pos) ρ C N :=
  PS.imp (ps_par hc hN hi hj hij hx hy h hw hs) fun Dn σ H ⟨H0, at_, k⟩ => ⟨H0, at_, fun vs ds C1 H1 H01 p1 c1 r1 ⟨d1, d2, e1, q⟩ => by
    subst e1
    obtain ⟨v, w, e2, g1, g2⟩ := r1.two
    subst e2
    have at1 := at_.step p1 c1
    refine ⟨v, w, rfl, (k.after p1 c1).nx _ _ C1 H1 H01 (Stp.refl _ _ _) c1 (SlotsR.set j (SlotsR.set i at1.s g1 at1.l) g2 (by rw [List.length_set, List.length_set]; exact at1.l)) (by simp only [List.length_set]; exact at1.l) q⟩⟩
theorem ow_ne_bl {x y : Bool} (q : Q (.bl (x != y)) C) : OW T (compareOp .NotEq) (.bl x) (.bl y) C Q :=
  ow_look (d := .bl (x != y)) op_ne (fun u v H H0 c r1 r2 => by cases r1; cases r2; exact ⟨.bl (x != y), rfl, fun R k => ⟨rfl, by
    rw [show (!decide (V.bl x = V.bl y)) = (x != y) by cases x <;> cases y <;> decide]; exact k⟩⟩) q
theorem ow_eq_bl {x y : Bool} (q : Q (.bl (x == y)) C) : OW T (compareOp .Eq) (.bl x) (.bl y) C Q :=
  ow_look (d := .bl (x == y)) op_eq (fun u v H H0 c r1 r2 => by cases r1; cases r2; exact ⟨.bl (x == y), rfl, fun R k => ⟨rfl, by
    rw [show decide (V.bl x = V.bl y) = (x == y) by cases x <;> cases y <;> decide]; exact k⟩⟩) q
theorem we_frzI (h : WE T e ρ C fun d C1 => ∃ (i : Nat) (z Cl : Addr) (ns : List Str) (ds : List D), d = .raw (.ref z) ∧ C1[i]? = some (z, .ins Cl ns ds) ∧ Q (.ins Cl ns ds) (C1.eraseIdx i)) : WE T e ρ C Q :=
  we_frz (h.mono fun d C1 ⟨i, z, Cl, ns, ds, h1, h2, h3⟩ => ⟨i, z, _, h1, h2, h3⟩)
end
end Tr

set_option maxHeartbeats 4000000
namespace Tr
open PySem L2 PySem.Spec PyProof.Rows

section
variable {prog : Program} {w : World} {A : Around} {E : Value → Shared → Prop} {R : Result → Shared → Prop} {hp : Heap} {g : Array GenState} {d : Drawn} {t : Nat} {os : OsState}
variable {nm q : Str} {C N : Addr} {bs bm bmB : List Value} {hdct : Bool} {sn : List Str} {sub : List Value} {ab : Bool} {col : Option Bool} {dd : Option Addr} {k0 k1 k2 k3 k5 : Option Value} {B newId initId : String}
structure IniF (B initId : String) : Prop where
  pl : plainId initId = true
  en : entryFor table initId = some Builtin.«BaseException.__init__»
  ki : builtinKind initId = some .slot
  ro : Manifest.signature? initId = some ⟨.positional, "*", B, .self, [⟨"args", .varPos, false⟩]⟩
  ns : (B != "*") = true
theorem IniF.of {Z nI iI : String} (F : ExcCallFacts Z nI iI) : IniF Z iI := ⟨F.init.plain, F.initEntry, F.initKind, F.initRow, F.noStar⟩
theorem chk_ini (I : IniF B initId) {M : Model} {e : Addr} {oe : Obj} {us : List Value} {Z : Unit → Shared → Prop}
    (gC : hp.get? C = some (excClassObj nm q C N bs bm hdct sn sub ab col dd k0 k1 k2 k3 k5 newId)) (ge : hp.get? e = some oe) (ec : oe.cls = .ref C) (z : Z () ⟨hp, g, d, t, os⟩) : wpAny M A (checkBoundCall initId ⟨.ref e :: us, []⟩) Z E ⟨hp, g, d, t, os⟩ := by
  have ns := I.ns
  simp only [checkBoundCall, I.ki, I.ro]
  repeat (first | (with_reducible refine wpAny_loadPart_at ge ?_; rw [ec]) | with_reducible refine wpAny_loadPart_at gC ?_ | wp_step)
  refine wpAny_onRaise ?_
  rw [show ∀ (a b : String) (n : Nat), Bind.check ⟨.positional, "*", B, .self, [⟨"args", .varPos, false⟩]⟩ a b n (List.map (fun x => x.fst) ({ pos := Value.ref e :: us } : Args).kw) = pure () from fun a b n => check_star_args _ _ _ _ _ _]
  exact wpAny_pure z
theorem call_mwI (FB : IniF B initId) {u e t0 : Addr} {rest : List Value} {Q : Value → Shared → Prop}
    (hC : hp.get? C = some (excClassObj nm q C N bs bm hdct sn sub ab col dd k0 k1 k2 k3 k5 newId)) (he : hp.get? e = some (HandSPX.excO C t0)) (hu : hp.get? u = some (W.kxs_mw initId e)) (hrest : rest.length ≤ sizeLine)
    (hq : ∀ h' t1, (∀ b o, b ≠ e → hp.get? b = some o → h'.get? b = some o) → h'.get? e = some (HandSPX.excO C t1) → Q .none ⟨h', g, d, t, os⟩) :
    wpAny (model prog w) A (call (.ref u) rest) Q E ⟨hp, g, d, t, os⟩ := by
  refine wpAny_call (codeAny_of_tree ?_)
  show wpAny _ A.in1 (callAny (.ref u) ⟨rest, []⟩) _ _ _
  simp only [callAny]
  refine wpAny_bind (wpAny_load hu ?_)
  simp only [W.kxs_mw, show (Value.type "method-wrapper" == Value.type "method" || Value.type "method-wrapper" == Value.type "builtin_function_or_method" || Value.type "method-wrapper" == Value.type "method-wrapper") = true by decide, if_true]
  refine W.KFB.if_so (by decide) ?_
  refine wpAny_bind (chk_ini FB hC he rfl ?_)
  refine wpAny_bind (wpAny_pure (wpAny_pure ?_))
  refine ⟨plainId_quiet FB.pl _, codeAny_builtin FB.en ?_⟩
  rw [Around.under_plainId FB.pl _]
  wp_walk
  refine hq _ hp.objs.size (fun b o hb ho => ?_) ?_
  · rw [Heap.get?_update_other _ _ (Ne.symm hb)]
    exact Heap.get?_push_of_some _ ho
  · rw [Heap.get?_update_self _ (Heap.get?_push_of_some _ he) rfl]
    rfl
structure NewT (Z : String) (bm : List Value) : Prop where
  b : bm.contains (.type Z) = true
  a : bm.contains (.type "AttributeError") = false
  n : bm.contains (.type "NameError") = false
theorem chk_new {nI iI : String} {bmZ : List Value} (F : ExcBaseFacts B nI iI bmZ) (H : NewT B bm) {us : List Value} {Z : Unit → Shared → Prop}
    (gC : hp.get? C = some (excClassObj nm q C N bs bm hdct sn sub ab col dd k0 k1 k2 k3 k5 nI)) (z : Z () ⟨hp, g, d, t, os⟩) : wpAny (model prog w) A (checkBuiltinCall nI ⟨.ref C :: us, []⟩) Z E ⟨hp, g, d, t, os⟩ := by
  have c1 : (Value.ref C :: bm).contains (.type B) = true := by rw [List.contains_cons, H.b, Bool.or_true]
  have c2 := F.noStar
  simp only [checkBuiltinCall, F.newKind, F.newSplit, F.newRow]
  repeat (first | refine wpAny_loadPart_at gC ?_ | (refine wpAny_isSubtype_exc gC ?_; rw [c1]) | refine wpAny_staticBase_exc gC ?_ | refine wpAny_madeBy_exc gC ?_ | simp only [bne_self_eq_false, Bool.false_eq_true, if_false] | wp_step)
  exact z
theorem new_run {nI iI : String} {bmZ : List Value} (F : ExcBaseFacts B nI iI bmZ) (H : NewT B bm) {us : List Value}
    (gC : hp.get? C = some (excClassObj nm q C N bs bm hdct sn sub ab col dd k0 k1 k2 k3 k5 nI)) (hl : us.length ≤ sizeLine)
    (z : R (.ok (.ret (.ref (hp.objs.size + 1)))) ⟨(hp.push (W.kdv_tup us)).push (HandSPX.excO C hp.objs.size), g, d, t, os⟩) : codeAny (model prog w) A (.builtin nI ⟨.ref C :: us, []⟩) R ⟨hp, g, d, t, os⟩ := by
  have e0 := F.ends
  have c1 : (Value.ref C :: bm).contains (.type B) = true := by rw [List.contains_cons, H.b, Bool.or_true]
  have c2 : (Value.ref C :: bm).contains (.type "AttributeError") = false := by rw [List.contains_cons, H.a]; rfl
  have c3 : (Value.ref C :: bm).contains (.type "NameError") = false := by rw [List.contains_cons, H.n]; rfl
  refine codeAny_builtinAt F.entry ?_
  unfold Builtin.«BaseException.__new__»
  refine _root_.PySem.wpAt_bind ?_
  show _root_.PySem.wpAt _ _ _ (stack >>= _) _ _ _
  refine _root_.PySem.wpAt_bind (_root_.PySem.wpAt_stack fun p0 b0 => _root_.PySem.wpAt_of_wpAny ?_)
  wp_walk
  refine _root_.PySem.wpAt_of_wpAny ?_
  rw [F.owner]
  repeat (first | with_reducible refine wpAny_madeHere_exc F.canon gC ?_ | with_reducible refine wpAny_loadPart_at gC ?_ | (with_reducible refine wpAny_isSubtype_exc gC ?_; first | rw [c1] | rw [c2] | rw [c3]) | wp_step)
  show R _ _
  rw [Heap.size_push]
  exact z
theorem tcall_run {nI iI : String} {bmZ : List Value} (F : ExcBaseFacts B nI iI bmZ) (H : NewT B bm) {us : List Value} {fI : Addr} {Z : Fin → Shared → Prop}
    (gC : hp.get? C = some (excClassObj nm q C N bs bm hdct sn sub ab col dd k0 k1 k2 k3 k5 nI)) (li : W.Looks (model prog w) hp (typeLookup (.ref C) "__init__") (some (.ref fI)))
    (lb : ∀ self, W.Looks (model prog w) hp (bindSpecial (.ref fI) self) (.ref fI, [self])) (hl : us.length ≤ sizeLine)
    (z : codeAny (model prog w) A (.call (.ref fI) ⟨.ref (hp.objs.size + 1) :: us, []⟩) (fun r s' => match r with | .ok (.ret v) => v = .none ∧ Z (.done (.ret (.ref (hp.objs.size + 1)))) s' | .ok _ => False | .error e => E e s')
      ⟨(hp.push (W.kdv_tup us)).push (HandSPX.excO C hp.objs.size), g, d, t, os⟩) : wpAny (model prog w) A (Builtin.«type.__call__» ⟨.ref C :: us, []⟩) Z E ⟨hp, g, d, t, os⟩ := by
  repeat (first | with_reducible refine wpAny_loadPart_at gC ?_ | with_reducible refine wpAny_madeBy_exc gC ?_ | wp_step)
  refine codeAny_call_builtin_code (Code.quiet_builtin _ F.quiet) (chk_new F H gC ?_)
  refine new_run F H gC hl ?_
  show wpAny _ _ _ _ _ _
  have kk : ∀ b o, hp.get? b = some o → ((hp.push (W.kdv_tup us)).push (HandSPX.excO C hp.objs.size)).get? b = some o := fun b o y => Heap.get?_push_of_some _ (Heap.get?_push_of_some _ y)
  have gC' := kk _ _ gC
  have ge : ((hp.push (W.kdv_tup us)).push (HandSPX.excO C hp.objs.size)).get? (hp.objs.size + 1) = some (HandSPX.excO C hp.objs.size) := by heap_get
  have cc : (Value.ref C :: bm).contains (.ref C) = true := by simp
  have i2 := li.keeps kk
  have b2 := (lb (.ref (hp.objs.size + 1))).keeps kk
  unfold isInstance
  repeat (first | with_reducible refine wpAny_loadPart_at ge ?_ | (with_reducible refine wpAny_isSubtype_exc gC' ?_; rw [cc]) | wp_step)
  show wpAny _ _ (typeLookup (.ref C) _) _ _ _
  refine i2.at ?_
  refine wpAny_holding (wpAny_bind (b2.at ?_))
  refine wpAny_bind (wpAny_call (codeAny_mono z fun r s' y => ?_))
  rcases r with er | (v | _ | _ | _) <;> first | exact y | exact y.elim | skip
  obtain ⟨rfl, y⟩ := y
  first
    | exact wpAny_pure (wpAny_pure y)
    | (wp_walk; exact y)
theorem make_run {nI iI : String} {bmZ : List Value} (F : ExcBaseFacts B nI iI bmZ) (H : NewT B bm) {us : List Value} {fI : Addr}
    (gC : hp.get? C = some (excClassObj nm q C N bs bm hdct sn sub ab col dd k0 k1 k2 k3 k5 nI)) (li : W.Looks (model prog w) hp (typeLookup (.ref C) "__init__") (some (.ref fI)))
    (lb : ∀ self, W.Looks (model prog w) hp (bindSpecial (.ref fI) self) (.ref fI, [self])) (hl : us.length ≤ sizeLine)
    (z : codeAny (model prog w) (A.under (.builtin "type.__call__" ⟨.ref C :: us, []⟩)) (.call (.ref fI) ⟨.ref (hp.objs.size + 1) :: us, []⟩) (W.InitBack (hp.objs.size + 1) R)
      ⟨(hp.push (W.kdv_tup us)).push (HandSPX.excO C hp.objs.size), g, d, t, os⟩) : codeAny (model prog w) A (.call (.ref C) ⟨us, []⟩) R ⟨hp, g, d, t, os⟩ := by
  have l1 := tc_lookup
  have l2 := tc_bind (.ref C)
  have ty : (⟨hp, g, d, t, os⟩ : Shared).TypeIs (.ref C) "type" := ⟨_, gC, rfl⟩
  refine codeAny_of_tree ?_
  show wpAny _ _ (callAny (.ref C) _) _ _ _
  repeat (any_goals (first | assumption | with_reducible refine wpAny_loadPart_at gC ?_ | wp_step))
  refine ⟨rfl, ?_⟩
  refine codeAny_call_builtin_at (Code.quiet_builtin _ (by decide +kernel)) _root_.PySem.entry_typeCall (_root_.PySem.wpAny_check_type_call_sub gC (tcall_run F H gC li lb hl ?_))
  refine codeAny_mono z fun r s' y => ?_
  rcases r with er | (v | _ | _ | _) <;> exact y
end
structure XFacts (B newId initId : String) (bmB : List Value) : Prop where
  fb : ∃ Z iI bmZ, ExcBaseFacts Z newId iI bmZ ∧ NewT Z bmB
  ini : IniF B initId
  kf : W.KxsFacts B initId
  pass : ∀ self : Value, refuseLoop self "__setattr__" bmB = pure ()
  ob : bmB.contains (.type "object") = true
theorem NewT.tail {Z : String} {bmB bm : List Value} (h : NewT Z bmB) (x : W.excTail bmB bm = true) : NewT Z bm := ⟨by rw [W.excTail_contains Z bm x]; exact h.b, by rw [W.excTail_contains _ bm x]; exact h.a, by rw [W.excTail_contains _ bm x]; exact h.n⟩
structure OexT (K : W.Frag) (C : Addr) (newId : String) (bmB : List Value) : Prop where
  cls : ∃ nm q N bs bm sn sub ab col dd k0 k1 k2 k3 k5, K.lookup C = some (excClassObj nm q C N bs bm true sn sub ab col dd k0 k1 k2 k3 k5 newId) ∧ W.excTail bmB bm = true
  st : W.findIn K (.ref C) "__setattr__" = some (some (.builtin "object.__setattr__"))
  bx : W.subIn K (.ref C) (.type "BaseException") = some true
  ty : W.typeIn K (.ref C) = some (.type "type")
  kp : W.keepIn K (.ref C) = true
section
variable {prog : Program} {w : World} {A : Around} {R : Result → Shared → Prop} {hp : Heap} {g : Array GenState} {d : Drawn} {t : Nat} {os : OsState}
open HandSPX Builtin Builtin.ObjectAttr in
theorem osaT {K : W.Frag} {nmF : Str} {tkF : Tok} {val : Value} {ex Cx' : Addr} {fvs : Array Value} {cdt : ClassData} {bmB : List Value} (kIn : K.In hp) (gx : hp.get? ex = some { cls := .ref Cx', data := .fields fvs }) (ccd : W.clsIn K Cx' = some cdt)
    (tl : W.excTail bmB cdt.mro = true) (ps : ∀ self : Value, refuseLoop self "__setattr__" bmB = pure ()) (ob : bmB.contains (.type "object") = true) (dct : cdt.hasDict = true) (no : W.findIn K (.ref Cx') nmF = some none)
    (fin : ∀ h' tk' dx, (∀ b o, b ≠ ex → hp.get? b = some o → h'.get? b = some o) → hp.objs.size ≤ dx → dx ≠ ex → h'.get? ex = some { cls := .ref Cx', dict := some dx, data := .fields fvs } → h'.Ns1 dx (fun y => if y = nmF then some val else none) → R (.ok (.ret .none)) ⟨h', g, d, tk', os⟩) :
    codeAny (model prog w) A (.call (.builtin "object.__setattr__") ⟨[.ref ex, .str nmF tkF, val], []⟩) R ⟨hp, g, d, t, os⟩ := by
  have J : W.InstAt hp ex { cls := .ref Cx', data := .fields fvs } Cx' none := ⟨gx, rfl, rfl, trivial⟩
  have hob : cdt.mro.contains (.type "object") = true := by rw [W.excTail_contains "object" _ tl]; exact ob
  have ne : cdt.mro.isEmpty = false := by
    cases e : cdt.mro with
    | nil => rw [e] at hob; cases hob
    | cons _ _ => rfl
  have nx : ex ≠ hp.objs.size := fun z => absurd (Heap.lt_size gx) (by rw [← z]; exact Nat.lt_irrefl _)
  have ro : W.mroIn K Cx' (.type "object") = some true := by unfold W.mroIn; rw [ccd, Option.bind_some, if_neg (by rw [ne]; decide), hob]
  have SO := F.store_object
  refine codeAny_call_builtin SO.slot.plain SO.entry ?_
  refine (@W.check_slot (model prog w) _ _ ⟨hp, g, d, t, os⟩ "object.__setattr__" "object" "__setattr__" (.ref ex) [.str nmF tkF, val] [] _ SO.kind SO.split (J.type.andThen (W.looks_mroIn kIn ro)) (SO.args (.ref ex) (.str nmF tkF) val) ?_)
  have l1 : W.Looks (model prog w) hp (mroOf (.ref Cx')) cdt.mro := (W.looks_clsIn kIn ccd).andThen .now
  have l2 : W.Looks (model prog w) hp (storeTaker? none) none := .now
  have l3 : W.Looks (model prog w) hp (classData Cx') cdt := W.looks_clsIn kIn ccd
  rw [W.osa_eq, refuse_eq]
  refine wpAny_bind (wpAny_bind (J.type.at (wpAny_bind (l1.at ?_))))
  rw [W.excTail_pass _ (ps _) _ tl]
  refine wpAny_pure (wpAny_bind (J.type.at (wpAny_bind ((W.looks_findIn kIn no).at (wpAny_bind (l2.at ?_))))))
  show wpAny _ _ (storeInOwnDict (.ref ex) (.ref Cx') (.str nmF tkF) nmF val false) _ _ _
  obtain ⟨a1, a2, a3, a4, a5, a6, a7, a8, a9, a10, a11⟩ := cdt
  obtain rfl : a6 = true := dct
  unfold storeInOwnDict ownDictForStores
  repeat (first | with_reducible refine store_in_new ?_ ?_ | with_reducible refine wpAny_loadPart_at gx ?_ | with_reducible refine l3.at ?_ | wp_step)
  · exact ⟨_, #[], _, (Heap.get?_update_ne _ _ _ _ nx.symm).trans (Heap.get?_push_at rfl rfl), rfl, fun e he => absurd he (by simp), fun _ => rfl⟩
  intro h' tk' hn' hs
  have gx1 : (hp.push { cls := .type "dict", data := .dict #[] }).get? ex = some { cls := .ref Cx', data := .fields fvs } := Heap.get?_push_of_some _ gx
  refine fin h' tk' hp.objs.size (fun b o hb ho => ?_) (Nat.le_refl _) nx.symm ?_ hn'
  · exact (hs.2 b fun z => absurd (Heap.lt_size ho) (by rw [z]; exact Nat.lt_irrefl _)).trans ((Heap.get?_update_ne _ _ _ _ hb).trans (Heap.get?_push_of_some _ ho))
  · exact (hs.2 ex nx).trans (Heap.get?_update_self _ gx1 rfl)
end
section
variable {prog : Program} {w : World} {A : Around} {R : Result → Shared → Prop} {hp : Heap} {g : Array GenState} {d : Drawn} {t : Nat} {os : OsState} {K : W.Frag} {mg mb : Str → Option Value}
variable {nm q : Str} {C N fI cda cc a t0 : Addr} {bs bm bmB : List Value} {sn : List Str} {sub : List Value} {ab : Bool} {col : Option Bool} {dd od an cdd cld : Option Addr} {k0 k1 k2 k3 k5 : Option Value} {B newId initId : String}
variable {name qual selfN argN fld file : Str} {params : Arguments} {body : List Stmt} {scope : Scope} {oc kV doc pm ct ccl cl v : Value} {osl ccs csl : Array (Option Value)} {vs : Array Value} {tf : Tok} {ar : Arg} {p0 p1 p2 p3 p4 p5 p6 p7 p8 p9 : Pos}
theorem sup_init (XF : XFacts B newId initId bmB) (X : K.In hp) (hg : hp.Ns mainGlobals mg) (hb : hp.Ns builtinsNs mb) (hbb : ∀ x : Str, x ≠ "__name__" → mb x = bootBuiltins x) (hlim : hp.NoLimit)
    (hC : K.lookup C = some (excClassObj nm q C N bs bm true sn sub ab col dd k0 k1 k2 k3 k5 newId)) (hm : W.excTail bmB bm = true) (sa : W.findIn K (.ref C) "__setattr__" = some (some (.builtin "object.__setattr__"))) (hno : W.findIn K (.ref C) fld = some none)
    (lf : K.lookup fI = some ⟨oc, od, .func (W.ksFn name qual params body scope .none kV doc pm an (.ref cda) ct cc), osl⟩)
    (lcd : K.lookup cda = some ⟨ccl, cdd, .fields vs, ccs⟩) (hvs : vs[2]? = some (.str file tf)) (hfile : ((prog.main.file : Str) == file) = true) (hcdin : W.codeIn K (.ref cda) qual = true)
    (lcc : K.lookup cc = some ⟨cl, cld, .cell (some (.ref C)), csl⟩) (hsup : mg "super" = none) (hks : scope.names.lookup ("super" : Str) = some .globalImplicit) (hkc : scope.names.lookup ("__class__" : Str) = some .free) (hk : scope.kind = .function)
    (hself : scope.names.lookup selfN = some .local) (harg : scope.names.lookup argN = some .local) (hne : argN ≠ selfN) (hds : (selfN == ("__debug__" : Str)) = false) (hda : (argN == ("__debug__" : Str)) = false)
    (hpar : (params.posonlyargs ++ params.args).head? = some ar) (har : ar.arg = selfN) (hcell : ∀ x ∈ scope.names, x.2 ≠ .cell) (hco : scope.isCoroutine = false) (hgen : scope.isGenerator = false)
    (hbind : ∀ s, BindsTo s (W.ksFn name qual params body scope .none kV doc pm an (.ref cda) ct cc) ⟨[.ref a, v], []⟩ [(selfN, .ref a), (argN, v)])
    (htop : (prog.main.scope.names.lookup ("super" : Str)).isSome = false) (hop : W.nsIn K cStatics "thirdparty.any" = some none) (hal : W.ks_superIn K C C "__init__" = some (some (.builtin initId))) (hBs : W.subIn K (.ref C) (.type B) = some true)
    (hbody : body = [.Expr (.Call (.Attribute (.Call (.Name "super" p0) [] [] p1) "__init__" p2) [.Name argN p3] [] p4) p5, .Assign [.Attribute (.Name selfN p6) fld p7] (.Name argN p8) p9]) (hroom : A.depth < recursionLimit)
    (hi : ∀ L, interactive (W.ksEnv qual scope L fI (.ref cda) cc) = false) (hsw1 : ∀ L, swapsWith (.Call (.Attribute (.Call (.Name "super" p0) [] [] p1) "__init__" p2) [.Name argN p3] [] p4) none p5.line (W.ksEnv qual scope L fI (.ref cda) cc) = pure false)
    (hsw2 : ∀ L, swapsWith (.Name argN p8) (some (.Attribute (.Name selfN p6) fld p7)) p9.line (W.ksEnv qual scope L fI (.ref cda) cc) = pure false)
    (pl : Addr → Sem Bool) (hev : ∀ L, eval (.Call (.Attribute (.Call (.Name "super" p0) [] [] p1) "__init__" p2) [.Name argN p3] [] p4) (W.ksEnv qual scope L fI (.ref cda) cc) = (do
      let ov ← attributeBase (.Call (.Name "super" p0) [] [] p1) "__init__" (W.ksEnv qual scope L fI (.ref cda) cc) (eval (.Call (.Name "super" p0) [] [] p1) (W.ksEnv qual scope L fI (.ref cda) cc))
      standAt p2.atName
      let (f, first) ← holding [ov] (getMethod ov "__init__" (pl L))
      callWith p4 f first (backTo p4 (starEach [.Name argN p3] (W.ksEnv qual scope L fI (.ref cda) cc))) []))
    (ha : hp.get? a = some (HandSPX.excO C t0)) (hKa : K.lookup a = none)
    (hq : ∀ h' tk' dx t1, (∀ b o, b ≠ a → hp.get? b = some o → h'.get? b = some o) → hp.objs.size ≤ dx → dx ≠ a → h'.get? a = some { cls := .ref C, dict := some dx, data := .fields #[.ref t1, .none, .none, .none, .bool false, .none] } →
      h'.Ns1 dx (fun y => if y = fld then some v else none) → R (.ok (.ret .none)) ⟨h', g, d, tk', os⟩) :
    codeAny (model prog w) A (.call (.ref fI) ⟨[.ref a, v], []⟩) R ⟨hp, g, d, t, os⟩ := by
  subst hbody
  have FB := XF.ini
  have KF := XF.kf
  have ca : W.clsIn K C = some { name := nm, bases := bs, mro := .ref C :: bm, ns := N, qualname := q, hasDict := true, slotNames := sn, subclasses := sub, abstract := ab, collection := col, hasDel := false } := by unfold W.clsIn; rw [hC] <;> rfl
  refine PySem.ks_codeAny_call_defAt (fd := W.ksFn name qual params _ scope .none kV doc pm an (.ref cda) ct cc) (binds := [(selfN, .ref a), (argN, v)]) hroom (X _ _ lf) rfl hlim (W.codeRec_of X hcdin) rfl (hbind _) hcell ?_ (fun h₁ hns hk₁ => ?_) hco hgen hk
  · intro x hx
    rcases List.mem_cons.mp hx with rfl | hx
    · exact hself
    · rw [List.mem_singleton.mp hx]; exact harg
  have X₁ : K.In h₁ := X.keeps hk₁
  have hs1 : (([(selfN, Value.ref a), (argN, v)] : List (Str × Value)).reverse.lookup selfN) = some (.ref a) := by
    show List.lookup selfN [(argN, v), (selfN, Value.ref a)] = _
    rw [List.lookup_cons, show (selfN == argN) = false from by simpa using Ne.symm hne, List.lookup_cons, beq_self_eq_true]
  have hs2 : (([(selfN, Value.ref a), (argN, v)] : List (Str × Value)).reverse.lookup argN) = some v := by
    show List.lookup argN [(argN, v), (selfN, Value.ref a)] = _
    rw [List.lookup_cons, beq_self_eq_true]
  refine PySem.ks_wpAt_execs_cons ?_
  show _root_.PySem.wpAt _ _ _ (exec _ (W.ksEnv qual scope hp.objs.size fI (.ref cda) cc)) _ _ _
  refine PySem.ks_wpAt_Expr_any (PySem.ks_wpAt_MethodCall (pl := pl hp.objs.size) ?_ (hev _)) (hi _) (hsw1 _)
  have ha₁ : h₁.get? a = some (HandSPX.excO C t0) := hk₁ _ _ ha
  have I₁ : W.InstAt h₁ a (HandSPX.excO C t0) C none := ⟨ha₁, rfl, rfl, trivial⟩
  obtain ⟨hf1, hf2⟩ : (∃ oD, h₁.get? C = some oD ∧ oD.data = .cls { name := nm, bases := bs, mro := .ref C :: bm, ns := N, qualname := q, hasDict := true, slotNames := sn, subclasses := sub, abstract := ab, collection := col, hasDel := false }) ∧ True := ⟨⟨_, X₁ _ _ hC, rfl⟩, trivial⟩
  obtain ⟨oD, hD1, hD2⟩ := hf1
  have hsubC : W.mroIn K C (.ref C) = some true := by
    unfold W.mroIn
    rw [ca]
    simp
  refine PySem.ks_wpAt_super_base (env := W.ksEnv qual scope hp.objs.size fI (.ref cda) cc) hks hkc (by decide) rfl (X₁ _ _ lf) rfl hpar rfl (X₁ _ _ lcd) rfl hvs hfile htop ?_
  refine W.ks_loadName_global hk hks (Calls.loadGlobal_builtin (env := W.ksEnv qual scope hp.objs.size fI (.ref cda) cc) (hg.keeps hk₁) hsup (hb.keeps hk₁) ((hbb _ (by decide +kernel)).trans (by decide +kernel)) ⟨rfl, ?_⟩)
  refine wpAny_loadName_free hk hkc rfl ⟨_, X₁ _ _ lcc, rfl⟩ ?_
  rw [har]
  refine wpAny_loadName_local hk hself hns hs1 ?_
  refine ks_wpAny_isType_cls hD1 hD2 ⟨rfl, ?_⟩
  refine ks_wpAny_call_super hD1 hD2 ha₁ rfl (fun c e => by cases e) (W.looks_mroIn X₁ hsubC) (fun h₂ e₂ k₂ => ?_)
  have X₂ : K.In h₂ := X₁.keeps k₂
  have ha₂ := k₂ _ _ ha₁
  have I₂ : W.InstAt h₂ a (HandSPX.excO C t0) C none := ⟨ha₂, rfl, rfl, trivial⟩
  have hal' := hal
  unfold W.ks_superIn at hal'
  rw [ca] at hal'
  have mroL : ∀ {h : Heap}, K.In h → W.Looks (model prog w) h (mroOf (.ref C)) (.ref C :: bm) := fun Xh => (W.looks_clsIn Xh ca).andThen .now
  refine W.kxs_getMethod KF e₂ (W.looks_opaque X₂ hop) (mroL X₂) rfl X₂ hal' (I₂.type.andThen (W.looks_subIn X₂ hBs)) (W.ks_ne X₂ I₂ ca) rfl ?_
  have k₃ : ∀ y o, h₂.get? y = some o → (h₂.push (W.kxs_mw initId a)).get? y = some o := fun y o e => Heap.get?_push_of_some _ e
  have hu : (h₂.push (W.kxs_mw initId a)).get? h₂.objs.size = some (W.kxs_mw initId a) := Heap.get?_push_at rfl rfl
  have hns₃ := (hns.keeps k₂).keeps k₃
  refine W.kxs_callWith (i := initId) (x := a) (by rfl) (Calls.evalArgs_plain (Calls.spliced_cons (wpAny_Name (wpAny_loadName_local hk harg hns₃ hs2 (Calls.spliced_nil ⟨hu, ?_⟩)) hda)))
  refine call_mwI FB (X₂.keeps k₃ _ _ hC) (k₃ _ _ ha₂) hu (by show 1 ≤ sizeLine; decide) (fun h₄ t1 k₄ ha₄ => ?_)
  have nC : C ≠ a := fun z => by
    have e1 := X _ _ hC
    rw [z, ha] at e1
    cases e1
  have keepAll : ∀ b o, b ≠ a → hp.get? b = some o → h₄.get? b = some o := fun b o nb e => k₄ b o nb (k₃ _ _ (k₂ _ _ (hk₁ _ _ e)))
  have hL : hp.objs.size ≠ a := Ne.symm (Nat.ne_of_lt (Heap.lt_size ha))
  have X₄ : K.In h₄ := fun b o e => keepAll b o (fun z => by rw [z, hKa] at e; cases e) (X _ _ e)
  obtain ⟨oL, esL, epL, hoL, rL⟩ := hns₃
  have hns₄ : h₄.Ns hp.objs.size fun x => ([(selfN, Value.ref a), (argN, v)] : List (Str × Value)).reverse.lookup x := ⟨oL, esL, epL, k₄ _ _ hL hoL, rL⟩
  have sz₄ : hp.objs.size ≤ h₄.objs.size := Nat.le_of_lt (Heap.lt_size (k₄ _ _ hL hoL))
  show _root_.PySem.wpAt _ _ _ (execs _ (W.ksEnv qual scope hp.objs.size fI (.ref cda) cc)) _ _ _
  refine PySem.ks_wpAt_execs_cons (PySem.ks_wpAt_Assign_Attr (wpAt_of_wpAny (wpAny_Name (wpAny_loadName_local hk harg hns₄ hs2 (wpAny_Name (wpAny_loadName_local hk hself hns₄ hs1 ?_) hds)) hda)) (hsw2 _))
  refine W.set_plain X₄ (ox := HandSPX.excO C t1) (od := none) ⟨ha₄, rfl, rfl, trivial⟩ sa ?_
  refine osaT X₄ ha₄ ca (show W.excTail bmB (.ref C :: bm) = true from hm) XF.pass XF.ob rfl hno (fun h' tk' dx k₅ dn dne hx hn => ?_)
  show _root_.PySem.wpAt _ _ _ (execs [] (W.ksEnv qual scope hp.objs.size fI (.ref cda) cc)) _ _ _
  refine wpAt_of_wpAny ?_
  show wpAny _ _ (pure Flow.next) _ _ _
  refine wpAny_pure ?_
  exact hq h' tk' dx t1 (fun b o nb e => k₅ b o nb (keepAll b o nb e)) (Nat.le_trans sz₄ dn) dne hx hn
end
def SupRun (prog : Program) (K : W.Frag) (mg : Str → Option Value) (C fI : Addr) (fld : Str) : Prop :=
  ∀ (w : World) (A : Around) (R : Result → Shared → Prop) (hp : Heap) (g : Array GenState) (d : Drawn) (t : Nat) (os : OsState) (mb : Str → Option Value) (a t0 : Addr) (v : Value),
    K.In hp → hp.Ns mainGlobals mg → hp.Ns builtinsNs mb → (∀ x : Str, x ≠ "__name__" → mb x = bootBuiltins x) → hp.NoLimit → A.depth < recursionLimit → hp.get? a = some (HandSPX.excO C t0) → K.lookup a = none →
    (∀ h' tk' dx t1, (∀ b o, b ≠ a → hp.get? b = some o → h'.get? b = some o) → hp.objs.size ≤ dx → dx ≠ a → h'.get? a = some { cls := .ref C, dict := some dx, data := .fields #[.ref t1, .none, .none, .none, .bool false, .none] } →
      h'.Ns1 dx (fun y => if y = fld then some v else none) → R (.ok (.ret .none)) ⟨h', g, d, tk', os⟩) →
    codeAny (model prog w) A (.call (.ref fI) ⟨[.ref a, v], []⟩) R ⟨hp, g, d, t, os⟩
section
variable {X : Cx} {C fI : Addr} {x fld : Str} {e : Expr} {te : TE} {p pos : Pos} {k : Nat}
theorem roomH_make {k : Nat} {A : Around} (r : L2H.RoomH (k + 1) A) (C : Addr) (us : List Value) (kw : List (Str × Value)) : L2H.RoomH k (A.under (.builtin "type.__call__" ⟨.ref C :: us, kw⟩)) :=
  ⟨by have := r.dp; rw [L2.make_depth]; omega, by have := r.un; rw [L2.make_units]; omega⟩
theorem pmk_sup {B newId initId : String} {bmB : List Value} (XF : XFacts B newId initId bmB) (Tc : OexT X.K C newId bmB) (iC : W.findIn X.K (.ref C) "__init__" = some (some (.ref fI))) (tI : W.typeIn X.K (.ref fI) = some (.type "function")) (S : SupRun X.prog X.K X.mg C fI fld) (hr : L2H.RoomH (k + 1) X.A) (hg : Gl X x) (hm : X.mg x = some (.ref C)) (he : PE X e te)
    (hs : starEach [e] X.env = (false, eval e X.env) :: starEach [] X.env := by rfl) (hdb : (x == ("__debug__" : Str)) = false := by decide) :
    L2H.PMk5 X (.Call (.Name x p) [e] [] pos) (fun σ H Q => te σ H fun y H1 => ∀ dx, H1 dx = none → Q (.ref C) (some dx) (upd H1 dx (.xd [(fld, y)]))) := by
  intro pins s σ H Q I h
  obtain ⟨nm, q, N, bs, bm, sn, sub, ab, col, dd, k0, k1, k2, k3, k5, hC, hbm⟩ := Tc.cls
  obtain ⟨Z, iI, bmZ, FB, NT⟩ := XF.fb
  refine wpAny_Call_Name_kw (ld_glob I hg hm ?_ hdb)
  refine W.callWith_K (h₀ := X.base) I.ok.mod.kin Tc.kp ?_ hs (by rfl)
  rw [hs]
  show wpAny _ _ (spliced ((false, eval e X.env) :: backTo pos (starEach [] X.env))) _ _ s
  refine Calls.spliced_cons (thn (he.run pins s σ H _ I h) fun u s1 ⟨y, H1, I1, ry, q1⟩ => ?_)
  refine Calls.spliced_nil ⟨I1.kIn, ?_⟩
  show wpAny _ _ (call (.ref C) [u]) _ _ _
  obtain ⟨hp, g, dr, tk, os⟩ := s1
  have kk : ∀ b o, hp.get? b = some o → ((hp.push (W.kdv_tup [u])).push (HandSPX.excO C hp.objs.size)).get? b = some o := fun b o e => Heap.get?_push_of_some _ (Heap.get?_push_of_some _ e)
  have hget : ((hp.push (W.kdv_tup [u])).push (HandSPX.excO C hp.objs.size)).get? (hp.objs.size + 1) = some (HandSPX.excO C hp.objs.size) := by heap_get
  have gone : hp.get? (hp.objs.size + 1) = none := by
    cases e1 : hp.get? (hp.objs.size + 1) with
    | none => rfl
    | some o => exact absurd (Heap.lt_size e1) (Nat.not_lt.mpr (Nat.le_succ _))
  have hKa : X.K.lookup (hp.objs.size + 1) = none := by
    cases e1 : X.K.lookup (hp.objs.size + 1) with
    | none => rfl
    | some o =>
      have e2 := I1.kIn _ _ e1
      rw [gone] at e2; cases e2
  obtain ⟨mb, b1, b2⟩ := I1.mod.blt
  refine wpAny_call (make_run FB (NT.tail hbm) (I1.kIn _ _ hC) (W.looks_findIn I1.kIn iC) (fun self => W.bind_fn I1.kIn self tI) (by show 1 ≤ sizeLine; decide) ?_)
  refine S _ _ _ _ _ _ _ _ mb (hp.objs.size + 1) hp.objs.size u (I1.kIn.keeps kk) ((I1.mod.glob.keeps I1.bk).keeps kk) ((b1.keeps I1.bk).keeps kk) b2 ((I1.mod.nolimit.keeps I1.bk).keeps kk) ((roomH_make hr C [u] []).depth) hget hKa (fun h' tk' dx t1 keep sz ne ha' hn => ?_)
  have szdx : hp.objs.size ≤ dx := Nat.le_trans (show hp.objs.size ≤ ((hp.push (W.kdv_tup [u])).push (HandSPX.excO C hp.objs.size)).objs.size by rw [Heap.size_push, Heap.size_push]; exact Nat.le_add_right _ 2) sz
  have ndx : H1 dx = none := I1.hok.fresh szdx
  obtain ⟨G, g1, g2⟩ := restrict h' fun b => decide (b ≠ hp.objs.size + 1)
  have gk : ∀ b, b ≠ hp.objs.size + 1 → G.get? b = h'.get? b := fun b hb => g1 b (decide_eq_true hb)
  have ge : G.get? (hp.objs.size + 1) = none := g2 _ (by simp)
  have gg : ∀ b o, G.get? b = some o → h'.get? b = some o := fun b o e => by
    by_cases hb : b = hp.objs.size + 1
    · rw [hb, ge] at e; cases e
    · rw [← gk b hb]; exact e
  have ka : ∀ b o, hp.get? b = some o → G.get? b = some o := fun b o e => by
    have nb : b ≠ hp.objs.size + 1 := fun z => by rw [z, gone] at e; cases e
    rw [gk b nb]
    exact keep b o nb (kk b o e)
  obtain ⟨oD, esD, epD, hD1, hD2, hD3⟩ := hn
  have I2 : Inv X pins σ (upd H1 dx (.xd [(fld, y)])) ⟨G, g, dr, tk', os⟩ := I1.laid (t' := tk') (a := dx) (o := .xd [(fld, y)]) (h' := G) ka szdx
    ⟨_, ⟨oD, esD, epD, by rw [gk dx ne]; exact hD1, hD2, hD3⟩, relO_put (fs := []) ry fun _ => True.intro⟩
  refine ⟨rfl, ⟨hp.objs.size + 1, _, _, ⟨G, g, dr, tk', os⟩, _, .ref C, some dx, rfl, I2, gg, ge, ha', ⟨rfl, rfl, fun vs e => by cases e; rfl⟩, rfl, rfl, by rw [upd_ne (Ne.symm ne)]; exact I1.hok.fresh (Nat.le_succ _), rfl, I1.bare, raises_own Tc.bx Tc.ty, q1 dx ndx⟩, fun a2 oe2 vs2 e1 e2 e3 => ?_⟩
  cases e1
  have e4 : some oe2 = some _ := e2.symm.trans ha'
  cases e4
  cases e3
  show (4 : Nat) < 6
  decide
end
structure XCls (prog : Program) (K : W.Frag) (mg : Str → Option Value) (C : Addr) (fld : Str) : Prop where
  o : ∃ B newId initId bmB, XFacts B newId initId bmB ∧ OexT K C newId bmB
  ex : ∃ fI, W.findIn K (.ref C) "__init__" = some (some (.ref fI)) ∧ W.typeIn K (.ref fI) = some (.type "function") ∧ SupRun prog K mg C fI fld
section
variable {X : Cx} {T : TX X} {ρ : Rho} {C : Cells} {N : TEnds} {e : Expr} {p pos pos' : Pos} {x fld : Str} {Cl : Addr} {k : Nat}
theorem ws_raise (hx : XCls X.prog X.K X.mg Cl fld) (hr : RoomG (k + 1) X.A) (hg : Gl X x) (hm : X.mg x = some (.ref Cl)) (h : WE T e ρ C fun d C1 => T.XQ (.ref Cl) (some ([fld], [d])) ρ C1)
    (hs : starEach [e] X.env = (false, eval e X.env) :: starEach [] X.env := by rfl) (hdb : (x == ("__debug__" : Str)) = false := by decide) (hc : X.calm = true := by rfl) :
    WS T (.Raise (some (.Call (.Name x p) [e] [] pos)) none pos') ρ C N := by
  obtain ⟨fI, i1, i2, S⟩ := hx.ex
  obtain ⟨B, newId, initId, bmB, XF, Ox⟩ := hx.o
  refine PS.imp (ps_raiseX hc T.tk (pmk_sup XF Ox i1 i2 S (L2H.roomH_of hr.rm) hg hm h hs hdb).pmk) fun Dn σ H ⟨H0, at_, _⟩ => ⟨H0, at_, fun v d C1 H1 H01 p1 c1 r1 q dx hdx => ?_⟩
  obtain ⟨p2, c2⟩ := stp_new (o := .xd [(fld, v)]) c1 hdx
  have a2 := (at_.step p1 c1).step p2 c2
  exact ⟨some ([fld], [d]), ρ, C1, _, a2.a, a2.c, a2.s, a2.l, ⟨[v], upd_same, rfl, Reps.cons (r1.mono p2.base) Reps.nil⟩, q⟩
end
theorem xf_ValueError : XFacts "ValueError" "ValueError.__new__" "ValueError.__init__" [.type "ValueError", .type "Exception", .type "BaseException", .type "object"] := ⟨⟨_, _, _, PySem.F.excBase_ValueError, by decide +kernel, by decide +kernel, by decide +kernel⟩, .of PySem.F.excBase_ValueError.toExcCallFacts, W.kxs_ValueError, fun self => F.store_ValueError.passes self, by decide +kernel⟩
end Tr

set_option maxHeartbeats 4000000
namespace Tr
open PySem L2 PySem.Spec PyProof.Rows

theorem ExcR.step {K : W.Frag} {H0 H H0' H' : Hp} {C C' : Cells} {d : Option Addr} {fs : XF} (h : ExcR K H0 H d fs) (c : CellsR K H0 C H) (p : Stp H0 C H H0' C' H') : ExcR K H0' H' d fs := by
  cases d with
  | none => cases fs with
    | none => exact True.intro
    | some f => exact h
  | some dd => cases fs with
    | none => exact h
    | some f =>
      obtain ⟨ns, ds⟩ := f
      obtain ⟨vs, h1, h2, h3⟩ := h
      refine ⟨vs, p.fr dd _ h1 fun ⟨x, hx⟩ => ?_, h2, h3.mono p.base⟩
      have ok := c.ok dd x hx
      cases x with
      | lst ds => obtain ⟨_, e, _⟩ := ok; rw [h1] at e; cases e
      | dK ks ds => obtain ⟨_, e, _⟩ := ok; rw [h1] at e; cases e
      | ins Cl ns ds => obtain ⟨_, _, e, _⟩ := ok; rw [h1] at e; cases e
section
variable {X : Cx} {T : TX X} {ρ : Rho} {C : Cells} {N : TEnds} {Q : QE} {e : Expr} {pos pos' np : Pos} {x n : Str} {c : Value} {i : Nat} {body suite : List Stmt} {b₀ : Stmt} {XQ' : Value → XF → Rho → Cells → Prop}
def tbT (T : TX X) (XQ' : Value → XF → Rho → Cells → Prop) (ρ : Rho) (C : Cells) (N : TEnds) (W : WX) : TS := fun D σ H => ∃ H0, At T H0 ρ C σ H ∧ Tail X H0 C H N D ∧
  ∀ cls d σ' H' fs ρ' C' H0', Stp H0 C H H0' C' H' → CellsR X.K H0' C' H' → SlotsR X.K H0' ρ' σ' → ρ'.length = σ'.length → ExcR X.K H0' H' d fs → XQ' cls fs ρ' C' → W cls d σ' H'
def tsT (X : Cx) (st : List Stmt) (a : Addr) (cls : Value) (d : Option Addr) : TS := fun D σ H => ∃ (fs : XF) (ρ' : Rho) (C' : Cells) (H0' : Hp) (N' : TEnds), CellsR X.K H0' C' H ∧ SlotsR X.K H0' ρ' σ ∧ ρ'.length = σ.length ∧ ExcR X.K H0' H d fs ∧ Tail X H0' C' H N' D ∧
  ∀ (oe : Obj) (pn : List (Addr × Obj)) (T' : TX (X.suite a ((a, oe) :: pn))), Zc cls d oe → (∃ vs, oe.data = .fields vs) → (∀ H0 C H, T'.A H0 C H → ExcR X.K H0 H d fs) → WSs T' st ρ' C' N'
theorem ws_try (hs : X.stack = X.env :: X.outer) (hf : X.env.frame = some X.env.locals) (hN : X.N.Nodup) (hi : X.N[i]? = some n) (hln : X.env.kindOf n = some .local) (hc : Names X x c) (XQ' : Value → XF → Rho → Cells → Prop)
    (hb : ∀ (pn : List (Addr × Obj)) (xe : Value → Shared → Prop) (T' : TX (X.tr pn xe)), T'.XQ = XQ' → WSs T' body ρ C N)
    (hh : ∀ cls fs ρ' C', XQ' cls fs ρ' C' → ∃ b, W.exmOne X.K cls c = some b ∧ (b = false → T.XQ cls fs ρ' C') ∧
      (b = true → ∀ (a : Addr) (oe : Obj) (d : Option Addr) (pn : List (Addr × Obj)) (T' : TX (X.suite a ((a, oe) :: pn))), Zc cls d oe → (∃ vs, oe.data = .fields vs) → (∀ H0 C H, T'.A H0 C H → ExcR X.K H0 H d fs) →
        WSs T' (b₀ :: suite) (ρ'.set i (some (.raw (.ref a)))) C' { nx := fun ρ C => N.nx (ρ.set i none) C, rt := N.rt, bk := fun ρ C => N.bk (ρ.set i none) C, ct := fun ρ C => N.ct (ρ.set i none) C })) :
    WS T (.Try body [.ExceptHandler (some (.Name x np)) (some n) (b₀ :: suite) pos'] [] [] pos) ρ C N := by
  refine PS.imp (ps_tryX_as (ts := tsT X (b₀ :: suite)) (tb := tbT T XQ' ρ C N) hs hf hN hi hln hc (fun hd => T.pas _ _ (SameStack.mark _ _)) T.tk (fun W pn xe tkW pass pas => ⟨fun pins s σ H D I ⟨H0, at_, k, imp⟩ => ?_⟩) (fun a oe cls d pn xe m ve hz hfl mem tied tkS pasS => pss_lift mem ⟨fun pins s σ H D I ⟨fs, ρ', C', H0', N', cc, sl, l, ex, k, w⟩ => ?_⟩)) fun D σ H ⟨H0, at_, k⟩ => ⟨H0, at_, k, fun cls d σ' H' fs ρ' C' H0' p cc s l ex xq => ?_⟩
  · have T' : TX (X.tr pn xe) := { A := fun H0' C' H' => Stp H0 C H H0' C' H', up := fun a c p _ => a.trans c p, XQ := XQ', tk := tkW.imp fun cls d σ' H' ⟨fs, ρ', C', H0', a, c, s, l, ex, q⟩ => imp cls d σ' H' fs ρ' C' H0' a c s l ex q, pass := pass, pas := pas }
    exact (hb pn xe { A := fun H0' C' H' => Stp H0 C H H0' C' H', up := fun a c p _ => a.trans c p, XQ := XQ', tk := tkW.imp fun cls d σ' H' ⟨fs, ρ', C', H0', a, c, s, l, ex, q⟩ => imp cls d σ' H' fs ρ' C' H0' a c s l ex q, pass := pass, pas := pas } rfl).run pins s σ H D I ⟨H0, ⟨Stp.refl _ _ _, at_.c, at_.s, at_.l⟩, ⟨k.nx, k.rt, k.bk, k.ct⟩⟩
  · exact (w oe pn { A := fun H0 _ H => ExcR X.K H0 H d fs, up := fun h c p _ => h.step c p, XQ := fun _ _ _ _ => False, tk := fun u s' ⟨_, _, _, _, _, _, _, _, _, _, _, _, _, _, _, _, w⟩ => (let ⟨_, _, _, _, _, _, _, _, _, q⟩ := w; q), pass := PassesOwn.never, pas := fun _ _ _ => PassesOwnAt.never } hz ⟨ve, hfl⟩ fun _ _ _ h => h).run pins s σ H D I ⟨H0', ⟨ex, cc, sl, l⟩, ⟨k.nx, k.rt, k.bk, k.ct⟩⟩
  · obtain ⟨b, h1, h2, h3⟩ := hh cls fs ρ' C' xq
    refine ⟨b, h1, fun hb1 a ha => ?_, fun hb0 => ⟨fs, ρ', C', H0', T.up at_.a at_.c p cc, cc, s, l, ex, h2 hb0⟩⟩
    have k' := k.after p cc
    have un : ∀ {Q : QS} {R : L2.St → Hp → Prop}, ContS X H0' C' H' Q R → ContS X H0' C' H' (fun ρ C => Q (ρ.set i none) C) (fun σ H => R (σ.set i none) H) := fun kk ρ1 σ1 C1 H1 H01 p1 c1 s1 l1 q1 =>
      kk _ _ C1 H1 H01 p1 c1 (SlotsR.unset i s1) (by rw [List.length_set, List.length_set]; exact l1) q1
    exact ⟨fs, ρ'.set i (some (.raw (.ref a))), C', H0', { nx := fun ρ C => N.nx (ρ.set i none) C, rt := N.rt, bk := fun ρ C => N.bk (ρ.set i none) C, ct := fun ρ C => N.ct (ρ.set i none) C }, cc, SlotsR.set i s rfl l, by rw [List.length_set, List.length_set]; exact l, ex, ⟨un k'.nx, k'.rt, un k'.bk, un k'.ct⟩, fun oe pn T' hz hfl hA => h3 hb1 a oe d pn T' hz hfl hA⟩
end
section
variable {X : Cx} {a Cl : Addr} {oe : Obj} {d : Option Addr} {pn : List (Addr × Obj)} {T' : TX (X.suite a ((a, oe) :: pn))} {ρ : Rho} {C : Cells} {Q : QE} {e : Expr} {pos : Pos} {n : Str} {ns : List Str} {ds : List D}
theorem we_xf (Tx : XfC X.K Cl) (hno : W.findIn X.K (.ref Cl) n = some none) (hz : Zc (.ref Cl) d oe) (hfl : ∃ vs, oe.data = .fields vs) (hA : ∀ H0 C H, T'.A H0 C H → ExcR X.K H0 H d (some (ns, ds)))
    (h : WE T' e ρ C fun d1 C1 => d1 = .raw (.ref a) ∧ ∃ y, (ns.zip ds).lookup n = some y ∧ Q y C1) (hb : attributeBase e n X.env (eval e X.env) = eval e X.env := by rfl) : WE T' (.Attribute e n pos) ρ C Q :=
  PE.imp (pe_xf Tx hno hz hfl h hb) fun σ H R ⟨H0, at_, k⟩ => ⟨H0, at_, fun v d1 C1 H1 H01 p1 c1 r1 ⟨e1, y, hl, q⟩ => by
    subst e1
    have at1 := at_.step p1 c1
    have ex := hA _ _ _ at1.a
    cases d with
    | none => exact ex.elim
    | some dd =>
      obtain ⟨vs, h1, h2, h3⟩ := ex
      obtain ⟨v', g1, g2⟩ := lookup_zip h3 h2 hl
      exact ⟨r1, rfl, dd, _, v', rfl, h1, g1, k v' y C1 H1 H01 p1 c1 g2 q⟩⟩
end
section
variable {X : Cx} {a Cl : Addr} {oe : Obj} {d : Option Addr} {pn : List (Addr × Obj)} {T' : TX (X.suite a ((a, oe) :: pn))} {ρ : Rho} {C : Cells} {Q : QE} {e c : Expr} {p pos : Pos} {fs : XF}
theorem call_isX (G : ExcC X.K Cl) (hz : Zc (.ref Cl) d oe) (hf : ∃ vs, oe.data = .fields vs) : CallR (X.suite a ((a, oe) :: pn)) (.builtin "isinstance")
    (fun xs H Q => ∃ (c : V) (cv : Value) (b : Bool), xs = [.ref a, c] ∧ ClsV c cv ∧ W.kitOne X.K (.ref Cl) cv = some b ∧ (∀ dd, d = some dd → ∃ gs, H dd = some (.xd gs)) ∧ Q (.bl b) H) := by
  intro pins s σ H xs us Q I r h
  obtain ⟨c, cv, b, rfl, hcv, e, hd, q⟩ := h
  obtain ⟨u1, u2, rfl, r1, r2⟩ := vals2 r
  cases (show u1 = Value.ref a from r1)
  have ec := hcv.eq r2
  subst ec
  obtain ⟨hget, _⟩ := I.pin (a, oe) (List.mem_append.mpr (.inl List.mem_cons_self))
  obtain ⟨vs, hv⟩ := hf
  obtain ⟨oc, od, oda, osl⟩ := oe
  obtain ⟨h1, h2⟩ := hz
  dsimp only at h1 h2 hv
  subst h1 h2 hv
  obtain ⟨ob, J⟩ : ∃ ob, W.InstAt s.heap a ⟨.ref Cl, od, .fields vs, osl⟩ Cl ob := by
    cases od with
    | none => exact ⟨none, hget, rfl, rfl, trivial⟩
    | some dd =>
      obtain ⟨gs, hg⟩ := hd dd rfl
      have hx : ObjOk X.prog X.w H s.heap dd (.xd gs) := I.hok dd _ hg
      obtain ⟨mA, hns, _⟩ := hx
      obtain ⟨ob, ho, _⟩ := lookIn_ns hns
      exact ⟨some ob, hget, rfl, rfl, ho⟩
  exact W.kia_one (W.kitx_exc (by obtain ⟨cd, hc, _⟩ := PySem.W.any_some G.hd; rw [hc]; rfl) G.hg G.hk G.hs G.ha G.hn G.ht G.hm) I.kIn J e (fun z => nomatch z) fun tk => ⟨.bl b, H, I.tok tk, rfl, q⟩
end
end Tr

set_option maxHeartbeats 4000000
namespace Tr
open PySem L2 PySem.Spec PyProof.Rows
section
variable {X : Cx} {T : TX X} {ρ : Rho} {C : Cells} {N : TEnds} {st : Stmt}
theorem kit_tyF {K : W.Frag} {C : Addr} {U : String} {b : Bool} (ss : W.subIn K (.ref C) (.type U) = some b) (m : W.kitMeta U = true) : W.kitOne K (.ref C) (.type U) = some b := by
  unfold W.kitOne
  rw [if_neg (by intro h; cases h)]
  unfold W.kitCls
  simp only [m, ss]
  rfl
theorem cutL_to {α : Type} {l : List α} {k : Int} (h0 : 0 ≤ k) : cutL l none (some k) = l.take k.toNat := by
  obtain ⟨n, rfl⟩ := Int.eq_ofNat_of_zero_le h0
  unfold cutL
  rw [HT.sIx_nat, HT.sIx_none, Int.toNat_natCast]
  simp
theorem cutL_from {α : Type} {l : List α} {k : Int} (h0 : 0 ≤ k) : cutL l (some k) none = l.drop k.toNat := by
  obtain ⟨n, rfl⟩ := Int.eq_ofNat_of_zero_le h0
  unfold cutL
  rw [HT.sIx_nat, HT.sIx_none, Int.toNat_natCast]
  by_cases h : n ≤ l.length
  · rw [Nat.min_eq_left h, List.take_of_length_le (by simp)]
  · rw [Nat.min_eq_right (by omega)]
    simp [List.drop_eq_nil_of_le (show l.length ≤ n by omega)]
end
end Tr

set_option maxHeartbeats 4000000
namespace Tr
open PySem L2 PySem.Spec PyProof.Rows
section
variable {X : Cx} {T : TX X} {ρ : Rho} {C : Cells} {Q : QE} {e a o : Expr} {es rest : List Expr} {pos apos p : Pos} {v1 v2 : Expr}

theorem pi_seq {tg l : Expr} {tl : TE} (hl : PE X l tl) : PI X tg l (fun σ H R => tl σ H fun x H1 => ∃ a xs, x = .ref a ∧ ((SqL X.K H1 a xs ∧ R (Itl X.K a) H1) ∨ (SqT X.K H1 a xs ∧ R (Itt X.K a) H1))) := by
  refine ⟨fun pins s σ H R I h => ?_⟩
  refine thn (hl.run pins s σ H _ I h) fun v s1 ⟨x, H1, I1, r1, a, xs, e, q1⟩ => ?_
  subst e
  cases r1
  have fpk : ∀ b ∈ [s1.heap.objs.size], FpOk X pins H1 b := fun b hb => by
    have e : b = s1.heap.objs.size := by simpa using hb
    subst e
    exact I1.fpOk (Nat.le_refl _) (I1.hok.fresh (Nat.le_refl _))
  rcases q1 with ⟨hq, q⟩ | ⟨hq, q⟩
  · obtain ⟨its, rv, p, hz⟩ := I1.list hq
    refine wpAny_pyIter_list p.isList ?_
    exact ⟨s1.heap.objs.size, [s1.heap.objs.size], _, _, H1, rfl, I1.kept (t' := s1.toks) fun b o e => Heap.get?_push_of_some _ e, turn_list a _, ⟨_, Heap.get?_push_size _ rfl, rfl, rfl⟩, fpk, q⟩
  · obtain ⟨its, rv, p, hz⟩ := I1.tuple hq
    refine wpAny_pyIter_tuple (show s1.heap.IsTuple a its.toArray from p) ?_
    exact ⟨s1.heap.objs.size, [s1.heap.objs.size], _, _, H1, rfl, I1.kept (t' := s1.toks) fun b o e => Heap.get?_push_of_some _ e, turn_tuple a _, ⟨_, Heap.get?_push_size _ rfl, rfl, rfl⟩, fpk, q⟩
def WJ (T : TX X) (es : List Expr) (acc : Str) (ρ : Rho) (C : Cells) (Q : Str → Cells → Prop) : Prop :=
  ∀ pins (s : Shared) σ H H0 (R : Str → Shared → Prop), acc.length ≤ sizeLine → L2.Inv X pins σ H s → At T H0 ρ C σ H →
    (∀ out s1 C1 H1 H01, Stp H0 C H H01 C1 H1 → CellsR X.K H01 C1 H1 → out.length ≤ sizeLine → L2.Inv X pins σ H1 s1 → Q out C1 → R out s1) → Joins (model X.prog X.w) X.A X.xe (evalEach es X.env) acc R s
theorem wj_nil {acc : Str} {Q : Str → Cells → Prop} (q : Q acc C) : WJ T [] acc ρ C Q := by
  intro pins s σ H H0 R hz I at_ k
  have e0 : evalEach [] X.env = [] := by first | rfl | simp [evalEach]
  rw [e0]
  exact k acc s C H H0 (Stp.refl _ _ _) at_.c hz I q
theorem wj_cons {acc : Str} {Q : Str → Cells → Prop} (h : Tr.WE T e ρ C fun d C1 => ∃ y : Str, d = .str y ∧ (acc ++ y).length ≤ 100000 ∧ WJ T es (acc ++ y) ρ C1 Q) : WJ T (e :: es) acc ρ C Q := by
  intro pins s σ H H0 R hz I at_ k
  have e0 : evalEach (e :: es) X.env = eval e X.env :: evalEach es X.env := by first | rfl | simp [evalEach]
  rw [e0]
  refine thn (h.run pins s σ H (fun v H1 => ∃ y C1 H01, v = .str y ∧ (acc ++ y).length ≤ 100000 ∧ WJ T es (acc ++ y) ρ C1 Q ∧ Stp H0 C H H01 C1 H1 ∧ At T H01 ρ C1 σ H1) I ⟨H0, at_, fun v d C1 H1 H01 p1 c1 r1 ⟨y, e1, hl, w⟩ => by
    subst e1; cases r1; exact ⟨y, C1, H01, rfl, hl, w, p1, at_.step p1 c1⟩⟩) fun v s1 hv => ?_
  obtain ⟨x, H1, I1, r1, y, C1, H01, rfl, hy, w, p1, at1⟩ := hv
  obtain ⟨tk, rfl⟩ := r1
  exact ⟨y, tk, rfl, Nat.le_trans hy (show 100000 ≤ sizeLine by decide), w pins s1 σ H1 H01 R (Nat.le_trans hy (show 100000 ≤ sizeLine by decide)) I1 at1 fun out s2 C2 H2 H02 p2 c2 hz2 I2 q2 => k out s2 C2 H2 H02 (p1.trans at1.c p2) c2 hz2 I2 q2⟩
theorem we_joined (h : WJ T (v1 :: v2 :: rest) Str.empty ρ C fun out C1 => Q (.str out) C1) : Tr.WE T (.JoinedStr (v1 :: v2 :: rest) pos) ρ C Q := by
  refine ⟨fun pins s σ H R I ⟨H0, at_, k⟩ => ?_⟩
  exact wpAny_JoinedStr (h pins s σ H H0 _ (Nat.zero_le _) I at_ fun out s1 C1 H1 H01 p1 c1 hz I1 q1 => ⟨hz, .str out, H1, I1.tok _, ⟨_, rfl⟩, k _ (.str out) C1 H1 H01 p1 c1 rfl q1⟩)
theorem we_fmt (h : Tr.WE T e ρ C fun d C1 => (∃ y : Str, d = .str y ∧ y.length ≤ 100000 ∧ Q (.str y) C1) ∨ ∃ i : Int, d = .int i ∧ i.natAbs.log2 < 1920 ∧ Q (.str (toString i)) C1) : Tr.WE T (.FormattedValue e (-1) none pos) ρ C Q :=
  PE.imp (pe_fmt h) fun σ H R ⟨H0, at_, k⟩ => ⟨H0, at_, fun v d C1 H1 H01 p1 c1 r1 q1 => by
    rcases q1 with ⟨y, e1, hl, q⟩ | ⟨i, e1, hl, q⟩
    · subst e1; cases r1
      exact .inl ⟨y, rfl, Nat.le_trans hl (show 100000 ≤ sizeLine by decide), k _ (.str y) C1 H1 H01 p1 c1 rfl q⟩
    · subst e1; cases r1
      exact .inr ⟨i, rfl, hl, k _ (.str _) C1 H1 H01 p1 c1 rfl q⟩⟩

theorem run_TC {k : Nat} {f : Addr} {fd : FuncData} {ps : List Str} {F : FS} {dvs : List V} {dds : List D} {dus : List Value} {pins : List (Addr × Obj)} {σ : L2.St} {H H0 : Hp} {s : Shared} {R : VK} {us : List Value} {vs : List V} {ds : List D} (Fk : FnG X.prog X.w X.K X.mg X.base k f fd ps F) (hr : RoomG k X.A) (hb : Binds X.K fd ps dus) (hd : Vals dvs dus) (hdd : ∀ H, Reps X.K H dds dvs)
    (I : L2.Inv X pins σ H s) (rv : Vals vs us) (at_ : At T H0 ρ C σ H) (r : Reps X.K H0 ds vs) (h : Asks T F ρ (ds ++ dds) C Q) (k : Cont X H0 C H Q R) :
    codeAny (model X.prog X.w) X.A (.call (.ref f) ⟨us, []⟩) (fun r s' => match r with | .ok (.ret v) => EP X pins σ R v s' | .ok _ => False | .error e => X.xe e s') s := by
  have all := asks_sp h at_ (r.append (hdd H0)) k
  have nlen : (us ++ dus).length = ps.length := by
    obtain ⟨_, ds', _, _, _, _, r', h', _⟩ := id all
    rw [← (rv.append hd).length, ← r'.length]
    exact Fk.len _ _ _ _ h'
  have went := Fk.run X.A X.stack s H ⟨us, []⟩ (us ++ dus) (vs ++ dvs) R _ hr I.env0 (hb s us I.kIn nlen) (rv.append hd) all
  refine codeAny_mono went ?_
  rintro (e | (_ | _ | _ | u)) s' hq
  · exact passX T.tk σ pins H s e s' I hq
  · exact False.elim hq
  · exact False.elim hq
  · exact False.elim hq
  · exact I.after hq
def CMetT (K : W.Frag) (C : Addr) (m : Str) (g : Addr) : Prop := ∃ mc p, ClX.CRead K C mc ∧ ClX.CMet K C mc m p g
theorem we_cmeth {pl : Sem Bool} {k : Nat} {g Cl : Addr} {m : Str} {fd : FuncData} {ps : List Str} {F : FS} {dvs : List V} {dds : List D} {dus : List Value} (hc : CMetT X.K Cl m g) (Fk : FnG X.prog X.w X.K X.mg X.base k g fd ps F) (hr : RoomG k X.A) (hb : Binds X.K fd ps dus) (hd : Vals dvs dus) (hdd : ∀ H, Reps X.K H dds dvs)
    (h : Tr.WE T o ρ C fun d C1 => d = .raw (.ref Cl) ∧ WA T (a :: es) ρ C1 fun ds C2 => Asks T F ρ (.raw (.ref Cl) :: (ds ++ dds)) C2 Q)
    (hst : starEach (a :: es) X.env = (false, eval a X.env) :: starEach es X.env := by rfl) (hpl : (backTo pos (starEach es X.env)).any (·.1) = false := by rfl)
    (ht : eval (.Call (.Attribute o m apos) (a :: es) [] pos) X.env = (do
      let ov ← eval o X.env
      standAt apos.atName
      let (f, first) ← holding [ov] (getMethod ov m pl)
      callWith pos f first (backTo pos (starEach (a :: es) X.env)) (backToKw pos (keywordEach [] X.env))) := by rfl) :
    Tr.WE T (.Call (.Attribute o m apos) (a :: es) [] pos) ρ C Q := by
  obtain ⟨mc, pp, r, c⟩ := hc
  refine ⟨fun pins s σ H R I ⟨H0, at_, k⟩ => W.methodCall_KW (pl := pl) ?_ ht⟩
  refine thn (h.run pins s σ H (fun v H1 => ∃ C1 H01, v = .ref Cl ∧ At T H01 ρ C1 σ H1 ∧ Cont X H01 C1 H1 Q R ∧ WA T (a :: es) ρ C1 fun ds C2 => Asks T F ρ (.raw (.ref Cl) :: (ds ++ dds)) C2 Q) I
    ⟨H0, at_, fun v d C1 H1 H01 p1 c1 r1 ⟨e1, q⟩ => by subst e1; cases r1; exact ⟨C1, H01, rfl, at_.step p1 c1, k.after p1 c1 (fun _ _ z => z), q⟩⟩) ?_
  rintro u s1 ⟨v, H1, I1, rv, C1, H01, ev, at1, k1, hw⟩
  subst ev
  obtain rfl : u = Value.ref Cl := rv
  refine ClX.getmethcm_ok I1 r c fun s2 I2 => ?_
  refine ClX.callwith_cm I2 (ClX.base_none I1 (Nat.le_refl _)) c.fi (thn (hw.run pos _ s2 σ H1 (fun vs H2 => ∃ ds C2 H02, At T H02 ρ C2 σ H2 ∧ Cont X H02 C2 H2 Q R ∧ Reps X.K H02 ds vs ∧ Asks T F ρ (.raw (.ref Cl) :: (ds ++ dds)) C2 Q) I2
    ⟨H01, at1, fun vs ds C2 H2 H02 p2 c2 r2 q2 => ⟨ds, C2, H02, at1.step p2 c2, k1.after p2 c2 fun _ _ z => z, r2, q2⟩⟩) ?_) hst hpl
  rintro us s3 ⟨vs, H2, I3, rvs, ds, C2, H02, at2, k2, rds, q2⟩
  refine ⟨⟨ClX.pin_at I3, I3.kIn⟩, ?_⟩
  have z := wpAny_call (PySem.W.method_call (ClX.pin_at I3) (run_TC (us := .ref Cl :: us) (vs := .ref Cl :: vs) (ds := .raw (.ref Cl) :: ds) Fk hr hb hd hdd I3 (.cons rfl rvs) at2 (Reps.cons (d := .raw (.ref Cl)) rfl rds) q2 k2))
  exact thn z fun _ _ y => ClX.unpinE y
end
end Tr

set_option maxHeartbeats 4000000
namespace Tr
open PySem L2 PySem.Spec PyProof.Rows TL

abbrev Wd := List Nat
def NoBl (w : Wd) : Prop := (32 : Nat) ∉ w
abbrev jn (ws : List Wd) : List Nat := joinL [32] ws
theorem jn_cons (p q : Wd) (r : List Wd) : jn (p :: q :: r) = p ++ (32 :: jn (q :: r)) := rfl
def cutW (w : Wd) : List Wd → Option (List Wd × List Wd)
  | [] => none
  | [_] => none
  | q :: q2 :: r => if q = w then some ([], q2 :: r) else (cutW w (q2 :: r)).map fun x => (q :: x.1, x.2)
def sepW (w : Wd) : List Nat := 32 :: (w ++ [32])
theorem word_eq : ∀ {w q : Wd} {a b : List Nat}, NoBl w → NoBl q → w ++ 32 :: a = q ++ 32 :: b → w = q
  | [], [], _, _, _, _, _ => rfl
  | [], c :: q, _, _, _, hq, e => by
    have e1 : (32 : Nat) = c := (List.cons.inj e).1
    exact absurd (by rw [e1]; exact List.mem_cons_self) hq
  | c :: w, [], _, _, hw, _, e => by
    have e1 : c = (32 : Nat) := (List.cons.inj e).1
    exact absurd (by rw [e1]; exact List.mem_cons_self) hw
  | c :: w, d :: q, _, _, hw, hq, e => by
    obtain ⟨e1, e2⟩ := List.cons.inj e
    rw [e1, word_eq (fun h => hw (List.mem_cons_of_mem _ h)) (fun h => hq (List.mem_cons_of_mem _ h)) e2]
theorem pre_iff {S L : List Nat} : pre S L = true ↔ ∃ t, L = S ++ t := by
  unfold pre
  constructor
  · intro h
    have e := eq_of_beq h
    exact ⟨L.drop S.length, by conv => lhs; rw [← List.take_append_drop S.length L, e]⟩
  · rintro ⟨t, rfl⟩
    simp
theorem pre_word {w q : Wd} (hw : NoBl w) (hq : NoBl q) : ∀ r : List Wd, pre (sepW w) (32 :: jn (q :: r)) = (decide (q = w) && !r.isEmpty)
  | [] => by
    rw [Bool.eq_iff_iff, pre_iff]
    constructor
    · rintro ⟨t, e⟩
      have e2 : q = w ++ 32 :: t := by
        have := (List.cons.inj e).2
        have e3 : jn [q] = w ++ 32 :: t := by simpa using this
        exact e3
      exact absurd (by rw [e2]; simp) hq
    · intro h; simp at h
  | q2 :: r => by
    rw [Bool.eq_iff_iff, pre_iff]
    constructor
    · rintro ⟨t, e⟩
      have e2 : w ++ 32 :: t = q ++ 32 :: jn (q2 :: r) := by
        have := (List.cons.inj e).2
        rw [jn_cons] at this
        rw [this]; simp
      rw [word_eq hw hq e2]
      simp
    · intro h
      have e : q = w := by simpa using h
      subst e
      exact ⟨jn (q2 :: r), by rw [jn_cons]; simp [sepW]⟩
theorem free_blank {p : Wd} {w : Wd} {rest : List Nat} (h : NoBl p) : ∀ i, i < p.length → pre (sepW w) ((p ++ rest).drop i) = false := free_of (s := 32) h
theorem par_words {w : Wd} (hw : NoBl w) : ∀ (ws : List Wd) (p : Wd) (acc : List Nat), NoBl p → (∀ q ∈ ws, NoBl q) →
    par (sepW w) acc (jn (p :: ws)) = (cutW w ws).map fun x => (acc ++ jn (p :: x.1), jn x.2)
  | [], p, acc, hp, _ => by
    show par (sepW w) acc p = none
    exact par_none1 hp
  | q :: r, p, acc, hp, hr => by
    have hq := hr q List.mem_cons_self
    have run := par_run (sepW w) (jn (p :: q :: r)) p.length 0 acc (by rw [jn_cons, List.length_append]; omega) (fun k _ k2 => by rw [jn_cons]; exact free_blank hp k (by omega))
    rw [List.drop_zero, Nat.zero_add, jn_cons, List.drop_left, List.take_left] at run
    rw [jn_cons, run]
    have hpre := pre_word hw hq r
    cases r with
    | nil =>
      rw [List.isEmpty_nil, Bool.not_true, Bool.and_false] at hpre
      have ih := par_words hw [] q (acc ++ p ++ [32]) hq (by simp)
      rw [par_miss hpre]
      exact ih
    | cons q2 r =>
      by_cases e : q = w
      · subst e
        have hpre' : pre (sepW q) (32 :: jn (q :: q2 :: r)) = true := by rw [hpre]; simp
        have := par_at (S := sepW q) (L := 32 :: jn (q :: q2 :: r)) (by simp [sepW]) (c := 0) (acc := acc ++ p) (by rw [List.drop_zero]; exact hpre')
        rw [List.drop_zero] at this
        rw [this]
        simp only [cutW, if_pos rfl, Option.map_some]
        congr 2
        rw [Nat.zero_add, jn_cons]
        simp [sepW]
      · have hpre' : pre (sepW w) (32 :: jn (q :: q2 :: r)) = false := by rw [hpre]; simp [e]
        have ih := par_words hw (q2 :: r) q (acc ++ p ++ [32]) hq (fun z hz => hr z (List.mem_cons_of_mem _ hz))
        rw [par_miss hpre', ih]
        show _ = Option.map _ (if q = w then _ else _)
        rw [if_neg e, Option.map_map]
        congr 1
        funext x
        simp [jn_cons]
theorem spl_words {w : Wd} (hw : NoBl w) : ∀ (ws : List Wd) (p : Wd) (acc : List Nat), NoBl p → (∀ q ∈ ws, NoBl q) →
    spl (sepW w) 0 acc (jn (p :: ws)) = match cutW w ws with
      | some x => (acc ++ jn (p :: x.1)) :: spl (sepW w) 0 [] (jn x.2)
      | none => [acc ++ jn (p :: ws)]
  | [], p, acc, hp, _ => by
    show spl (sepW w) 0 acc p = [acc ++ p]
    exact spl_last1 hp
  | q :: r, p, acc, hp, hr => by
    have hq := hr q List.mem_cons_self
    have run := spl_run (sepW w) (jn (p :: q :: r)) p.length 0 acc (by rw [jn_cons, List.length_append]; omega) (fun k _ k2 => by rw [jn_cons]; exact free_blank hp k (by omega))
    rw [List.drop_zero, Nat.zero_add, jn_cons, List.drop_left, List.take_left] at run
    rw [jn_cons, run]
    have hpre := pre_word hw hq r
    cases r with
    | nil =>
      rw [List.isEmpty_nil, Bool.not_true, Bool.and_false] at hpre
      have ih := spl_words hw [] q (acc ++ p ++ [32]) hq (by simp)
      rw [spl_miss hpre]
      rw [ih]
      show [_] = [_]
      simp [cutW, joinL]
    | cons q2 r =>
      by_cases e : q = w
      · subst e
        have hpre' : pre (sepW q) (32 :: jn (q :: q2 :: r)) = true := by rw [hpre]; simp
        have := spl_at (S := sepW q) (L := 32 :: jn (q :: q2 :: r)) (by simp [sepW]) (c := 0) (acc := acc ++ p) (by rw [List.drop_zero]; exact hpre')
        rw [List.drop_zero] at this
        rw [this]
        simp only [cutW, if_pos rfl]
        rw [Nat.zero_add, jn_cons]
        simp [sepW, joinL]
      · have hpre' : pre (sepW w) (32 :: jn (q :: q2 :: r)) = false := by rw [hpre]; simp [e]
        have ih := spl_words hw (q2 :: r) q (acc ++ p ++ [32]) hq (fun z hz => hr z (List.mem_cons_of_mem _ hz))
        rw [spl_miss hpre', ih]
        have ec : cutW w (q :: q2 :: r) = (cutW w (q2 :: r)).map fun x => (q :: x.1, x.2) := by
          show (if q = w then _ else _) = _
          rw [if_neg e]
        rw [ec]
        cases cutW w (q2 :: r) with
        | none => simp [jn_cons]
        | some x => simp [jn_cons]

theorem cutW_app {w : Wd} {b : List Wd} (hb : b ≠ []) : ∀ {a : List Wd}, w ∉ a → cutW w (a ++ w :: b) = some (a, b)
  | [], _ => by
    cases b with
    | nil => exact absurd rfl hb
    | cons q r => simp [cutW]
  | [c], h => by
    have e : ¬ c = w := fun z => h (by rw [z]; exact List.mem_cons_self)
    have ih := cutW_app hb (a := []) (w := w) (by simp)
    show cutW w (c :: w :: b) = _
    unfold cutW
    rw [if_neg e]
    rw [show cutW w (w :: b) = some ([], b) from ih]
    rfl
  | c :: d :: a, h => by
    have e : ¬ c = w := fun z => h (by rw [z]; exact List.mem_cons_self)
    have ih := cutW_app hb (a := d :: a) (w := w) (fun z => h (List.mem_cons_of_mem _ z))
    show cutW w (c :: (d :: a ++ w :: b)) = _
    rw [List.cons_append] at ih ⊢
    unfold cutW
    rw [if_neg e, ih]
    rfl
theorem cutW_none {w : Wd} : ∀ {a : List Wd}, w ∉ a → cutW w a = none
  | [], _ => rfl
  | [_], _ => rfl
  | c :: d :: a, h => by
    have e : ¬ c = w := fun z => h (by rw [z]; exact List.mem_cons_self)
    have ih := cutW_none (a := d :: a) (fun z => h (List.mem_cons_of_mem _ z))
    unfold cutW
    rw [if_neg e, ih]
    rfl
theorem jn_app : ∀ {a b : List Wd}, a ≠ [] → b ≠ [] → jn (a ++ b) = jn a ++ 32 :: jn b
  | [], _, h, _ => absurd rfl h
  | [p], b, _, hb => by
    cases b with
    | nil => exact absurd rfl hb
    | cons q r => rfl
  | p :: q :: r, b, _, hb => by
    have ih := jn_app (a := q :: r) (b := b) (by simp) hb
    show jn (p :: q :: (r ++ b)) = _
    rw [jn_cons, jn_cons]
    rw [show jn (q :: (r ++ b)) = jn (q :: r) ++ 32 :: jn b from ih]
    simp
def inter (w : Wd) : List (List Wd) → List Wd
  | [] => []
  | [p] => p
  | p :: q :: r => p ++ w :: inter w (q :: r)
theorem inter_ne {w : Wd} : ∀ {ps : List (List Wd)}, ps ≠ [] → (∀ p ∈ ps, p ≠ []) → inter w ps ≠ []
  | [], h, _ => absurd rfl h
  | [p], _, hp => hp p List.mem_cons_self
  | p :: q :: r, _, hp => by simp [inter]
theorem jn_inter {w : Wd} : ∀ {ps : List (List Wd)}, (∀ p ∈ ps, p ≠ []) → jn (inter w ps) = joinL (sepW w) (ps.map jn)
  | [], _ => rfl
  | [p], _ => rfl
  | p :: q :: r, hp => by
    have ih := jn_inter (w := w) (ps := q :: r) (fun z hz => hp z (List.mem_cons_of_mem _ hz))
    have hn : inter w (q :: r) ≠ [] := inter_ne (by simp) (fun z hz => hp z (List.mem_cons_of_mem _ hz))
    show jn (p ++ w :: inter w (q :: r)) = jn p ++ (sepW w ++ joinL (sepW w) ((q :: r).map jn))
    rw [jn_app (hp p List.mem_cons_self) (by simp), ← ih]
    cases e : inter w (q :: r) with
    | nil => exact absurd e hn
    | cons a b => rw [jn_cons]; simp [sepW]
theorem mem_inter {w z : Wd} : ∀ {ps : List (List Wd)}, z ∈ inter w ps → z = w ∨ ∃ p ∈ ps, z ∈ p
  | [], h => by cases h
  | [p], h => .inr ⟨p, List.mem_cons_self, h⟩
  | p :: q :: r, h => by
    rcases List.mem_append.mp h with h | h
    · exact .inr ⟨p, List.mem_cons_self, h⟩
    · rcases List.mem_cons.mp h with h | h
      · exact .inl h
      · rcases mem_inter h with h | ⟨p', h1, h2⟩
        · exact .inl h
        · exact .inr ⟨p', List.mem_cons_of_mem _ h1, h2⟩
theorem spl_inter {w : Wd} (hw : NoBl w) : ∀ {ps : List (List Wd)}, ps ≠ [] → (∀ p ∈ ps, p ≠ [] ∧ w ∉ p ∧ ∀ q ∈ p, NoBl q) → spl (sepW w) 0 [] (jn (inter w ps)) = ps.map jn
  | [], h, _ => absurd rfl h
  | [p], _, hp => by
    obtain ⟨h1, h2, h3⟩ := hp p List.mem_cons_self
    cases p with
    | nil => exact absurd rfl h1
    | cons c a =>
      show spl (sepW w) 0 [] (jn (c :: a)) = [jn (c :: a)]
      rw [spl_words hw a c [] (h3 c List.mem_cons_self) (fun q hq => h3 q (List.mem_cons_of_mem _ hq)), cutW_none fun z => h2 (List.mem_cons_of_mem _ z)]
      rfl
  | p :: p2 :: r, _, hp => by
    obtain ⟨h1, h2, h3⟩ := hp p List.mem_cons_self
    have ih := spl_inter hw (ps := p2 :: r) (by simp) (fun z hz => hp z (List.mem_cons_of_mem _ hz))
    have hn : inter w (p2 :: r) ≠ [] := inter_ne (by simp) (fun z hz => (hp z (List.mem_cons_of_mem _ hz)).1)
    have hb : ∀ q ∈ inter w (p2 :: r), NoBl q := fun q hq => by
      rcases mem_inter hq with h | ⟨p', h4, h5⟩
      · rw [h]; exact hw
      · exact (hp p' (List.mem_cons_of_mem _ h4)).2.2 q h5
    cases p with
    | nil => exact absurd rfl h1
    | cons c a =>
      show spl (sepW w) 0 [] (jn (c :: (a ++ w :: inter w (p2 :: r)))) = jn (c :: a) :: (p2 :: r).map jn
      rw [spl_words hw _ c [] (h3 c List.mem_cons_self) (fun q hq => by
        rcases List.mem_append.mp hq with h | h
        · exact h3 q (List.mem_cons_of_mem _ h)
        · rcases List.mem_cons.mp h with h | h
          · rw [h]; exact hw
          · exact hb q h), cutW_app hn fun z => h2 (List.mem_cons_of_mem _ z)]
      show ([] ++ jn (c :: a)) :: spl (sepW w) 0 [] (jn (inter w (p2 :: r))) = _
      rw [ih]; rfl
def ofL (l : List Nat) : Str := ⟨l.toArray⟩
theorem tl_ofL (l : List Nat) : tl (ofL l) = l := by simp [ofL, tl]
theorem ofL_tl (x : Str) : ofL (tl x) = x := by simp [ofL, tl]
theorem part_found {x y : Str} {w p : Wd} {a b : List Wd} (hy : tl y = sepW w) (hw : NoBl w) (hx : tl x = jn (p :: (a ++ w :: b))) (hp : NoBl p) (ha : ∀ q ∈ a, NoBl q) (hb : ∀ q ∈ b, NoBl q) (hwa : w ∉ a) (hbn : b ≠ []) :
    Txt.partition x y = (ofL (jn (p :: a)), y, ofL (jn b)) := by
  rw [partition_par x y (by rw [hy]; simp [sepW]), hx, hy, par_words hw _ p [] hp (fun q hq => by
    rcases List.mem_append.mp hq with h | h
    · exact ha q h
    · rcases List.mem_cons.mp h with h | h
      · rw [h]; exact hw
      · exact hb q h), cutW_app hbn hwa]
  rfl
theorem part_not {x y : Str} {w p : Wd} {a : List Wd} (hy : tl y = sepW w) (hw : NoBl w) (hx : tl x = jn (p :: a)) (hp : NoBl p) (ha : ∀ q ∈ a, NoBl q) (hwa : w ∉ a) : Txt.partition x y = (x, Str.empty, Str.empty) := by
  rw [partition_par x y (by rw [hy]; simp [sepW]), hx, hy, par_words hw _ p [] hp ha, cutW_none hwa]
  rfl
theorem split_words {x y : Str} {w : Wd} {ps : List (List Wd)} (hy : tl y = sepW w) (hw : NoBl w) (hk : y.cps.all (· < 256) = true) (hx : tl x = jn (inter w ps)) (hn : ps ≠ []) (hp : ∀ p ∈ ps, p ≠ [] ∧ w ∉ p ∧ ∀ q ∈ p, NoBl q) :
    Txt.split x y = ps.map fun p => ofL (jn p) := by
  refine map_tl_inj ?_
  rw [split_spl x y (by rw [hy]; simp [sepW]) (kind_ok hk), hx, hy, spl_inter hw hn hp, List.map_map]
  exact List.map_congr_left fun p _ => (tl_ofL _).symm

section
variable {X : Cx} {T : TX X} {ρ : Rho} {C : Cells} {N : TEnds}
end
end Tr

set_option maxHeartbeats 4000000
namespace Tr
open PySem L2 PySem.Spec PyProof.Rows

abbrev ME := Cells → QE → Prop
abbrev MA := Cells → QA → Prop
abbrev MT := Cells → QT → Prop
abbrev MI := Cells → QI → Prop
abbrev MB := Cells → Prop
def up (F : FS) : FS := fun ds C Q Qx => ∃ Q' Qx', F ds C Q' Qx' ∧ (∀ d C', Q' d C' → Q d C') ∧ ∀ cls fs C', Qx' cls fs C' → Qx cls fs C'
theorem FnG.up {P : Program} {w : World} {K : W.Frag} {mg : Str → Option Value} {base : Heap} {k : Nat} {f : Addr} {fd : FuncData} {ps : List Str} {F : FS} (h : FnG P w K mg base k f fd ps F) : FnG P w K mg base k f fd ps (up F) :=
  ⟨fun ds C Q Qx ⟨Q', Qx', z, _, _⟩ => h.len _ _ _ _ z, fun A outer s H args us vs R E hr e0 hb rv ⟨H0, ds, C, Q, Qx, c, r, ⟨Q', Qx', z, i1, i2⟩, k1, k2⟩ => h.run A outer s H args us vs R E hr e0 hb rv
    ⟨H0, ds, C, Q', Qx', c, r, z, fun v d C' H' H0' p c' r' q => k1 v d C' H' H0' p c' r' (i1 _ _ q), fun cls dd fs C' H' H0' p c' x q => k2 cls dd fs C' H' H0' p c' x (i2 _ _ _ q)⟩⟩

section
variable {X : Cx}
def SE (T : TX X) (e : Expr) (ρ : Rho) (A : ME) : Prop := ∀ C Q, A C Q → Tr.WE T e ρ C Q
def SA (T : TX X) (es : List Expr) (ρ : Rho) (A : MA) : Prop := ∀ C Q, A C Q → WA T es ρ C Q
def ST (T : TX X) (e : Expr) (ρ : Rho) (A : MT) : Prop := ∀ C Q, A C Q → WT T e ρ C Q
def SP (T : TX X) (e : Expr) (ρ : Rho) (A : MT) : Prop := ∀ C Q, A C Q → WP T e ρ C Q
def SI (T : TX X) (tg e : Expr) (ρ : Rho) (A : MI) : Prop := ∀ C Q, A C Q → WI T tg e ρ C Q
def SB (T : TX X) (st : List Stmt) (ρ : Rho) (m : MB) (N : TEnds) : Prop := ∀ C, m C → WSs T st ρ C N
def SG (T : TX X) (tg : Expr) (d : D) (ρ : Rho) (st : List Stmt) (m : MB) (N : TEnds) : Prop := ∀ C, m C → WG T tg d ρ C fun ρ1 C1 => WSs T st ρ1 C1 N
variable {T : TX X} {ρ ρ' : Rho} {C : Cells} {N : TEnds} {e a b c o : Expr} {pos pos' p p2 apos : Pos} {es tgs : List Expr} {st : Stmt} {rest body : List Stmt} {x m : Str} {A B A' : ME} {AS : MA} {mt mf : MB}
theorem WA.mono {Q Q' : QA} (h : WA T es ρ C Q) (i : ∀ d C', Q d C' → Q' d C') : WA T es ρ C Q' :=
  PA.imp h fun σ H R ⟨H0, a, k⟩ => ⟨H0, a, fun vs ds C' H' H0' p c r q => k vs ds C' H' H0' p c r (i ds C' q)⟩
theorem WP.mono {Q Q' : QT} (h : WP T e ρ C Q) (i : ∀ d C', Q d C' → Q' d C') : WP T e ρ C Q' :=
  PW.imp h fun σ H R ⟨H0, a, k⟩ => ⟨H0, a, fun v C' H' H0' p c q => k v C' H' H0' p c (i v C' q)⟩
theorem WI.mono {tg : Expr} {Q Q' : QI} (h : WI T tg e ρ C Q) (i : ∀ ds P C', Q ds P C' → Q' ds P C') : WI T tg e ρ C Q' :=
  PI.imp h fun σ H R ⟨H0, a, k⟩ => ⟨H0, a, fun J ds P C' H' H0' p c y q => k J ds P C' H' H0' p c y (i ds P C' q)⟩
theorem OW.mono {f : Value → Value → Sem Value} {d1 d2 : D} {Q Q' : QE} (h : OW T f d1 d2 C Q) (i : ∀ d C', Q d C' → Q' d C') : OW T f d1 d2 C Q' :=
  OpR.imp h fun x y H R ⟨H0, c, r1, r2, k⟩ => ⟨H0, c, r1, r2, fun v d C' H' H0' p c r q => k v d C' H' H0' p c r (i d C' q)⟩
theorem CW.mono {f : Value} {ds : List D} {Q Q' : QE} (h : CW T f ds C Q) (i : ∀ d C', Q d C' → Q' d C') : CW T f ds C Q' :=
  CallR.imp h fun xs H R ⟨H0, c, r1, k⟩ => ⟨H0, c, r1, fun v d C' H' H0' p c r q => k v d C' H' H0' p c r (i d C' q)⟩

structure LeR (ρ ρ' : Rho) : Prop where
  l : ρ.length = ρ'.length
  s : ∀ (i : Nat) (d : D), ρ[i]? = some (some d) → ρ'[i]? = some (some d)
theorem LeR.refl (ρ : Rho) : LeR ρ ρ := ⟨rfl, fun _ _ h => h⟩
theorem LeR.nil : LeR [] [] := .refl _
theorem LeR.keep {x : Option D} (h : LeR ρ ρ') : LeR (x :: ρ) (x :: ρ') := ⟨by simp [h.l], fun i d q => by
  cases i with
  | zero => exact q
  | succ i => exact h.s i d q⟩
theorem LeR.drop {x : Option D} (h : LeR ρ ρ') : LeR (none :: ρ) (x :: ρ') := ⟨by simp [h.l], fun i d q => by
  cases i with
  | zero => cases q
  | succ i => exact h.s i d q⟩
theorem LeR.trans {ρ1 ρ2 ρ3 : Rho} (h : LeR ρ1 ρ2) (g : LeR ρ2 ρ3) : LeR ρ1 ρ3 := ⟨h.l.trans g.l, fun i d q => g.s i d (h.s i d q)⟩
theorem At.forget {H0 : Hp} {σ : L2.St} {H : Hp} (l : LeR ρ ρ') (h : At T H0 ρ' C σ H) : At T H0 ρ C σ H := ⟨h.a, h.c, fun i d q => h.s i d (l.s i d q), l.l.trans h.l⟩
theorem wss_forget (l : LeR ρ ρ') (h : WSs T rest ρ C N) : WSs T rest ρ' C N := PSs.imp h fun Dn σ H ⟨H0, at_, k⟩ => ⟨H0, at_.forget l, k⟩
theorem wg_forget {d : D} {tg : Expr} {Q : QS} (l : LeR ρ ρ') (h : WG T tg d ρ C Q) : WG T tg d ρ' C Q := PG.imp h fun v σ H R ⟨H0, at_, r, k⟩ => ⟨H0, at_.forget l, r, k⟩

abbrev eVal (d : D) : ME := fun C Q => Q d C
abbrev eBin (A B : ME) (O : D → D → ME) : ME := fun C Q => A C fun x C1 => B C1 fun y C2 => O x y C2 Q
abbrev eApp (A : ME) (O : D → ME) : ME := fun C Q => A C fun x C1 => O x C1 Q
abbrev aNil : MA := fun C Q => Q [] C
abbrev aCons (A : ME) (B : MA) : MA := fun C Q => A C fun d C1 => B C1 fun ds C2 => Q (d :: ds) C2
abbrev eArgs (A : MA) (O : List D → ME) : ME := fun C Q => A C fun ds C1 => O ds C1 Q
def pTup (ds : List D) : ME := fun C Q => ds.length ≤ 100000 ∧ Q (.tup ds) C
def pLst (ds : List D) : ME := fun C Q => ds.length ≤ 100000 ∧ Q (.lst ds) C
def pLstC (ds : List D) : ME := fun C Q => ds.length ≤ 100000 ∧ ∀ p, Q (.raw (.ref p)) ((p, .lst ds) :: C)
def pTru : D → MT
  | .bl k => fun C Q => Q k C
  | _ => fun _ _ => False
abbrev tVal (A : ME) : MT := fun C Q => A C fun d C1 => pTru d C1 Q
abbrev tNot (A : MT) : MT := fun C Q => A C fun k C1 => Q (!k) C1
abbrev tAnd (A B : MT) : MT := fun C Q => A C fun k C1 => if k = true then B C1 Q else Q false C1
abbrev tOr (A B : MT) : MT := fun C Q => A C fun k C1 => if k = true then Q true C1 else B C1 Q
abbrev tBin (A B : ME) (O : D → D → ME) : MT := fun C Q => A C fun x C1 => B C1 fun y C2 => O x y C2 fun d C3 => pTru d C3 Q
abbrev eIf (c : MT) (A B : ME) : ME := fun C Q => c C fun k C1 => if k = true then A C1 Q else B C1 Q
abbrev eAnd (A B : ME) : ME := fun C Q => A C fun d C1 => pTru d C1 fun k C2 => if k = true then B C2 Q else Q (.bl false) C2
abbrev eOr (A B : ME) : ME := fun C Q => A C fun d C1 => pTru d C1 fun k C2 => if k = true then Q (.bl true) C2 else B C2 Q
def pNeg : D → ME
  | .int i => fun C Q => Q (.int (-i)) C
  | _ => fun _ _ => False
theorem pTru_ex {d : D} {Q : QT} (h : pTru d C Q) : ∃ k, d = .bl k ∧ Q k C := by
  cases d with
  | bl k => exact ⟨k, rfl, h⟩
  | _ => exact False.elim h

theorem se_var {d : D} (i : Nat) (hd : ρ[i]? = some (some d)) (h : PE X (.Name x pos) (tVar i)) : SE T (.Name x pos) ρ (eVal d) := fun C Q q => we_var i hd q h
theorem se_glob {v : V} {d : D} (h : PE X (.Name x pos) (tC v)) (r : ∀ H0 : Hp, Rep X.K H0 d v) : SE T (.Name x pos) ρ (eVal d) := fun C Q q => we_glob h r q
theorem se_ty {n : String} (hg : Gl X x) (hm : X.mg x = none) (hv : bootBuiltins x = some (.type n)) (hn : x ≠ "__name__" := by decide) (hd : (x == ("__debug__" : Str)) = false := by decide) : SE T (.Name x pos) ρ (eVal (.raw (.ty n))) :=
  fun C Q q => we_ty hg hm hv q hn hd
theorem se_int {i j} : SE T (.Constant (.int i) j pos) ρ (eVal (.int i)) := fun C Q q => we_int q
theorem se_str {i j} : SE T (.Constant (.str i) j pos) ρ (eVal (.str i)) := fun C Q q => we_str q
theorem se_bl {i j} : SE T (.Constant (.bool i) j pos) ρ (eVal (.bl i)) := fun C Q q => we_bl q
theorem se_bin {op : Operator} {O : D → D → ME} (ha : SE T a ρ A) (hb : SE T b ρ B) (ho : ∀ x y C Q, O x y C Q → OW T (binaryOp op) x y C Q) : SE T (.BinOp a op b pos) ρ (eBin A B O) :=
  fun C Q h => we_bin ((ha C _ h).mono fun x C1 h1 => (hb C1 _ h1).mono fun y C2 h2 => ho x y C2 Q h2)
theorem se_cmp {op : CmpOp} {O : D → D → ME} (ha : SE T a ρ A) (hb : SE T b ρ B) (ho : ∀ x y C Q, O x y C Q → OW T (compareOp op) x y C Q) (hm : behindInMarks op b = false := by rfl) : SE T (.Compare a [op] [b] pos) ρ (eBin A B O) :=
  fun C Q h => we_cmp ((ha C _ h).mono fun x C1 h1 => (hb C1 _ h1).mono fun y C2 h2 => ho x y C2 Q h2) hm
theorem st_cmp {op : CmpOp} {O : D → D → ME} (ha : SE T a ρ A) (hb : SE T b ρ B) (ho : ∀ x y C Q, O x y C Q → OW T (compareOp op) x y C Q) (hm : behindInMarks op b = false := by rfl) : ST T (.Compare a [op] [b] pos) ρ (tBin A B O) :=
  fun C Q h => wt_cmp ((ha C _ h).mono fun x C1 h1 => (hb C1 _ h1).mono fun y C2 h2 => (ho x y C2 _ h2).mono fun d C3 h3 => pTru_ex h3) hm
theorem st_val (h : SE T e ρ A) (he : ∀ whole, isTrue e X.env whole = (do let v ← whole; standAt e.pos; holding [v] (truthy v)) := by intro _; rfl) : ST T e ρ (tVal A) :=
  fun C Q q => wt_val ((h C _ q).mono fun d C1 h1 => pTru_ex h1) he
theorem st_not {t : MT} (h : ST T a ρ t) : ST T (.UnaryOp .Not a pos) ρ (tNot t) := fun C Q q => wt_not (h C _ q)
theorem st_p {t : MT} (h : SP T a ρ t) : ST T a ρ t := fun C Q q => wt_p (h C Q q)
theorem sp_and1 {t : MT} (h : ST T a ρ t) : SP T (.BoolOp .And [a] pos) ρ t := fun C Q q => wp_and1 (h C Q q)
theorem sp_or1 {t : MT} (h : ST T a ρ t) : SP T (.BoolOp .Or [a] pos) ρ t := fun C Q q => wp_or1 (h C Q q)
theorem sp_and {t u : MT} (h : ST T a ρ t) (g : SP T (.BoolOp .And (b :: es) pos) ρ u) : SP T (.BoolOp .And (a :: b :: es) pos) ρ (tAnd t u) :=
  fun C Q q => wp_and ((h C _ q).mono fun k C1 h1 => by
    cases k with
    | true => exact g C1 Q h1
    | false => exact h1)
theorem sp_or {t u : MT} (h : ST T a ρ t) (g : SP T (.BoolOp .Or (b :: es) pos) ρ u) : SP T (.BoolOp .Or (a :: b :: es) pos) ρ (tOr t u) :=
  fun C Q q => wp_or ((h C _ q).mono fun k C1 h1 => by
    cases k with
    | true => exact h1
    | false => exact g C1 Q h1)
theorem se_one {op} (h : SE T a ρ A) : SE T (.BoolOp op [a] pos) ρ A := fun C Q q => we_one (h C Q q)
theorem se_and (h : SE T a ρ A) (g : SE T (.BoolOp .And (b :: es) pos) ρ B) : SE T (.BoolOp .And (a :: b :: es) pos) ρ (eAnd A B) :=
  fun C Q q => we_and ((h C _ q).mono fun d C1 h1 => by
    obtain ⟨k, e, h4⟩ := pTru_ex h1
    refine ⟨k, e, ?_⟩
    cases k with
    | false => exact h4
    | true => exact g C1 Q h4)
theorem se_or (h : SE T a ρ A) (g : SE T (.BoolOp .Or (b :: es) pos) ρ B) : SE T (.BoolOp .Or (a :: b :: es) pos) ρ (eOr A B) :=
  fun C Q q => we_or ((h C _ q).mono fun d C1 h1 => by
    obtain ⟨k, e, h4⟩ := pTru_ex h1
    refine ⟨k, e, ?_⟩
    cases k with
    | true => exact h4
    | false => exact g C1 Q h4)
theorem se_neg (h : SE T a ρ A) : SE T (.UnaryOp .USub a pos) ρ (eApp A pNeg) := fun C Q q => we_neg (i := 0) ((h C _ q).mono fun d C1 h1 => by
  cases d with
  | int i => exact ⟨i, rfl, h1⟩
  | _ => exact False.elim h1)
theorem se_if {t : MT} (h : ST T c ρ t) (ha : SE T a ρ A) (hb : SE T b ρ B) : SE T (.IfExp c a b pos) ρ (eIf t A B) :=
  fun C Q q => we_ifExp ((h C _ q).mono fun k C1 h1 => by
    cases k with
    | true => exact ha C1 Q h1
    | false => exact hb C1 Q h1)
theorem sa_nil : SA T [] ρ aNil := fun C Q q => wa_nil q
theorem sa_cons (h : SE T e ρ A) (g : SA T es ρ AS) (hs : starEach (e :: es) X.env = (false, eval e X.env) :: starEach es X.env := by rfl) : SA T (e :: es) ρ (aCons A AS) :=
  fun C Q q => wa_cons ((h C _ q).mono fun d C1 h1 => (g C1 _ h1)) hs
theorem se_tup {k} (h : SA T es ρ AS) : SE T (.Tuple es k pos) ρ (eArgs AS pTup) := fun C Q q => we_tup (h C _ q)
theorem se_lst (h : SA T es ρ AS) : SE T (.List es pos) ρ (eArgs AS pLst) := fun C Q q => we_lst (h C _ q)
theorem se_lstC (h : SA T es ρ AS) : SE T (.List es pos) ρ (eArgs AS pLstC) := fun C Q q => we_lstC (h C _ q)
theorem se_callB {q : Pos} {id : String} {O : List D → ME} (hg : Gl X x) (hm : X.mg x = none) (hv : bootBuiltins x = some (.builtin id)) (h : SA T (a :: es) ρ AS) (ho : ∀ ds C Q, O ds C Q → CW T (.builtin id) ds C Q)
    (hn : x ≠ "__name__" := by decide) (hdb : (x == ("__debug__" : Str)) = false := by decide) (he : starEach (a :: es) X.env = (false, eval a X.env) :: starEach es X.env := by rfl) (hpl : (backTo pos (starEach es X.env)).any (·.1) = false := by rfl) :
    SE T (.Call (.Name x q) (a :: es) [] pos) ρ (eArgs AS O) := fun C Q z => we_callB hg hm hv ((h C _ z).mono fun ds C1 h1 => ho ds C1 Q h1) hn hdb he hpl
theorem se_callTy {q : Pos} {id : String} {O : List D → ME} (hg : Gl X x) (hm : X.mg x = none) (hv : bootBuiltins x = some (.type id)) (h : SA T (a :: es) ρ AS) (ho : ∀ ds C Q, O ds C Q → CW T (.type id) ds C Q)
    (hn : x ≠ "__name__" := by decide) (hdb : (x == ("__debug__" : Str)) = false := by decide) (he : starEach (a :: es) X.env = (false, eval a X.env) :: starEach es X.env := by rfl) (hpl : (backTo pos (starEach es X.env)).any (·.1) = false := by rfl) :
    SE T (.Call (.Name x q) (a :: es) [] pos) ρ (eArgs AS O) := fun C Q z => we_callTy hg hm hv ((h C _ z).mono fun ds C1 h1 => ho ds C1 Q h1) hn hdb he hpl

def callW (F : FS) (Xq : QX) (ds : List D) : ME := fun C Q => ∃ μ r, C.Perm (μ ++ r) ∧ F ds μ (fun d μ' => Q d (μ' ++ r)) fun cls fs μ' => Xq cls fs (μ' ++ r)
theorem call_all {F : FS} {Xq : QX} {ds : List D} {Q : QE} (h : F ds C Q Xq) : callW F Xq ds C Q := ⟨C, [], by simp, by simpa using h⟩
theorem call_none {F : FS} {Xq : QX} {ds : List D} {Q : QE} (h : F ds [] (fun d μ' => Q d (μ' ++ C)) fun cls fs μ' => Xq cls fs (μ' ++ C)) : callW F Xq ds C Q := ⟨[], C, by simp, h⟩
theorem callW.asks {F : FS} {Xq : QX} {ds : List D} {Q : QE} (h : callW F Xq ds C Q) (hX : ∀ cls fs C, Xq cls fs C → T.XQ cls fs ρ C) : Asks T (up F) ρ ds C Q :=
  let ⟨μ, r, pm, z⟩ := h
  ⟨μ, r, pm, _, _, z, fun _ _ q => q, fun cls fs C' q => hX cls fs _ q⟩
variable {k : Nat} {f Cl : Addr} {fd : FuncData} {ps : List Str} {F : FS} {dvs : List V} {dds : List D} {dus : List Value} {Xq : QX}
theorem se_call {q : Pos} (Fk : FnG X.prog X.w X.K X.mg X.base k f fd ps F) (hr : RoomG k X.A) (hg : Gl X x) (hm : X.mg x = some (.ref f)) (hk : W.keepIn X.K (.ref f) = true) (hb : Binds X.K fd ps dus) (hd : Vals dvs dus) (hdd : ∀ H, Reps X.K H dds dvs)
    (hX : ∀ cls fs C, Xq cls fs C → T.XQ cls fs ρ C) (h : SA T (a :: es) ρ AS) (hdb : (x == ("__debug__" : Str)) = false := by decide) (he : starEach (a :: es) X.env = (false, eval a X.env) :: starEach es X.env := by rfl) (hpl : (backTo pos (starEach es X.env)).any (·.1) = false := by rfl) :
    SE T (.Call (.Name x q) (a :: es) [] pos) ρ (eArgs AS fun ds => callW F Xq (ds ++ dds)) :=
  fun C Q z => we_call Fk.up hr hg hm hk hb hd hdd ((h C _ z).mono fun ds C1 h1 => h1.asks hX) hdb he hpl
def makeW (F : FS) (Xq : QX) (Cl : Addr) (ds : List D) : ME := fun C Q => ∃ μ r, C.Perm (μ ++ r) ∧ ∀ z, F (.raw (.ref z) :: ds) ((z, .ins Cl [] []) :: μ) (fun d μ' => d = .non ∧ Q (.raw (.ref z)) (μ' ++ r)) fun cls fs μ' => Xq cls fs (μ' ++ r)
abbrev pFrz (A : ME) : ME := fun C Q => A C fun d C1 => ∃ (i : Nat) (z Cl : Addr) (ns : List Str) (ds : List D), d = .raw (.ref z) ∧ C1[i]? = some (z, .ins Cl ns ds) ∧ Q (.ins Cl ns ds) (C1.eraseIdx i)
theorem se_frz (h : SE T e ρ A) : SE T e ρ (pFrz A) := fun C Q q => we_frzI (h C _ q)
theorem makeW.asks {ds : List D} {Q : QE} (h : makeW F Xq Cl ds C Q) (hX : ∀ cls fs C, Xq cls fs C → T.XQ cls fs ρ C) : AsksM T (up F) Cl ρ ds C Q :=
  let ⟨μ, r, pm, w⟩ := h
  ⟨μ, r, pm, fun z => ⟨_, _, w z, fun _ _ q => q, fun cls fs C' q => hX cls fs _ q⟩⟩
theorem se_make {q : Pos} (M : Mk X.K Cl f) (Fk : FnG X.prog X.w X.K X.mg X.base k f fd ps F) (hr : RoomG (k + 1) X.A) (hg : Gl X x) (hm : X.mg x = some (.ref Cl)) (hb : Binds X.K fd ps dus) (hd : Vals dvs dus) (hdd : ∀ H, Reps X.K H dds dvs)
    (hX : ∀ cls fs C, Xq cls fs C → T.XQ cls fs ρ C) (h : SA T (a :: es) ρ AS) (hdb : (x == ("__debug__" : Str)) = false := by decide) (he : starEach (a :: es) X.env = (false, eval a X.env) :: starEach es X.env := by rfl) (hpl : (backTo pos (starEach es X.env)).any (·.1) = false := by rfl) :
    SE T (.Call (.Name x q) (a :: es) [] pos) ρ (eArgs AS fun ds => makeW F Xq Cl (ds ++ dds)) :=
  fun C Q z => we_make M Fk.up hr hg hm hb hd hdd ((h C _ z).mono fun ds C1 h1 => h1.asks hX) hdb he hpl
end
end Tr

set_option maxHeartbeats 4000000
namespace Tr
open PySem L2 PySem.Spec PyProof.Rows
section
variable {X : Cx} {T : TX X} {ρ ρ' : Rho} {C : Cells} {N : TEnds} {e a b c o i elt : Expr} {pos pos' p p2 apos spos : Pos} {es tgs : List Expr} {st : Stmt} {rest body tb fb : List Stmt} {x m : Str} {A B A' : ME} {AS : MA} {mt mf mm : MB} {scope : Scope} {tg : Expr}

def pFld (K : W.Frag) (m : Str) (d : D) : ME := fun C Q => ∃ Cl ns ds d', InsD C d Cl ns ds ∧ Cls K Cl ∧ NoAttr K Cl m ∧ (ns.zip ds).lookup m = some d' ∧ Q d' C
theorem se_fld (h : SE T e ρ A) (hb : attributeBase e m X.env (eval e X.env) = eval e X.env := by rfl) : SE T (.Attribute e m pos) ρ (eApp A (pFld X.K m)) :=
  fun C Q q => we_fld hb ((h C _ q).mono fun d C1 ⟨Cl, ns, ds, d', h1, h2, h3, h4, h5⟩ => ⟨Cl, ns, ds, d', h1, h2, h3, h4, h5⟩)
variable {k : Nat} {f Cl g : Addr} {fd : FuncData} {ps : List Str} {F : FS} {dvs : List V} {dds : List D} {dus : List Value} {Xq : QX}
theorem se_cmeth {pl : Sem Bool} (hc : CMetT X.K Cl m g) (Fk : FnG X.prog X.w X.K X.mg X.base k g fd ps F) (hr : RoomG k X.A) (hb : Binds X.K fd ps dus) (hd : Vals dvs dus) (hdd : ∀ H, Reps X.K H dds dvs)
    (hX : ∀ cls fs C, Xq cls fs C → T.XQ cls fs ρ C) (h : SE T o ρ (eVal (.raw (.ref Cl)))) (hs : SA T (a :: es) ρ AS)
    (hst : starEach (a :: es) X.env = (false, eval a X.env) :: starEach es X.env := by rfl) (hpl : (backTo pos (starEach es X.env)).any (·.1) = false := by rfl)
    (ht : eval (.Call (.Attribute o m apos) (a :: es) [] pos) X.env = (do
      let ov ← eval o X.env
      standAt apos.atName
      let (f, first) ← holding [ov] (getMethod ov m pl)
      callWith pos f first (backTo pos (starEach (a :: es) X.env)) (backToKw pos (keywordEach [] X.env))) := by rfl) :
    SE T (.Call (.Attribute o m apos) (a :: es) [] pos) ρ (eArgs AS fun ds => callW F Xq (.raw (.ref Cl) :: (ds ++ dds))) :=
  fun C Q z => we_cmeth (pl := pl) hc Fk.up hr hb hd hdd (h C _ ⟨rfl, (hs C _ z).mono fun ds C2 h4 => h4.asks hX⟩) hst hpl ht

def pIx : D → D → ME
  | .tup ds, .int i => fun C Q => ∃ d, atI ds i = some d ∧ Q d C
  | .lst ds, .int i => fun C Q => ∃ d, atI ds i = some d ∧ Q d C
  | .str s, .int i => fun C Q => s.length ≤ 100000 ∧ ∃ c, atI s.cps.toList i = some c ∧ Q (.str ⟨#[c]⟩) C
  | d, .int i => fun C Q => ∃ ds d', LstD C d ds ∧ atI ds i = some d' ∧ Q d' C
  | _, _ => fun _ _ => False
theorem pIx_iw {x y : D} {Q : QE} (h : pIx x y C Q) : IW T x y C Q := by
  cases y with
  | int i =>
    cases x with
    | tup ds => obtain ⟨d, h1, h2⟩ := h; exact iw_tup h1 h2
    | lst ds => obtain ⟨d, h1, h2⟩ := h; exact iw_lst .l h1 h2
    | str s => obtain ⟨h0, c, h1, h2⟩ := h; exact iw_str h0 h1 h2
    | _ => obtain ⟨ds, d', h1, h2, h3⟩ := h; exact iw_lst h1 h2 h3
  | _ => cases x <;> exact False.elim h
theorem se_ix (ha : SE T a ρ A) (hb : SE T b ρ B) (hs : PlainIx b := by intro _ _; rfl) : SE T (.Subscript a b pos) ρ (eBin A B pIx) :=
  fun C Q h => we_ix ((ha C _ h).mono fun x C1 h1 => (hb C1 _ h1).mono fun y C2 h2 => pIx_iw h2) hs
abbrev MO := Cells → (Option Int → Cells → Prop) → Prop
def SO (T : TX X) (e : Option Expr) (ρ : Rho) (A : MO) : Prop := ∀ C Q, A C Q → WO T e ρ C Q
abbrev oNone : MO := fun C Q => Q none C
def pOI : D → MO
  | .int i => fun C Q => Q (some i) C
  | _ => fun _ _ => False
abbrev oSome (A : ME) : MO := fun C Q => A C fun d C1 => pOI d C1 Q
theorem so_none : SO T none ρ oNone := fun C Q q => wo_none q
theorem so_some (h : SE T e ρ A) : SO T (some e) ρ (oSome A) := fun C Q q => wo_some ((h C _ q).mono fun d C1 h1 => by
  cases d with
  | int i => exact ⟨i, rfl, h1⟩
  | _ => exact False.elim h1)
def pSl (d : D) (l u : Option Int) : ME := match d with
  | .tup ds => fun C Q => Q (.tup (cutD ds l u)) C
  | .lst ds => fun C Q => Q (.lst (cutD ds l u)) C
  | .str s => fun C Q => s.length ≤ 100000 ∧ Q (.str (cutS s l u)) C
  | d => fun C Q => ∃ ds, LstD C d ds ∧ Q (.lst (cutD ds l u)) C
abbrev eSl (A : ME) (L U : MO) : ME := fun C Q => A C fun d C1 => L C1 fun l C2 => U C2 fun u C3 => pSl d l u C3 Q
theorem WO.mono {e : Option Expr} {Q Q' : Option Int → Cells → Prop} (h : WO T e ρ C Q) (i : ∀ d C', Q d C' → Q' d C') : WO T e ρ C Q' :=
  PO.imp h fun σ H R ⟨H0, a, k⟩ => ⟨H0, a, fun j C' H' H0' p c q => k j C' H' H0' p c (i j C' q)⟩
theorem se_slice {lo hi : Option Expr} {L U : MO} (h : SE T e ρ A) (hl : SO T lo ρ L) (hu : SO T hi ρ U) : SE T (.Subscript e (.Slice lo hi none p2) pos) ρ (eSl A L U) :=
  fun C Q q => we_slice ((h C _ q).mono fun d C1 h1 => (hl C1 _ h1).mono fun l C2 h2 => (hu C2 _ h2).mono fun u C3 h3 => by
    cases d with
    | tup ds => exact sw_tup h3
    | lst ds => exact sw_lst .l h3
    | str s => exact sw_str h3.1 h3.2
    | _ => obtain ⟨ds, h4, h5⟩ := h3; exact sw_lst h4 h5)
def pRev (d : D) : ME := fun C Q => ∃ ds, LstD C d ds ∧ Q (.lst ds.reverse) C
def pRevC (d : D) : ME := fun C Q => ∃ ds, LstD C d ds ∧ ∀ p, Q (.raw (.ref p)) ((p, .lst ds.reverse) :: C)
theorem se_revC {k : Nat} {p1 p2 p3 : Pos} (h : SE T e ρ A) : SE T (.Subscript e (.Slice none none (some (.UnaryOp .USub (.Constant (.int 1) k p1) p2)) p3) pos) ρ (eApp A pRevC) := fun C Q q => we_revC (h C _ q)

def pIter (d : D) : MI := match d with
  | .lst ds => fun C Q => Q ds (fun _ => True) C
  | .tup ds => fun C Q => Q ds (fun _ => True) C
  | d => fun C Q => ∃ ds, SeqD C d ds ∧ Q ds (fun C' => SeqD C' d ds) C
abbrev iApp (A : ME) (O : D → MI) : MI := fun C Q => A C fun d C1 => O d C1 Q
theorem wi_iter {Q : QI} (h : Tr.WE T e ρ C fun d C1 => pIter d C1 Q) : WI T tg e ρ C Q := by
  refine PI.imp (pi_seq h) fun σ H R ⟨H0, at_, k⟩ => ⟨H0, at_, fun v d C1 H1 H01 p1 c1 r1 q => ?_⟩
  have gen : ∀ {d : D}, Rep X.K H01 d v → (∃ ds, SeqD C1 d ds ∧ Q ds (fun C' => SeqD C' d ds) C1) → ∃ a xs, v = .ref a ∧ ((SqL X.K H1 a xs ∧ R (Itl X.K a) H1) ∨ (SqT X.K H1 a xs ∧ R (Itt X.K a) H1)) := by
    rintro d r1 ⟨ds, hq, q⟩
    rcases hq with (e1 | ⟨z, e1, hz⟩) | e1
    · subst e1
      obtain ⟨a, vs, e2, g1, g2⟩ := r1
      subst e2
      exact ⟨a, vs, rfl, .inl ⟨Same.sqL c1.same g1, k _ _ _ C1 H1 H01 p1 c1 ((yields_list g1 g2).weak fun _ _ => trivial) q⟩⟩
    · subst e1
      obtain rfl : v = .ref z := r1
      obtain ⟨vs, g1, g2⟩ := c1.ok z _ hz
      refine ⟨z, vs, rfl, .inl ⟨.inl (.inl g1), k _ _ _ C1 H1 H01 p1 c1 (yields_cell.weak fun C' h => ?_) q⟩⟩
      rcases h with (h | ⟨z', h, hm⟩) | h
      · cases h
      · cases h; exact hm
      · cases h
    · subst e1
      obtain ⟨a, vs, e2, g1, g2⟩ := r1
      subst e2
      exact ⟨a, vs, rfl, .inr ⟨Same.sqT c1.same g1, k _ _ _ C1 H1 H01 p1 c1 ((yields_tup g1 g2).weak fun _ _ => trivial) q⟩⟩
  cases d with
  | lst ds =>
    obtain ⟨a, vs, e2, g1, g2⟩ := r1
    subst e2
    exact ⟨a, vs, rfl, .inl ⟨Same.sqL c1.same g1, k _ _ _ C1 H1 H01 p1 c1 (yields_list g1 g2) q⟩⟩
  | tup ds =>
    obtain ⟨a, vs, e2, g1, g2⟩ := r1
    subst e2
    exact ⟨a, vs, rfl, .inr ⟨Same.sqT c1.same g1, k _ _ _ C1 H1 H01 p1 c1 (yields_tup g1 g2) q⟩⟩
  | _ => exact gen r1 q
theorem si_iter (h : SE T e ρ A) : SI T tg e ρ (iApp A pIter) := fun C Q q => wi_iter (h C _ q)
def pIterS (d : D) : MI := match d with
  | .str s => fun C Q => Q (signsD s) (fun _ => True) C
  | _ => fun _ _ => False
def pRange1 : D → MI
  | .int j => fun C Q => (-(2 ^ 62) ≤ j ∧ j < 2 ^ 62) ∧ Q (rangeD 0 j.toNat) (fun _ => True) C
  | _ => fun _ _ => False
def pRange2 : D → D → MI
  | .int i, .int j => fun C Q => (-(2 ^ 62) ≤ i ∧ i < 2 ^ 62 ∧ -(2 ^ 62) ≤ j ∧ j < 2 ^ 62) ∧ Q (rangeD i (j - i).toNat) (fun _ => True) C
  | _, _ => fun _ _ => False
theorem si_range1 (hg : Gl X "range") (hm : X.mg "range" = none) (h : SE T a ρ A) (hs : starEach [a] X.env = [(false, eval a X.env)] := by rfl) (hs2 : starEach [a] X.env = (false, eval a X.env) :: starEach [] X.env := by rfl) : SI T tg (.Call (.Name "range" p) [a] [] pos) ρ (iApp A pRange1) :=
  fun C Q q => wi_range1 hg hm ((h C _ q).mono fun d C1 h1 => by
    cases d with
    | int j => exact ⟨j, rfl, h1.1.1, h1.1.2, h1.2⟩
    | _ => exact False.elim h1) hs hs2
def pEnum (d : D) : MI := match d with
  | .lst ds => fun C Q => Q (enumD 0 ds) (fun _ => True) C
  | .tup ds => fun C Q => Q (enumD 0 ds) (fun _ => True) C
  | d => fun C Q => ∃ ds, SeqD C d ds ∧ Q (enumD 0 ds) (fun C' => SeqD C' d ds) C
def lcB (P : Cells → Prop) (f : D → ME) (Q : QE) : List D → List D → Cells → Prop
  | [], acc, C => P C ∧ Q (.lst acc) C
  | d :: r, acc, C => P C ∧ f d C fun y C2 => acc.length < 100000 ∧ lcB P f Q r (acc ++ [y]) C2
def lcB1 (P : Cells → Prop) (t : D → MT) (f : D → ME) (Q : QE) : List D → List D → Cells → Prop
  | [], acc, C => P C ∧ Q (.lst acc) C
  | d :: r, acc, C => P C ∧ t d C fun k C1 => if k = true then f d C1 fun y C2 => acc.length < 100000 ∧ lcB1 P t f Q r (acc ++ [y]) C2 else lcB1 P t f Q r acc C1
abbrev eLc (I : MI) (f : D → ME) : ME := fun C Q => I C fun ds P C1 => lcB P f Q ds [] C1
abbrev eLc1 (I : MI) (t : D → MT) (f : D → ME) : ME := fun C Q => I C fun ds P C1 => lcB1 P t f Q ds [] C1
abbrev SEb (T : TX X) (scope : Scope) (e : Expr) (ρ : Rho) (A : ME) : Prop := ∀ (s : Shared) (H : Hp) (Ca : Addr) (cl : List (Str × Addr)) (fp : List Addr), SE (T.blk s H scope (compEnvC scope cl Ca X.env) fp) e ρ A
abbrev STb (T : TX X) (scope : Scope) (e : Expr) (ρ : Rho) (A : MT) : Prop := ∀ (s : Shared) (H : Hp) (Ca : Addr) (cl : List (Str × Addr)) (fp : List Addr), ST (T.blk s H scope (compEnvC scope cl Ca X.env) fp) e ρ A
structure BdOk (bd : Bind) (ρ : Rho) (T : TX X) (scope : Scope) (e : Expr) (f : D → ME) : Prop where
  run : ∀ d C Q, f d C Q → ∃ ρ', bd.to d ρ = some ρ' ∧ ∀ (s : Shared) (H : Hp) (Ca : Addr) (cl : List (Str × Addr)) (fp : List Addr), Tr.WE (T.blk s H scope (compEnvC scope cl Ca X.env) fp) e ρ' C Q
structure BdOkT (bd : Bind) (ρ : Rho) (T : TX X) (scope : Scope) (e : Expr) (f : D → MT) : Prop where
  run : ∀ d C Q, f d C Q → ∃ ρ', bd.to d ρ = some ρ' ∧ ∀ (s : Shared) (H : Hp) (Ca : Addr) (cl : List (Str × Addr)) (fp : List Addr), WT (T.blk s H scope (compEnvC scope cl Ca X.env) fp) e ρ' C Q
theorem bd_one {j : Nat} {f : D → ME} {r : D → Rho} (hr : ∀ d, ρ.set j (some d) = r d) (h : ∀ d, SEb T scope e (r d) (f d)) : BdOk (.one j) ρ T scope e f :=
  ⟨fun d C Q q => ⟨_, rfl, fun s H Ca cl fp => by rw [hr d]; exact h d s H Ca cl fp C Q q⟩⟩
theorem bdT_one {j : Nat} {f : D → MT} {r : D → Rho} (hr : ∀ d, ρ.set j (some d) = r d) (h : ∀ d, STb T scope e (r d) (f d)) : BdOkT (.one j) ρ T scope e f :=
  ⟨fun d C Q q => ⟨_, rfl, fun s H Ca cl fp => by rw [hr d]; exact h d s H Ca cl fp C Q q⟩⟩
def un2 {β : Sort _} (d : D) (f : D → D → Cells → β → Prop) : Cells → β → Prop := match d with
  | .tup [x, y] => f x y
  | _ => fun _ _ => False
def un3 {β : Sort _} (d : D) (f : D → D → D → Cells → β → Prop) : Cells → β → Prop := match d with
  | .tup [x, y, z] => f x y z
  | _ => fun _ _ => False
theorem lc_mirror {bd : Bind} {vs : List Nat} {P : Cells → Prop} {Q Q' : QE} {f : D → ME} (hb : BdOk bd (wipeR ρ vs) T scope elt f) (i : ∀ d C, Q d C → Q' d C) : ∀ {ds acc : List D} {C : Cells}, lcB P f Q ds acc C → LcW T scope bd elt vs ρ P Q' ds acc C
  | [], acc, C, h => ⟨h.1, i _ _ h.2⟩
  | d :: r, acc, C, ⟨hp, h⟩ => by
    obtain ⟨ρ', e1, h1⟩ := hb.run d C _ h
    exact ⟨hp, ρ', e1, fun s H Ca cl fp => (h1 s H Ca cl fp).mono fun y C2 ⟨hl, q⟩ => ⟨hl, lc_mirror hb i q⟩⟩
theorem lc1_mirror {bd : Bind} {vs : List Nat} {P : Cells → Prop} {Q Q' : QE} {t : D → MT} {f : D → ME} (ht : BdOkT bd (wipeR ρ vs) T scope i t) (hb : BdOk bd (wipeR ρ vs) T scope elt f) (im : ∀ d C, Q d C → Q' d C) : ∀ {ds acc : List D} {C : Cells}, lcB1 P t f Q ds acc C → LcW1 T scope bd i elt vs ρ P Q' ds acc C
  | [], acc, C, h => ⟨h.1, im _ _ h.2⟩
  | d :: r, acc, C, ⟨hp, h⟩ => by
    obtain ⟨ρ', e1, h1⟩ := ht.run d C _ h
    refine ⟨hp, ρ', e1, fun s H Ca cl fp => (h1 s H Ca cl fp).mono fun k C1 q => ?_⟩
    cases k with
    | false => exact lc1_mirror ht hb im q
    | true =>
      obtain ⟨ρ2, e2, h2⟩ := hb.run d C1 _ q
      rw [e1] at e2; cases e2
      exact fun s H Ca cl fp => (h2 s H Ca cl fp).mono fun y C2 ⟨hl, q⟩ => ⟨hl, lc1_mirror ht hb im q⟩
theorem se_lc {iter : Expr} {I : MI} {f : D → ME} (own : List (Str × Nat)) (bd : Bind) (hc : X.calm = true) (hN : X.N.Nodup) (ok : BlkOk X.N X.env.scope scope own)
    (hg : ∀ (s : Shared) (H : Hp) (Ca : Addr) (cl : List (Str × Addr)) (fp : List Addr), PG (X.blk s H scope (compEnvC scope cl Ca X.env) fp) tg (bd.g X.K)) (hv : ∀ i ∈ bd.slots, i ∈ own.map (·.2))
    (hI : SI T tg iter ρ I) (hb : BdOk bd (wipeR ρ (own.map (·.2))) T scope elt f) (hs : ∀ x, foldedSetIterable iter X.env x = pure x := by intro _; rfl) : SE T (.ListComp elt [⟨tg, iter, [], 0⟩] scope pos) ρ (eLc I f) :=
  fun C Q q => we_lc own bd hc hN ok hg hv ((hI C _ q).mono fun ds P C1 h => lc_mirror hb (fun _ _ q => q) h) hs
theorem se_lc1 {iter : Expr} {I : MI} {t : D → MT} {f : D → ME} (own : List (Str × Nat)) (bd : Bind) (hc : X.calm = true) (hN : X.N.Nodup) (ok : BlkOk X.N X.env.scope scope own)
    (hg : ∀ (s : Shared) (H : Hp) (Ca : Addr) (cl : List (Str × Addr)) (fp : List Addr), PG (X.blk s H scope (compEnvC scope cl Ca X.env) fp) tg (bd.g X.K)) (hv : ∀ i ∈ bd.slots, i ∈ own.map (·.2))
    (hI : SI T tg iter ρ I) (ht : BdOkT bd (wipeR ρ (own.map (·.2))) T scope i t) (hb : BdOk bd (wipeR ρ (own.map (·.2))) T scope elt f) (hs : ∀ x, foldedSetIterable iter X.env x = pure x := by intro _; rfl) : SE T (.ListComp elt [⟨tg, iter, [i], 0⟩] scope pos) ρ (eLc1 I t f) :=
  fun C Q q => we_lc1 own bd hc hN ok hg hv ((hI C _ q).mono fun ds P C1 h => lc1_mirror ht hb (fun _ _ q => q) h) hs

abbrev mSet (A : ME) (k : D → MB) : MB := fun C => A C fun d C1 => k d C1
abbrev mExp (A : ME) (m : MB) : MB := fun C => A C fun _ C1 => m C1
abbrev mRet (A : ME) (Q : QE) : MB := fun C => A C Q
abbrev mIf (t : MT) (m1 m2 : MB) : MB := fun C => t C fun k C1 => if k = true then m1 C1 else m2 C1
theorem sb_nil (h : ∀ C, mm C → N.nx ρ C) : SB T [] ρ mm N := fun C q => wss_nil (h C q)
theorem sb_more {mm : MB} (h : SB T rest ρ mm N) : SB T [] ρ mm { N with nx := fun ρ1 C1 => WSs T rest ρ1 C1 N } := fun C q => wss_nil (h C q)
theorem sb_le {α : Type} {enc : α → Rho} {J : α → MB} {W : QS} {V B' : QS} {R : QE} {s : α} (hJ : ∀ a ρ' C, LeR (enc a) ρ' → J a C → W ρ' C) (l : LeR (enc s) ρ) : SB T [] ρ (J s) { nx := W, rt := R, bk := V, ct := B' } := fun C q => wss_nil (hJ s _ C l q)
theorem sb_set {kk : D → MB} {r : D → Rho} (j : Nat) (hN : X.N.Nodup) (hi : X.N[j]? = some x) (hx : Loc X.env.scope x) (hr : ∀ d, ρ.set j (some d) = r d) (h : SE T e ρ A) (hk : ∀ d, SB T rest (r d) (kk d) N)
    (hs : swapsWith e (some (.Name x pos')) pos.line X.env = pure false := by rfl) (hf : X.fn x = true ∨ X.env.scope.names.lookup x = some .local := by first | exact .inl rfl | exact .inr rfl | assumption) :
    SB T (.Assign [.Name x pos'] e pos :: rest) ρ (mSet A kk) N :=
  fun C q => wss_cons (ws_set j hN hi hx ((h C _ q).mono fun d C1 h1 => by show WSs T rest (ρ.set j (some d)) C1 N; rw [hr]; exact hk d C1 h1) hs hf)
theorem sb_setLc {iter : Expr} {I : MI} {f : D → ME} {kk : D → MB} {r : D → Rho} {py : Pos} (own : List (Str × Nat)) (bd : Bind) (j : Nat) (hc : X.calm = true) (hN : X.N.Nodup) (hy : X.N[j]? = some x) (hyl : X.env.scope.names.lookup x = some .local)
    (hsw : swapsWith (.ListComp elt [⟨tg, iter, [], 0⟩] scope pos) (some (.Name x py)) spos.line X.env = pure true) (ok : BlkOk X.N X.env.scope scope own)
    (hg : ∀ (s : Shared) (H : Hp) (Ca : Addr) (cl : List (Str × Addr)) (fp : List Addr), PG (X.blk s H scope (compEnvC scope cl Ca X.env) fp) tg (bd.g X.K)) (hv : ∀ i ∈ bd.slots, i ∈ own.map (·.2))
    (hI : SI T tg iter ρ I) (hb : BdOk bd (wipeR ρ (own.map (·.2))) T scope elt f) (hr : ∀ d, ρ.set j (some d) = r d) (hk : ∀ d, SB T rest (r d) (kk d) N) (hs : ∀ x, foldedSetIterable iter X.env x = pure x := by intro _; rfl) :
    SB T (.Assign [.Name x py] (.ListComp elt [⟨tg, iter, [], 0⟩] scope pos) spos :: rest) ρ (mSet (eLc I f) kk) N :=
  fun C q => wss_cons (ws_setLc own bd j hc hN hy hyl hsw ok hg hv ((hI C _ q).mono fun ds P C1 h => lc_mirror hb (fun d C2 h => by show WSs T rest (ρ.set j (some d)) C2 N; rw [hr]; exact hk d C2 h) h) hs)
theorem sb_ret {Q : QE} (h : SE T e ρ A) (hQ : ∀ d C, Q d C → N.rt d C) : SB T (.Return (some e) pos :: rest) ρ (mRet A Q) N := fun C q => wss_cons (ws_ret ((h C _ q).mono hQ))
theorem sb_exp {m1 : MB} (h : SE T e ρ A) (hk : SB T rest ρ m1 N) (hs : swapsWith e none pos.line X.env = pure false := by rfl) : SB T (.Expr e pos :: rest) ρ (mExp A m1) N :=
  fun C q => wss_cons (ws_expr ((h C _ q).mono fun d C1 h1 => hk C1 h1) hs)
theorem sb_if {t : MT} (h : ST T c ρ t) (ht : SB T tb ρ mt { N with nx := fun ρ1 C1 => WSs T rest ρ1 C1 N }) (hf : SB T fb ρ mf { N with nx := fun ρ1 C1 => WSs T rest ρ1 C1 N }) : SB T (.If c tb fb pos :: rest) ρ (mIf t mt mf) N :=
  fun C q => wss_cons (ws_if ((h C _ q).mono fun k C1 h1 => by
    cases k with
    | true => exact ht C1 h1
    | false => exact hf C1 h1))
theorem sb_ifJ {α : Type} {t : MT} (enc : α → Rho) (J : α → MB) (h : ST T c ρ t) (hJ : ∀ a, SB T rest (enc a) (J a) N)
    (ht : ∀ W : QS, (∀ a ρ' C, LeR (enc a) ρ' → J a C → W ρ' C) → SB T tb ρ mt { N with nx := W }) (hf : ∀ W : QS, (∀ a ρ' C, LeR (enc a) ρ' → J a C → W ρ' C) → SB T fb ρ mf { N with nx := W }) : SB T (.If c tb fb pos :: rest) ρ (mIf t mt mf) N :=
  have hw : ∀ a ρ' C, LeR (enc a) ρ' → J a C → WSs T rest ρ' C N := fun a ρ' C l q => wss_forget l (hJ a C q)
  fun C q => wss_cons (ws_if ((h C _ q).mono fun k C1 h1 => by
    cases k with
    | true => exact ht _ hw C1 h1
    | false => exact hf _ hw C1 h1))
def mLoop {α : Type} (f : D → α → (α → MB) → (α → MB) → MB) (after : α → MB) (P : Cells → Prop) : List D → α → MB
  | [], s => fun C => P C ∧ after s C
  | d :: r, s => fun C => P C ∧ f d s (fun s' => mLoop f after P r s') after C
abbrev mFor {α : Type} (I : MI) (f : D → α → (α → MB) → (α → MB) → MB) (s0 : α) (after : α → MB) : MB := fun C => I C fun ds P C1 => mLoop f after P ds s0 C1
theorem loop_mirror {α : Type} {f : D → α → (α → MB) → (α → MB) → MB} {after : α → MB} {P : Cells → Prop} {enc : α → Rho}
    (hb : ∀ d s (nx bk : α → MB) (W V : QS), (∀ a ρ' C, LeR (enc a) ρ' → nx a C → W ρ' C) → (∀ a ρ' C, LeR (enc a) ρ' → bk a C → V ρ' C) → SG T tg d (enc s) body (f d s nx bk) { nx := W, rt := N.rt, bk := V, ct := W })
    (ha : ∀ a ρ' C, LeR (enc a) ρ' → after a C → N.nx ρ' C) : ∀ {ds : List D} {s : α} {ρ : Rho} {C : Cells}, LeR (enc s) ρ → mLoop f after P ds s C → ForW T tg body P N ds ρ C
  | [], s, ρ, C, l, ⟨hp, h⟩ => ⟨hp, ha s ρ C l h⟩
  | d :: r, s, ρ, C, l, ⟨hp, h⟩ => ⟨hp, wg_forget l (hb d s (fun s' => mLoop f after P r s') after (ForW T tg body P N r) N.nx (fun a ρ' C l h => loop_mirror hb ha l h) ha C h)⟩
theorem sb_for {α : Type} {f : D → α → (α → MB) → (α → MB) → MB} {iter : Expr} {I : MI} {s0 : α} {after : α → MB} (enc : α → Rho) (hc : X.calm = true) (hI : SI T tg iter ρ I) (h0 : LeR (enc s0) ρ)
    (hb : ∀ d s (nx bk : α → MB) (W V : QS), (∀ a ρ' C, LeR (enc a) ρ' → nx a C → W ρ' C) → (∀ a ρ' C, LeR (enc a) ρ' → bk a C → V ρ' C) → SG T tg d (enc s) body (f d s nx bk) { nx := W, rt := N.rt, bk := V, ct := W })
    (ha : ∀ s, SB T rest (enc s) (after s) N) (hs : ∀ x, foldedSetIterable iter X.env x = pure x := by intro _; rfl) : SB T (.For tg iter body [] pos :: rest) ρ (mFor I f s0 after) N :=
  fun C q => wss_cons (ws_for hc ((hI C _ q).mono fun ds P C1 h => loop_mirror (N := { N with nx := fun ρ1 C1 => WSs T rest ρ1 C1 N }) hb (fun a ρ' C l h => wss_forget l (ha a C h)) h0 h) hs)
theorem sg_name {d : D} {r : Rho} (j : Nat) (hr : ρ.set j (some d) = r) (h : SB T body r mm N) (hg : PG X (.Name x pos) (gName j)) : SG T (.Name x pos) d ρ body mm N :=
  fun C q => wg_name j (by rw [hr]; exact h C q) hg
def mUn2 (d : D) (f : D → D → MB) : MB := match d with
  | .tup [x, y] => f x y
  | _ => fun _ => False
def mUn3 (d : D) (f : D → D → D → MB) : MB := match d with
  | .tup [x, y, z] => f x y z
  | _ => fun _ => False
def mUn4 (d : D) (f : D → D → D → D → MB) : MB := match d with
  | .tup [x, y, z, u] => f x y z u
  | _ => fun _ => False
def mUn5 (d : D) (f : D → D → D → D → D → MB) : MB := match d with
  | .tup [x, y, z, u, v] => f x y z u v
  | _ => fun _ => False
theorem mUn2_ex {d : D} {f : D → D → MB} (h : mUn2 d f C) : ∃ x y, d = .tup [x, y] ∧ f x y C := by
  unfold mUn2 at h
  split at h
  · exact ⟨_, _, rfl, h⟩
  · exact False.elim h
theorem mUn3_ex {d : D} {f : D → D → D → MB} (h : mUn3 d f C) : ∃ x y z, d = .tup [x, y, z] ∧ f x y z C := by
  unfold mUn3 at h
  split at h
  · exact ⟨_, _, _, rfl, h⟩
  · exact False.elim h
def GsOk (T : TX X) (tgs : List Expr) (ds : List D) (ρ r : Rho) : Prop := ∀ (C : Cells) (Q : QS), Q r C → WGs T tgs ds ρ C Q
theorem gs_nil : GsOk T [] [] ρ ρ := fun C Q q => wgs_nil q
theorem gs_cons {d : D} {ds : List D} {r : Rho} (j : Nat) (hg : PG X (.Name x pos) (gName j)) (h : GsOk T tgs ds (ρ.set j (some d)) r)
    (hs : (assignEach (.Name x pos :: tgs) X.env).map (·.2) = assign (.Name x pos) X.env :: (assignEach tgs X.env).map (·.2) := by rfl) : GsOk T (.Name x pos :: tgs) (d :: ds) ρ r :=
  fun C Q q => wgs_cons (wg_name j (h C Q q) hg) hs
theorem wg_tupG {tgs : List Expr} {kk : Nat} {ds : List D} {Q : QS} {r : Rho} (hc : X.calm = true) (h : GsOk T tgs ds ρ r) (q : Q r C) (hn : (assignEach tgs X.env).length = ds.length) (hst : (assignEach tgs X.env).findIdx? (·.1) = none := by rfl) : WG T (.Tuple tgs kk pos) (.tup ds) ρ C Q :=
  wg_tup hc (h C Q q) rfl hn hst
theorem sg_two {d : D} {kk : Nat} {f : D → D → MB} {r : D → D → Rho} (hc : X.calm = true) (h : ∀ x y, GsOk T tgs [x, y] ρ (r x y)) (hb : ∀ x y, SB T body (r x y) (f x y) N) (hn : (assignEach tgs X.env).length = 2 := by rfl) (hst : (assignEach tgs X.env).findIdx? (·.1) = none := by rfl) : SG T (.Tuple tgs kk pos) d ρ body (mUn2 d f) N :=
  fun C q => by
    obtain ⟨x, y, e, q⟩ := mUn2_ex q
    subst e
    exact wg_tupG hc (h x y) (hb x y C q) hn hst
theorem sg_three {d : D} {kk : Nat} {f : D → D → D → MB} {r : D → D → D → Rho} (hc : X.calm = true) (h : ∀ x y z, GsOk T tgs [x, y, z] ρ (r x y z)) (hb : ∀ x y z, SB T body (r x y z) (f x y z) N) (hn : (assignEach tgs X.env).length = 3 := by rfl) (hst : (assignEach tgs X.env).findIdx? (·.1) = none := by rfl) : SG T (.Tuple tgs kk pos) d ρ body (mUn3 d f) N :=
  fun C q => by
    obtain ⟨x, y, z, e, q⟩ := mUn3_ex q
    subst e
    exact wg_tupG hc (h x y z) (hb x y z C q) hn hst
theorem sb_asg {kk : D → MB} (h : SE T e ρ A) (hk : ∀ d, SG T tg d ρ rest (kk d) N) (hs : swapsWithSole [tg] e pos.line X.env = pure false := by rfl) (hw : swappedStores [tg] e X.env = pure none := by rfl)
    (h1 : (assignEach [tg] X.env).map (·.2) = [assign tg X.env] := by rfl) : SB T (.Assign [tg] e pos :: rest) ρ (mSet A kk) N :=
  fun C q => wss_cons (ws_asg ((h C _ q).mono fun d C1 h1 => hk d C1 h1) hs hw h1)
theorem sb_par {kk : D → D → MB} {r : D → D → Rho} {px py pt pt2 : Pos} {y : Str} {kt k2 : Nat} (i j : Nat) (hN : X.N.Nodup) (hi : X.N[i]? = some x) (hj : X.N[j]? = some y) (hij : i ≠ j) (hx : X.env.scope.names.lookup x = some .local) (hy : X.env.scope.names.lookup y = some .local)
    (hw : swappedStores [.Tuple [.Name x px, .Name y py] kt pt] (.Tuple [a, b] k2 pt2) X.env = pure (some [x, y])) (ha : SE T a ρ A) (hb : SE T b ρ B) (hr : ∀ d d2, (ρ.set i (some d)).set j (some d2) = r d d2) (hk : ∀ d d2, SB T rest (r d d2) (kk d d2) N)
    (hs : swapsWithSole [.Tuple [.Name x px, .Name y py] kt pt] (.Tuple [a, b] k2 pt2) pos.line X.env = pure false := by rfl) (hc : X.calm = true := by rfl)
    (hst : starEach [a, b] X.env = (false, eval a X.env) :: starEach [b] X.env := by rfl) (hst2 : starEach [b] X.env = (false, eval b X.env) :: starEach [] X.env := by rfl) :
    SB T (.Assign [.Tuple [.Name x px, .Name y py] kt pt] (.Tuple [a, b] k2 pt2) pos :: rest) ρ (mSet A fun d => mSet B fun d2 => kk d d2) N :=
  fun C q => wss_cons (ws_par i j hN hi hj hij hx hy hw (wa_cons ((ha C _ q).mono fun d C1 h1 => wa_cons ((hb C1 _ h1).mono fun d2 C2 h2 => wa_nil ⟨d, d2, rfl, by show WSs T rest _ C2 N; rw [hr]; exact hk d d2 C2 h2⟩) hst2) hst) hs hc)
end
end Tr

set_option maxHeartbeats 4000000
namespace Tr
open PySem L2 PySem.Spec PyProof.Rows
section
variable {X : Cx} {T : TX X} {ρ ρ' : Rho} {C : Cells} {N : TEnds} {e a b c o i elt : Expr} {pos pos' p p2 apos cpos : Pos} {es tgs : List Expr} {st : Stmt} {rest body tb fb : List Stmt} {x m : Str} {A B A' : ME} {AS : MA} {mt mf mm : MB} {Q : QE}

def oAdd : D → D → ME
  | .int i, .int j => fun C Q => Q (.int (i + j)) C
  | .str x, .str y => fun C Q => x.length + y.length ≤ 100000 ∧ Q (.str (x ++ y)) C
  | .tup xs, .tup ys => fun C Q => xs.length + ys.length ≤ 100000 ∧ Q (.tup (xs ++ ys)) C
  | .lst xs, .lst ys => fun C Q => xs.length + ys.length ≤ 100000 ∧ Q (.lst (xs ++ ys)) C
  | x, y => fun C Q => ∃ xs ys, LstD C x xs ∧ LstD C y ys ∧ xs.length + ys.length ≤ 100000 ∧ Q (.lst (xs ++ ys)) C
theorem oAdd_ok (x y : D) (C : Cells) (Q : QE) (h : oAdd x y C Q) : OW T (binaryOp .Add) x y C Q := by
  unfold oAdd at h
  split at h
  · exact ow_add h
  · exact ow_add_str h.1 h.2
  · exact ow_catT h.1 h.2
  · exact ow_cat .l .l h.1 h.2
  · obtain ⟨xs, ys, h1, h2, h3, h4⟩ := h; exact ow_cat h1 h2 h3 h4
def oAddC (x y : D) : ME := fun C Q => ∃ xs ys, LstD C x xs ∧ LstD C y ys ∧ xs.length + ys.length ≤ 100000 ∧ ∀ p, Q (.raw (.ref p)) ((p, .lst (xs ++ ys)) :: C)
theorem oAddC_ok (x y : D) (C : Cells) (Q : QE) (h : oAddC x y C Q) : OW T (binaryOp .Add) x y C Q := by
  obtain ⟨xs, ys, h1, h2, h3, h4⟩ := h; exact ow_catC h1 h2 h3 h4
def oSub : D → D → ME
  | .int i, .int j => fun C Q => Q (.int (i - j)) C
  | _, _ => fun _ _ => False
def oMul : D → D → ME
  | .int i, .int j => fun C Q => CMul i j ∧ Q (.int (i * j)) C
  | _, _ => fun _ _ => False
theorem oMul_ok (x y : D) (C : Cells) (Q : QE) (h : oMul x y C Q) : OW T (binaryOp .Mult) x y C Q := by
  unfold oMul at h; split at h
  · exact ow_mul h.1 h.2
  · exact h.elim
def oFdiv : D → D → ME
  | .int i, .int j => fun C Q => (0 < j ∧ j < 1073741824) ∧ Q (.int (i / j)) C
  | _, _ => fun _ _ => False
theorem oFdiv_ok (x y : D) (C : Cells) (Q : QE) (h : oFdiv x y C Q) : OW T (binaryOp .FloorDiv) x y C Q := by
  unfold oFdiv at h; split at h
  · exact ow_fdiv h.1 h.2
  · exact h.elim
def oMod : D → D → ME
  | .int i, .int j => fun C Q => 0 < j ∧ Q (.int (i % j)) C
  | _, _ => fun _ _ => False
theorem oMod_ok (x y : D) (C : Cells) (Q : QE) (h : oMod x y C Q) : OW T (binaryOp .Mod) x y C Q := by
  unfold oMod at h; split at h
  · exact ow_mod h.1 h.2
  · exact h.elim
def oPow : D → D → ME
  | .int i, .int j => fun C Q => CPow i j ∧ Q (.int (i ^ j.toNat)) C
  | _, _ => fun _ _ => False
theorem oPow_ok (x y : D) (C : Cells) (Q : QE) (h : oPow x y C Q) : OW T (binaryOp .Pow) x y C Q := by
  unfold oPow at h; split at h
  · exact ow_pow h.1 h.2
  · exact h.elim
def oLt : D → D → ME
  | .int i, .int j => fun C Q => Q (.bl (decide (i < j))) C
  | .str x, .str y => fun C Q => Q (.bl (decide (x.cps.toList < y.cps.toList))) C
  | _, _ => fun _ _ => False
def oLe : D → D → ME
  | .int i, .int j => fun C Q => Q (.bl (decide (i ≤ j))) C
  | .str x, .str y => fun C Q => Q (.bl (!decide (y.cps.toList < x.cps.toList))) C
  | _, _ => fun _ _ => False
def oGt : D → D → ME
  | .int i, .int j => fun C Q => Q (.bl (decide (j < i))) C
  | _, _ => fun _ _ => False
theorem oGt_ok (x y : D) (C : Cells) (Q : QE) (h : oGt x y C Q) : OW T (compareOp .Gt) x y C Q := by
  unfold oGt at h; split at h
  · exact ow_gt h
  · exact h.elim
def oGe : D → D → ME
  | .int i, .int j => fun C Q => Q (.bl (decide (j ≤ i))) C
  | _, _ => fun _ _ => False
theorem oGe_ok (x y : D) (C : Cells) (Q : QE) (h : oGe x y C Q) : OW T (compareOp .GtE) x y C Q := by
  unfold oGe at h; split at h
  · exact ow_ge h
  · exact h.elim
def oEq (own : D → D → ME) : D → D → ME
  | .int i, .int j => fun C Q => Q (.bl (decide (i = j))) C
  | .str x, .str y => fun C Q => Q (.bl (decide (x = y))) C
  | .bl x, .bl y => fun C Q => Q (.bl (x == y)) C
  | x, y => fun C Q => (∃ p1 p2, PyR C x p1 ∧ PyR C y p2 ∧ SeqAt.shaped p1 = true ∧ SeqAt.shaped p2 = true ∧ Q (.bl (PyData.eqv p1 p2)) C) ∨ own x y C Q
theorem oEq_ok {own : D → D → ME} (hu : X.A.units + 64 < cLine) (ho : ∀ x y C Q, own x y C Q → OW T (compareOp .Eq) x y C Q) (x y : D) (C : Cells) (Q : QE) (h : oEq own x y C Q) : OW T (compareOp .Eq) x y C Q := by
  unfold oEq at h; split at h
  · exact ow_eq_int h
  · exact ow_eq_str h
  · exact ow_eq_bl h
  · rcases h with ⟨p1, p2, h1, h2, h3, h4, h5⟩ | h
    · exact ow_eq hu h1 h2 h3 h4 h5
    · exact ho _ _ _ _ h
def oNe (own : D → D → ME) : D → D → ME
  | .int i, .int j => fun C Q => Q (.bl (!decide (i = j))) C
  | .str x, .str y => fun C Q => Q (.bl (!decide (x = y))) C
  | .bl x, .bl y => fun C Q => Q (.bl (x != y)) C
  | x, y => fun C Q => (∃ p1 p2, PyR C x p1 ∧ PyR C y p2 ∧ SeqAt.shaped p1 = true ∧ SeqAt.shaped p2 = true ∧ Q (.bl (!PyData.eqv p1 p2)) C) ∨ own x y C Q
theorem oNe_ok {own : D → D → ME} (hu : X.A.units + 64 < cLine) (ho : ∀ x y C Q, own x y C Q → OW T (compareOp .NotEq) x y C Q) (x y : D) (C : Cells) (Q : QE) (h : oNe own x y C Q) : OW T (compareOp .NotEq) x y C Q := by
  unfold oNe at h; split at h
  · exact ow_ne_int h
  · exact ow_ne_str h
  · exact ow_ne_bl h
  · rcases h with ⟨p1, p2, h1, h2, h3, h4, h5⟩ | h
    · exact ow_ne hu h1 h2 h3 h4 h5
    · exact ho _ _ _ _ h
abbrev noOwn : D → D → ME := fun _ _ _ _ => False
theorem noOwn_ok {f : Value → Value → Sem Value} (x y : D) (C : Cells) (Q : QE) (h : noOwn x y C Q) : OW T f x y C Q := h.elim
def oIs : D → D → ME
  | .bl x, .bl y => fun C Q => Q (.bl (decide (x = y))) C
  | .raw (.ref _), .non => fun C Q => Q (.bl false) C
  | d, .non => fun C Q => (∀ w, d ≠ .raw w) ∧ Q (.bl (isNon d)) C
  | _, _ => fun _ _ => False
def oIsNot : D → D → ME
  | .bl x, .bl y => fun C Q => Q (.bl (!decide (x = y))) C
  | .raw (.ref _), .non => fun C Q => Q (.bl true) C
  | d, .non => fun C Q => (∀ w, d ≠ .raw w) ∧ Q (.bl (!isNon d)) C
  | _, _ => fun _ _ => False
def oIn (x y : D) : ME := fun C Q => (∃ ds, SeqD C y ds ∧ flatD x = true ∧ ds.all flatD = true ∧ Q (.bl (inD x ds)) C) ∨ (∃ n z, x = .str ⟨#[n]⟩ ∧ y = .str z ∧ Q (.bl (decide (n ∈ z.cps.toList))) C)
theorem oIn_ok (x y : D) (C : Cells) (Q : QE) (h : oIn x y C Q) : OW T (compareOp .In) x y C Q := by
  rcases h with ⟨ds, h1, h2, h3, h4⟩ | ⟨n, z, rfl, rfl, h⟩
  · exact ow_in h1 h2 h3 h4
  · exact ow_inSign h
def oNotIn (x y : D) : ME := fun C Q => ∃ ds, SeqD C y ds ∧ flatD x = true ∧ ds.all flatD = true ∧ Q (.bl (!inD x ds)) C
theorem oNotIn_ok (x y : D) (C : Cells) (Q : QE) (h : oNotIn x y C Q) : OW T (compareOp .NotIn) x y C Q := by
  obtain ⟨ds, h1, h2, h3, h4⟩ := h
  exact ow_notIn h1 h2 h3 h4

abbrev no1 : D → ME := fun _ _ _ => False
def pLen1 (own : D → ME) : D → ME
  | .lst ds => fun C Q => Q (.int ds.length) C
  | .tup ds => fun C Q => Q (.int ds.length) C
  | .str s => fun C Q => s.length ≤ 100000 ∧ Q (.int s.length) C
  | d => fun C Q => (∃ ds, LstD C d ds ∧ Q (.int ds.length) C) ∨ own d C Q
def on1 (P : D → ME) : List D → ME
  | [d] => P d
  | _ => fun _ _ => False
def on2 (P : D → D → ME) : List D → ME
  | [d, d2] => P d d2
  | _ => fun _ _ => False
theorem on1_ok {P : D → ME} {f : Value} (h : ∀ d C Q, P d C Q → CW T f [d] C Q) (ds : List D) (C : Cells) (Q : QE) (q : on1 P ds C Q) : CW T f ds C Q := by
  unfold on1 at q; split at q
  · exact h _ _ _ q
  · exact q.elim
theorem on2_ok {P : D → D → ME} {f : Value} (h : ∀ d d2 C Q, P d d2 C Q → CW T f [d, d2] C Q) (ds : List D) (C : Cells) (Q : QE) (q : on2 P ds C Q) : CW T f ds C Q := by
  unfold on2 at q; split at q
  · exact h _ _ _ _ q
  · exact q.elim
theorem no1_ok {f : Value} (d : D) (C : Cells) (Q : QE) (q : no1 d C Q) : CW T f [d] C Q := q.elim
theorem pLen_ok {own : D → ME} (ho : ∀ d C Q, own d C Q → CW T (.builtin "len") [d] C Q) (ds : List D) (C : Cells) (Q : QE) (h : on1 (pLen1 own) ds C Q) : CW T (.builtin "len") ds C Q :=
  on1_ok (fun d C Q h => by
    unfold pLen1 at h; split at h
    · exact cw_len .l h
    · exact cw_len .t h
    · exact cw_len_str h.1 h.2
    · rcases h with ⟨ds, h1, h2⟩ | h
      · exact cw_len (.inl h1) h2
      · exact ho _ _ _ h) ds C Q h
def pStr1 (own : D → ME) : D → ME
  | .str s => fun C Q => Q (.str s) C
  | .int i => fun C Q => i.natAbs.log2 < 1920 ∧ Q (.str (toString i)) C
  | d => own d
theorem pStr_ok {own : D → ME} (ho : ∀ d C Q, own d C Q → CW T (.type "str") [d] C Q) (ds : List D) (C : Cells) (Q : QE) (h : on1 (pStr1 own) ds C Q) : CW T (.type "str") ds C Q :=
  on1_ok (fun d C Q h => by
    unfold pStr1 at h; split at h
    · exact cw_str_str h
    · exact cw_str_int h.1 h.2
    · exact ho _ _ _ h) ds C Q h
def pInt1 : D → ME
  | .int i => fun C Q => Q (.int i) C
  | .bl k => fun C Q => Q (.int (if k then 1 else 0)) C
  | .str s => fun C Q => s.length ≤ 640 ∧ ∃ n, intText? s = some n ∧ Q (.int n) C
  | _ => fun _ _ => False
theorem pInt_ok (ds : List D) (C : Cells) (Q : QE) (h : on1 pInt1 ds C Q) : CW T (.type "int") ds C Q :=
  on1_ok (fun d C Q h => by
    unfold pInt1 at h; split at h
    · exact cw_int h
    · exact cw_int_bl h
    · obtain ⟨h1, n, h2, h3⟩ := h; exact cw_int_str h2 h1 h3
    · exact h.elim) ds C Q h
def pList1 : D → ME
  | .lst ds => fun C Q => Q (.lst ds) C
  | .tup ds => fun C Q => Q (.lst ds) C
  | d => fun C Q => ∃ ds, SeqD C d ds ∧ Q (.lst ds) C
def pListC1 : D → ME
  | .lst ds => fun C Q => ∀ p, Q (.raw (.ref p)) ((p, .lst ds) :: C)
  | .tup ds => fun C Q => ∀ p, Q (.raw (.ref p)) ((p, .lst ds) :: C)
  | d => fun C Q => ∃ ds, SeqD C d ds ∧ ∀ p, Q (.raw (.ref p)) ((p, .lst ds) :: C)
def pTuple1 : D → ME
  | .lst ds => fun C Q => Q (.tup ds) C
  | .tup ds => fun C Q => Q (.tup ds) C
  | d => fun C Q => ∃ ds, SeqD C d ds ∧ Q (.tup ds) C
theorem pTuple_ok (ds : List D) (C : Cells) (Q : QE) (h : on1 pTuple1 ds C Q) : CW T (.type "tuple") ds C Q :=
  on1_ok (fun d C Q h => by
    unfold pTuple1 at h; split at h
    · exact cw_tuple .l h
    · exact cw_tuple .t h
    · obtain ⟨ds, h1, h2⟩ := h; exact cw_tuple h1 h2) ds C Q h
def pAll1 (d : D) : ME := fun C Q => ∃ bs : List Bool, d = .lst (bs.map D.bl) ∧ Q (.bl (bs.all id)) C
def pAny1 (d : D) : ME := fun C Q => ∃ bs : List Bool, d = .lst (bs.map D.bl) ∧ Q (.bl (bs.any id)) C
theorem pAll_ok (hc : X.calm = true) (ds : List D) (C : Cells) (Q : QE) (h : on1 pAll1 ds C Q) : CW T (.builtin "all") ds C Q :=
  on1_ok (fun d C Q ⟨bs, h1, h2⟩ => by subst h1; exact cw_all hc h2) ds C Q h
def pAbs1 : D → ME
  | .int i => fun C Q => Q (.int (if i < 0 then -i else i)) C
  | _ => fun _ _ => False
theorem pAbs_ok (ds : List D) (C : Cells) (Q : QE) (h : on1 pAbs1 ds C Q) : CW T (.builtin "abs") ds C Q :=
  on1_ok (fun d C Q h => by
    unfold pAbs1 at h; split at h
    · exact cw_abs h
    · exact h.elim) ds C Q h
def pMax2 : D → D → ME
  | .int i, .int j => fun C Q => Q (.int (if j > i then j else i)) C
  | _, _ => fun _ _ => False
def pIsI (K : W.Frag) (x y : D) : ME := fun C Q => (∃ t u b, ClsD y u ∧ TyD K C x t ∧ W.kitOne K t u = some b ∧ Q (.bl b) C) ∨ (∃ ds t us b, y = .tup ds ∧ Paired ClsD ds us ∧ TyD K C x t ∧ W.kitAny K t us = some b ∧ Q (.bl b) C)
theorem pIsI_ok {K : W.Frag} (hK : X.K = K := by rfl) (ds : List D) (C : Cells) (Q : QE) (h : on2 (pIsI K) ds C Q) : CW T (.builtin "isinstance") ds C Q := by
  subst hK
  exact on2_ok (fun d d2 C Q h => by
    rcases h with ⟨t, u, b, h1, h2, h3, h4⟩ | ⟨es, t, us, b, rfl, h1, h2, h3, h4⟩
    · exact cw_isi h1 h2 h3 h4
    · exact cw_isiT h1 h2 h3 h4) ds C Q h
structure ShowOk (p : PyData) : Prop where
  lay : p.canLay0 = true
  sh : p.showable = true
  nd : p.hasDict = false
  shi : p.intsShort 12 = true
structure ShowsOk (ps : List PyData) : Prop where
  lay : PyData.canLayAll0 ps = true
  sh : PyData.showableAll ps = true
  nd : PyData.hasDictAll ps = false
  shi : PyData.intsShortAll 12 ps = true
theorem ShowsOk.nil : ShowsOk [] := ⟨rfl, rfl, rfl, rfl⟩
theorem ShowsOk.cons {p : PyData} {ps : List PyData} (h : ShowOk p) (t : ShowsOk ps) : ShowsOk (p :: ps) :=
  ⟨by rw [PyData.canLayAll0, h.lay, t.lay]; rfl, by rw [PyData.showableAll, h.sh, t.sh]; rfl, by rw [PyData.hasDictAll, h.nd, t.nd]; rfl, by rw [PyData.intsShortAll, h.shi, t.shi]; rfl⟩
theorem ShowOk.tup {ps : List PyData} (t : ShowsOk ps) : ShowOk (.tuple ps) := ⟨by rw [PyData.canLay0]; exact t.lay, by rw [PyData.showable]; exact t.sh, by rw [PyData.hasDict]; exact t.nd, by rw [PyData.intsShort]; exact t.shi⟩
theorem ShowOk.lst {ps : List PyData} (t : ShowsOk ps) : ShowOk (.list ps) := ⟨by rw [PyData.canLay0]; exact t.lay, by rw [PyData.showable]; exact t.sh, by rw [PyData.hasDict]; exact t.nd, by rw [PyData.intsShort]; exact t.shi⟩
theorem shorts : ∀ xs : List Str, PyData.intsShortAll 12 (toPys (xs.map D.str)) = true
  | [] => rfl
  | x :: xs => by
    show PyData.intsShortAll 12 (toPy (.str x) :: toPys (xs.map D.str)) = true
    rw [PyData.intsShortAll, shorts xs]; rfl
theorem ShowsOk.strs {xs : List Str} (h : ∀ x ∈ xs, PyData.strOk x = true) : ShowsOk (toPys (xs.map D.str)) := ⟨(lay_strs h).1, (show_strs h).1, (show_strs h).2.1, shorts xs⟩
theorem ShowOk.str {x : Str} (h : PyData.strOk x = true) : ShowOk (.str x) := by
  have z := ShowsOk.strs (xs := [x]) (by simpa using h)
  obtain ⟨a, b, c, d⟩ := z
  simp only [List.map, toPys, toPy, PyData.canLayAll0, PyData.showableAll, PyData.hasDictAll, PyData.intsShortAll, Bool.and_true, Bool.or_false] at a b c d
  exact ⟨a, b, c, d⟩

variable {k : Nat} {f Cl : Addr} {fd : FuncData} {ps : List Str} {F : FS} {Xq : QX}
def callN (F : FS) (ds : List D) : ME := fun C Q => ∃ μ r, C.Perm (μ ++ r) ∧ F ds μ (fun d μ' => Q d (μ' ++ r)) fun _ _ _ => False
theorem callN.asks {ds : List D} (h : callN F ds C Q) : AsksN (up F) ds C Q := let ⟨μ, r, pm, z⟩ := h; ⟨μ, r, pm, _, _, z, fun _ _ q => q, fun _ _ _ q => q⟩
theorem AsksN.mono {ds : List D} {Q' : QE} (h : AsksN (up F) ds C Q) (i : ∀ d C, Q d C → Q' d C) : AsksN (up F) ds C Q' :=
  let ⟨μ, r, pm, Q1, Qx1, z, i1, i2⟩ := h; ⟨μ, r, pm, Q1, Qx1, z, fun d C' q => i _ _ (i1 d C' q), i2⟩
def ownStr (Cl : Addr) (F : FS) (x : D) : ME := fun C Q => ∃ ns ds, InsD C x Cl ns ds ∧ callN F [x] C fun d C' => ∃ z : Str, d = .str z ∧ Q (.str z) C'
theorem ownStr_ok {K : W.Frag} (hs : W.findIn K (.ref Cl) "__str__" = some (some (.ref f))) (hf : W.isFn K (.ref f) = true) (Fk : FnG X.prog X.w K X.mg X.base k f fd ps F) (hr : RoomG (k + 2) X.A) (hb : Binds K fd ps []) (hK : X.K = K := by rfl)
    (x : D) (C : Cells) (Q : QE) (h : ownStr Cl F x C Q) : CW T (.type "str") [x] C Q := by
  subst hK
  obtain ⟨ns, ds, h1, h2⟩ := h
  exact cw_strOwn hs hf Fk.up hr hb h1 h2.asks
def onStr {β : Sort _} (d : D) (k : Str → Cells → β → Prop) : Cells → β → Prop := match d with
  | .str s => k s
  | _ => fun _ _ => False
theorem onStr_ex {β : Sort _} {d : D} {k : Str → Cells → β → Prop} {q : β} (h : onStr d k C q) : ∃ s, d = .str s ∧ k s C q := by
  cases d with
  | str s => exact ⟨s, rfl, h⟩
  | _ => exact h.elim
abbrev eStr1 (A B : ME) (O : Str → D → ME) : ME := fun C Q => A C fun d C1 => onStr d (fun s C1 Q => B C1 fun y C2 => O s y C2 Q) C1 Q
def pSplit (s : Str) (y : D) : ME := onStr y fun t C Q => (t.length == 0) = false ∧ s.length ≤ 100000 ∧ Q (.lst ((Txt.split s t).map D.str)) C
def pPart (s : Str) (y : D) : ME := onStr y fun t C Q => (t.length == 0) = false ∧ s.length ≤ 100000 ∧ Q (.tup [.str (Txt.partition s t).1, .str (Txt.partition s t).2.1, .str (Txt.partition s t).2.2]) C
def pStarts (s : Str) (y : D) : ME := onStr y fun t C Q => Q (.bl (Txt.startswith s t)) C
def pJoin (s : Str) (y : D) : ME := fun C Q => ∃ ys : List Str, SeqD C y (ys.map D.str) ∧ (ys.map (·.length)).sum + ys.length * s.length ≤ 100000 ∧ Q (.str (Txt.join s ys)) C
theorem se_split (ho : SE T o ρ A) (he : SE T e ρ B) (hs : starEach [e] X.env = [(false, eval e X.env)] := by rfl) (hbase : attributeBase o "split" X.env (eval o X.env) = eval o X.env := by rfl) (hline : (apos.endLine == pos.line) = true := by rfl) : SE T (.Call (.Attribute o "split" apos) [e] [] pos) ρ (eStr1 A B pSplit) :=
  fun C Q q => we_split ((ho C _ q).mono fun d C1 h1 => by
    obtain ⟨s, e1, h1⟩ := onStr_ex h1
    exact ⟨s, e1, (he C1 _ h1).mono fun y C2 h2 => by obtain ⟨t, e2, h2⟩ := onStr_ex h2; exact ⟨t, e2, h2⟩⟩) hs hbase hline
theorem se_partition (ho : SE T o ρ A) (he : SE T e ρ B) (hs : starEach [e] X.env = [(false, eval e X.env)] := by rfl) (hbase : attributeBase o "partition" X.env (eval o X.env) = eval o X.env := by rfl) (hline : (apos.endLine == pos.line) = true := by rfl) : SE T (.Call (.Attribute o "partition" apos) [e] [] pos) ρ (eStr1 A B pPart) :=
  fun C Q q => we_partition ((ho C _ q).mono fun d C1 h1 => by
    obtain ⟨s, e1, h1⟩ := onStr_ex h1
    exact ⟨s, e1, (he C1 _ h1).mono fun y C2 h2 => by obtain ⟨t, e2, h2⟩ := onStr_ex h2; exact ⟨t, e2, h2⟩⟩) hs hbase hline
theorem se_startswith (ho : SE T o ρ A) (he : SE T e ρ B) (hs : starEach [e] X.env = [(false, eval e X.env)] := by rfl) (hbase : attributeBase o "startswith" X.env (eval o X.env) = eval o X.env := by rfl) (hline : (apos.endLine == pos.line) = true := by rfl) : SE T (.Call (.Attribute o "startswith" apos) [e] [] pos) ρ (eStr1 A B pStarts) :=
  fun C Q q => we_startswith ((ho C _ q).mono fun d C1 h1 => by
    obtain ⟨s, e1, h1⟩ := onStr_ex h1
    exact ⟨s, e1, (he C1 _ h1).mono fun y C2 h2 => by obtain ⟨t, e2, h2⟩ := onStr_ex h2; exact ⟨t, e2, h2⟩⟩) hs hbase hline
theorem se_join (ho : SE T o ρ A) (he : SE T e ρ B) (hs : starEach [e] X.env = [(false, eval e X.env)] := by rfl) (hbase : attributeBase o "join" X.env (eval o X.env) = eval o X.env := by rfl) (hline : (apos.endLine == pos.line) = true := by rfl) : SE T (.Call (.Attribute o "join" apos) [e] [] pos) ρ (eStr1 A B pJoin) :=
  fun C Q q => we_join ((ho C _ q).mono fun d C1 h1 => by
    obtain ⟨s, e1, h1⟩ := onStr_ex h1
    exact ⟨s, e1, (he C1 _ h1).mono fun y C2 ⟨ys, h3, h4, h5⟩ => ⟨ys, h3, h4, h5⟩⟩) hs hbase hline

abbrev MJ := Str → Cells → (Str → Cells → Prop) → Prop
def SJ (T : TX X) (es : List Expr) (ρ : Rho) (J : MJ) : Prop := ∀ acc C Q, J acc C Q → WJ T es acc ρ C Q
abbrev jNil : MJ := fun acc C Q => Q acc C
abbrev jCons (A : ME) (J : MJ) : MJ := fun acc C Q => A C fun d C1 => onStr d (fun y C1 Q => (acc ++ y).length ≤ 100000 ∧ J (acc ++ y) C1 Q) C1 Q
theorem sj_nil : SJ T [] ρ jNil := fun acc C Q q => wj_nil q
theorem sj_cons {J : MJ} (h : SE T e ρ A) (hj : SJ T es ρ J) : SJ T (e :: es) ρ (jCons A J) := fun acc C Q q => wj_cons ((h C _ q).mono fun d C1 h1 => by
  obtain ⟨y, e1, h2, h3⟩ := onStr_ex h1
  exact ⟨y, e1, h2, hj _ _ _ h3⟩)
abbrev eJoin (J : MJ) : ME := fun C Q => J Str.empty C fun out C1 => Q (.str out) C1
theorem se_joined {J : MJ} {v1 v2 : Expr} {r : List Expr} (h : SJ T (v1 :: v2 :: r) ρ J) : SE T (.JoinedStr (v1 :: v2 :: r) pos) ρ (eJoin J) := fun C Q q => we_joined (h _ _ _ q)
def pFmt : D → ME
  | .str y => fun C Q => y.length ≤ 100000 ∧ Q (.str y) C
  | .int i => fun C Q => i.natAbs.log2 < 1920 ∧ Q (.str (toString i)) C
  | _ => fun _ _ => False
theorem se_fmt (h : SE T e ρ A) : SE T (.FormattedValue e (-1) none pos) ρ (eApp A pFmt) := fun C Q q => we_fmt ((h C _ q).mono fun d C1 h1 => by
  cases d with
  | str y => exact .inl ⟨y, rfl, h1⟩
  | int i => exact .inr ⟨i, rfl, h1⟩
  | _ => exact h1.elim)

def isL (d : D) (C : Cells) : Prop := ∃ z ds, d = .raw (.ref z) ∧ (z, Cell.lst ds) ∈ C
def pApp (od d : D) : ME := fun C Q => ∃ (i : Nat) (z : Addr) (ds : List D), od = .raw (.ref z) ∧ C[i]? = some (z, .lst ds) ∧ ds.length < 100000 ∧ Q .non (C.set i (z, .lst (ds ++ [d])))
abbrev eL1 (A B : ME) (O : D → D → ME) : ME := fun C Q => A C fun od C1 => isL od C1 ∧ B C1 fun d C2 => O od d C2 Q
theorem se_append (ho : SE T o ρ A) (ha : SE T a ρ B)
    (hbase : attributeBase o "append" X.env (eval o X.env) = eval o X.env := by rfl) (hline : (apos.endLine == cpos.line) = true := by rfl) (hs : starEach [a] X.env = (false, eval a X.env) :: starEach [] X.env := by rfl)
    (hfew : ((backTo cpos (starEach [a] X.env)).all (fun x => !x.1) && (backToKw cpos (keywordEach [] X.env)).all (fun x => x.1.isSome)
      && decide (([a] : List Expr).length + ([] : List Keyword).length + (if ([] : List Keyword).isEmpty then 0 else 1) < 30)) = true := by rfl) (hplain : (backTo cpos (starEach [] X.env)).any (·.1) = false := by rfl) :
    SE T (.Call (.Attribute o "append" apos) [a] [] cpos) ρ (eL1 A B pApp) := fun C Q q => by
  have h : Tr.WE T o ρ C fun od C1 => isL od C1 ∧ Tr.WE T a ρ C1 fun d C2 => pApp od d C2 Q := (ho C _ q).mono fun od C1 ⟨h1, h2⟩ => ⟨h1, ha C1 _ h2⟩
  refine PE.imp (pe_bm F.plainAttrs_list F.slot_list_append F.type_list_append mt_append h (pa_cons (pe_some T ρ a) pa_nil hs) hbase hfew hline hs hplain) fun σ H R ⟨H0, at_, k⟩ => ⟨H0, at_, fun v od C1 H1 H01 p1 c1 r1 ⟨⟨z, ds, e1, hz⟩, hw⟩ => ?_⟩
  subst e1
  obtain rfl : v = .ref z := r1
  obtain ⟨vs, g1, g2⟩ := c1.ok z _ hz
  refine ⟨.inl ⟨rfl, vs, .inl (.inl g1)⟩, C1, _, hw, H01, at_.step p1 c1, fun v2 d C2 H2 H02 p2 c2 r2 ⟨i, z2, ds2, ez, hi2, hl, q⟩ => ?_⟩
  cases ez
  obtain ⟨vs2, f1, f2⟩ := c2.ok z _ (List.mem_iff_getElem?.mpr ⟨i, hi2⟩)
  refine ⟨z, vs2, v2, rfl, rfl, f1, ?_, ?_⟩
  · rw [← f2.length]; exact Nat.lt_trans hl (by decide)
  · obtain ⟨p3, c3⟩ := stp_write (o := .lst (vs2 ++ [v2])) c2 hi2 (c' := .lst (ds2 ++ [d])) ⟨_, upd_same, f2.append (Reps.cons r2 Reps.nil)⟩
    exact k _ .non _ _ _ ((p1.trans c1 p2).trans c2 p3) c3 rfl q
def pPop (od : D) : ME := fun C Q => ∃ (i : Nat) (z : Addr) (ds : List D) (d : D), od = .raw (.ref z) ∧ C[i]? = some (z, .lst (ds ++ [d])) ∧ Q d (C.set i (z, .lst ds))
theorem se_pop (ho : SE T o ρ A) (hbase : attributeBase o "pop" X.env (eval o X.env) = eval o X.env := by rfl) (hline : (apos.endLine == cpos.line) = true := by rfl) :
    SE T (.Call (.Attribute o "pop" apos) [] [] cpos) ρ (eApp A pPop) := fun C Q q => by
  refine PE.imp (pe_bm0 F.plainAttrs_list F.slot_list_pop F.type_list_pop mt_pop (ho C _ q) hbase hline) fun σ H R ⟨H0, at_, k⟩ => ⟨H0, at_, fun v od C1 H1 H01 p1 c1 r1 ⟨i, z, ds, d, e1, hi, q⟩ => ?_⟩
  subst e1
  obtain rfl : v = .ref z := r1
  obtain ⟨vs, g1, g2⟩ := c1.ok z _ (List.mem_iff_getElem?.mpr ⟨i, hi⟩)
  obtain ⟨vs1, vs2, e2, f1, f2⟩ := g2.split
  obtain ⟨v2, e3, f3⟩ := f2.one
  subst e3; subst e2
  refine ⟨.inl ⟨rfl, _, .inl (.inl g1)⟩, z, _, v2, rfl, rfl, g1, by simp, ?_⟩
  obtain ⟨p3, c3⟩ := stp_write (o := .lst vs1) c1 hi (c' := .lst ds) ⟨_, upd_same, f1⟩
  rw [List.dropLast_concat]
  exact k v2 d _ _ _ (p1.trans c1 p3) c3 f3 q
abbrev mSub (A B : ME) (d : D) (mm : MB) : MB := fun C => A C fun od C1 => B C1 fun id C2 => ∃ (j : Nat) (z : Addr) (ds : List D) (k : Int) (n : Nat), od = .raw (.ref z) ∧ id = .int k ∧ C2[j]? = some (z, .lst ds) ∧ ixN ds.length k = some n ∧ mm (C2.set j (z, .lst (ds.set n d)))
theorem sg_sub {d : D} (ho : SE T o ρ A) (hb : SE T b ρ B) (h : SB T body ρ mm N)
    (ha : ∀ v, assign (.Subscript o b pos) X.env v = (do
      let ov ← holding [v] (eval o X.env)
      let iv ← holding [v, ov] (eval b X.env)
      standAt pos
      holding [v, ov, iv] (setItem ov iv v)
      release [v, ov, iv] []) := by intro _; rfl) : SG T (.Subscript o b pos) d ρ body (mSub A B d mm) N := fun C q => by
  refine PG.imp (pg_sub (ho C _ q) (pe_some T ρ b) set_list ha) fun v σ H R ⟨H0, at_, r, k⟩ => ⟨H0, at_, fun v1 od C1 H1 H01 p1 c1 r1 q1 => ⟨C1, _, hb C1 _ q1, H01, at_.step p1 c1, fun v2 id C2 H2 H02 p2 c2 r2 ⟨j, z, ds, kk, n, e1, e2, hi, hn, q⟩ => ?_⟩⟩
  subst e1; subst e2
  obtain rfl : v1 = .ref z := r1
  cases r2
  obtain ⟨vs, g1, g2⟩ := c2.ok z _ (List.mem_iff_getElem?.mpr ⟨j, hi⟩)
  obtain ⟨p3, c3⟩ := stp_write (o := .lst (vs.set n v)) c2 hi (c' := .lst (ds.set n d)) ⟨_, upd_same, Reps.set ((r.mono p1.base).mono p2.base) n g2⟩
  have at3 := ((at_.step p1 c1).step p2 c2).step p3 c3
  exact ⟨z, vs, kk, n, rfl, rfl, g1, by rw [← g2.length]; exact hn, k _ _ _ _ _ ((p1.trans c1 p2).trans c2 p3) c3 at3.s at3.l (h _ q)⟩
abbrev mFld (K : W.Frag) (A B : ME) (m : Str) (mm : MB) : MB := fun C => A C fun d C1 => B C1 fun od C2 => ∃ (i : Nat) (z Cl : Addr) (ns : List Str) (ds : List D), od = .raw (.ref z) ∧ C2[i]? = some (z, .ins Cl ns ds) ∧ Cls K Cl ∧ NoAttr K Cl m ∧ ns.length < 1000 ∧ mm (C2.set i (z, .ins Cl (putN m d ns ds).1 (putN m d ns ds).2))
theorem sb_fld {pos' : Pos} (h : SE T e ρ A) (ho : SE T o ρ B) (hk : SB T rest ρ mm N) (hs : swapsWith e (some (.Attribute o m pos')) pos.line X.env = pure false := by rfl) : SB T (.Assign [.Attribute o m pos'] e pos :: rest) ρ (mFld X.K A B m mm) N :=
  fun C q => wss_cons (PS.imp (ps_fld (pe_some T ρ o) (h C _ q) hs) fun Dn σ H ⟨H0, at_, k⟩ => ⟨H0, at_, fun v d C1 H1 H01 p1 c1 r1 q1 => ⟨C1, _, ho C1 _ q1, H01, at_.step p1 c1, fun v2 od C2 H2 H02 p2 c2 r2 ⟨i, z, Cl, ns, ds, e1, hi, hc, hn, hl, q⟩ => by
    subst e1
    obtain rfl : v2 = .ref z := r2
    obtain ⟨dx, vs, g1, g2, g3⟩ := c2.ok z _ (List.mem_iff_getElem?.mpr ⟨i, hi⟩)
    obtain ⟨vs', f1, f2, f3⟩ := reps_put (f := m) (r1.mono p2.base) g3 g2
    obtain ⟨p3, c3⟩ := stp_write (o := .ins Cl dx (putF m v (ns.zip vs))) c2 hi (c' := .ins Cl (putN m d ns ds).1 (putN m d ns ds).2) ⟨dx, vs', by rw [upd_same, f1], f2, f3⟩
    have at3 := ((at_.step p1 c1).step p2 c2).step p3 c3
    refine ⟨z, Cl, dx, _, rfl, g1, hc, hn, ?_, ContS.here (((k.after p1 c1).after p2 c2).after p3 c3).nx at3 (hk _ q)⟩
    rw [List.length_zip, ← g2]; omega⟩⟩)

abbrev mRaise (A : ME) (Cl : Addr) (fld : Str) (Xq : QX) : MB := fun C => A C fun d C1 => Xq (.ref Cl) (some ([fld], [d])) C1
theorem sb_raise {fld : Str} {pos' : Pos} (hx : XCls X.prog X.K X.mg Cl fld) (hr : RoomG (k + 1) X.A) (hg : Gl X x) (hm : X.mg x = some (.ref Cl)) (h : SE T e ρ A) (hX : ∀ cls fs C, Xq cls fs C → T.XQ cls fs ρ C)
    (hs : starEach [e] X.env = (false, eval e X.env) :: starEach [] X.env := by rfl) (hdb : (x == ("__debug__" : Str)) = false := by decide) (hc : X.calm = true := by rfl) : SB T (.Raise (some (.Call (.Name x p) [e] [] pos)) none pos' :: rest) ρ (mRaise A Cl fld Xq) N :=
  fun C q => wss_cons (ws_raise hx hr hg hm ((h C _ q).mono fun d C1 h1 => hX _ _ _ h1) hs hdb hc)
def mPart (m : MB) : MB := fun C => ∃ C' r, C.Perm (C' ++ r) ∧ m C'
theorem sb_part (h : SB T rest ρ mm N) : SB T rest ρ (mPart mm) N := fun C ⟨C', r, pm, q⟩ => wss_part pm (h C' q)
theorem part_id {m : MB} (h : m C) : mPart m C := ⟨C, [], by simp, h⟩
def mWhile {α : Type} (t : α → MT) (f : α → (α → MB) → (α → MB) → MB) (s0 : α) (after : α → MB) : MB := fun C => ∃ I : Nat → α → Cells → Prop, (∃ n, I n s0 C) ∧ ∀ n s C, I n s C → t s C fun k C1 => if k = true then f s (fun s' C' => ∃ n', n' < n ∧ I n' s' C') after C1 else after s C1
theorem sb_while {α : Type} {t : α → MT} {f : α → (α → MB) → (α → MB) → MB} {s0 : α} {after : α → MB} {cond : Expr} (enc : α → Rho) (h0 : LeR (enc s0) ρ) (ht : ∀ s, ST T cond (enc s) (t s))
    (hb : ∀ s (nx bk : α → MB) (W V : QS), (∀ a ρ' C, LeR (enc a) ρ' → nx a C → W ρ' C) → (∀ a ρ' C, LeR (enc a) ρ' → bk a C → V ρ' C) → SB T body (enc s) (f s nx bk) { nx := W, rt := N.rt, bk := V, ct := W })
    (ha : ∀ s, SB T rest (enc s) (after s) N) : SB T (.While cond body [] pos :: rest) ρ (mWhile t f s0 after) N := fun C ⟨I, ⟨n0, i0⟩, hI⟩ => by
  refine wss_cons (ws_while (fun n ρ C => ∃ s, LeR (enc s) ρ ∧ I n s C) n0 ⟨s0, h0, i0⟩ fun n ρ C ⟨s, l, i⟩ => ?_)
  refine PT.imp (show PT X cond _ from (ht s C _ (hI n s C i)).mono (Q' := fun k C1 => if k = true then WSs T body (enc s) C1 { nx := fun ρ' C' => ∃ m', m' < n ∧ ∃ s, LeR (enc s) ρ' ∧ I m' s C', ct := fun ρ' C' => ∃ m', m' < n ∧ ∃ s, LeR (enc s) ρ' ∧ I m' s C', bk := fun ρ' C' => WSs T rest ρ' C' N, rt := N.rt } else WSs T rest (enc s) C1 N) fun k C1 h1 => ?_) fun σ H R ⟨H0, at_, kk⟩ => ⟨H0, at_.forget l, fun b C' H' H0' p c q => kk b C' H' H0' p c ?_⟩
  · cases k with
    | true => exact hb s _ _ _ _ (fun a ρ' C l ⟨n', h1, h2⟩ => ⟨n', h1, a, l, h2⟩) (fun a ρ' C l h => wss_forget l (ha a C h)) C1 h1
    | false => exact ha s C1 h1
  · cases b with
    | true => exact wss_forget l q
    | false => exact wss_forget l q
abbrev mTry (K : W.Frag) (c : Value) (body : QX → MB) (suite : XF → Value → MB) (Xq : QX) : MB := body fun cls fs C' => ∃ b, W.exmOne K cls c = some b ∧ if b = true then suite fs cls C' else Xq cls fs C'
end
end Tr

set_option maxHeartbeats 4000000
namespace Tr
open PySem L2 PySem.Spec PyProof.Rows
section
variable {X : Cx} {T : TX X} {ρ ρ' : Rho} {C : Cells} {N : TEnds} {e a b c o i elt : Expr} {pos pos' p p2 apos cpos np : Pos} {es tgs : List Expr} {st b₀ : Stmt} {rest body tb fb suite : List Stmt} {x m n : Str} {A B A' : ME} {AS : MA} {mt mf mm : MB} {Q : QE}
def mFrz (v : D) (k : D → MB) : MB := fun C => ∃ (i : Nat) (z : Addr) (c : Cell), v = .raw (.ref z) ∧ C[i]? = some (z, c) ∧ k c.toD (C.eraseIdx i)
def eXf (K : W.Frag) (n : Str) (cls : Value) (fs : XF) : ME := fun C Q => ∃ Cl ns ds y, cls = .ref Cl ∧ fs = some (ns, ds) ∧ XfC K Cl ∧ W.findIn K (.ref Cl) n = some none ∧ (ns.zip ds).lookup n = some y ∧ Q y C
abbrev eIsX (K : W.Frag) (cls : Value) (D2 : ME) : ME := fun C Q => ∃ Cl, cls = .ref Cl ∧ ExcC K Cl ∧ D2 C fun d2 C1 => ∃ b u, ClsD d2 u ∧ W.kitOne K (.ref Cl) u = some b ∧ Q (.bl b) C1
theorem se_xf {a : Addr} {oe : Obj} {d : Option Addr} {cls : Value} {fs : XF} {pn : List (Addr × Obj)} {T' : TX (X.suite a ((a, oe) :: pn))} (hz : Zc cls d oe) (hfl : ∃ vs, oe.data = .fields vs) (hA : ∀ H0 C H, T'.A H0 C H → ExcR X.K H0 H d fs)
    (h : SE T' e ρ (eVal (.raw (.ref a)))) (hb : attributeBase e n (X.suite a ((a, oe) :: pn)).env (eval e (X.suite a ((a, oe) :: pn)).env) = eval e (X.suite a ((a, oe) :: pn)).env := by rfl) : SE T' (.Attribute e n pos) ρ (eXf X.K n cls fs) := fun C Q q => by
  obtain ⟨Cl, ns, ds, y, rfl, rfl, h1, h2, h3, h4⟩ := q
  exact we_xf h1 h2 hz hfl hA ((h C _ (show _ ∧ _ from ⟨rfl, y, h3, h4⟩))) hb
theorem se_isX {a : Addr} {oe : Obj} {d : Option Addr} {cls : Value} {fs : XF} {pn : List (Addr × Obj)} {T' : TX (X.suite a ((a, oe) :: pn))} (hz : Zc cls d oe) (hfl : ∃ vs, oe.data = .fields vs) (hA : ∀ H0 C H, T'.A H0 C H → ExcR X.K H0 H d fs) (hg : Gl X "isinstance") (hm : X.mg "isinstance" = none)
    (h : SE T' e ρ (eVal (.raw (.ref a)))) (h2 : SE T' c ρ A)
    (he : starEach [e, c] (X.suite a ((a, oe) :: pn)).env = (false, eval e (X.suite a ((a, oe) :: pn)).env) :: starEach [c] (X.suite a ((a, oe) :: pn)).env := by rfl) (hpl : (backTo pos (starEach [c] (X.suite a ((a, oe) :: pn)).env)).any (·.1) = false := by rfl)
    (he2 : starEach [c] (X.suite a ((a, oe) :: pn)).env = (false, eval c (X.suite a ((a, oe) :: pn)).env) :: starEach [] (X.suite a ((a, oe) :: pn)).env := by rfl) : SE T' (.Call (.Name "isinstance" p) [e, c] [] pos) ρ (eIsX X.K cls A) := fun C Q q => by
  obtain ⟨Cl, rfl, G, q⟩ := q
  have hw : WA T' [e, c] ρ C fun ds C1 => ∃ d2 u b, ds = [.raw (.ref a), d2] ∧ ClsD d2 u ∧ W.kitOne X.K (.ref Cl) u = some b ∧ Q (.bl b) C1 :=
    wa_cons (h C _ (wa_cons ((h2 C _ q).mono fun d2 C1 ⟨b, u, h3, h4, h5⟩ => wa_nil ⟨d2, u, b, rfl, h3, h4, h5⟩) he2)) he
  exact PE.imp (pe_callB (call_isX G hz hfl) hg hm (by rfl) hw (by decide) (by decide) he hpl) fun σ H R ⟨H0, at_, k⟩ => ⟨H0, at_, fun vs ds C1 H1 H01 p1 c1 r1 q1 => by
    obtain ⟨d2, u, b, e1, hc, hk, q⟩ := q1
    subst e1
    have at1 := at_.step p1 c1
    have ex := hA _ _ _ at1.a
    obtain ⟨v, w, e1, r2, r3⟩ := r1.two
    subst e1
    cases r2
    refine ⟨w, u, b, rfl, cls_at r3 hc, hk, fun dd hd => ?_, k (.bl b) (.bl b) C1 H1 H01 p1 c1 rfl q⟩
    subst hd
    cases fs with
    | none => exact ex.elim
    | some f => obtain ⟨vs, h1, _⟩ := ex; exact ⟨_, h1⟩⟩
theorem LeR.set {v : Option D} {j : Nat} (h : LeR ρ ρ') : LeR (ρ.set j v) (ρ'.set j v) := ⟨by simp [h.l], fun i d q => by
  rw [List.getElem?_set] at q ⊢
  split at q
  · rename_i e; subst e
    split at q
    · rename_i hl; rw [if_pos rfl, if_pos (by rw [← h.l]; exact hl)]; exact q
    · cases q
  · rename_i e; rw [if_neg e]; exact h.s i d q⟩
theorem LeR.unset {j : Nat} (h : LeR ρ ρ') (hn : ∀ d, ρ[j]? ≠ some (some d)) : LeR ρ (ρ'.set j none) := ⟨by simp [h.l], fun i d q => by
  rw [List.getElem?_set]
  split
  · rename_i e; subst e; exact absurd q (hn d)
  · exact h.s i d q⟩
theorem sb_try {α : Type} {i : Nat} {cv : Value} {mb : QX → MB} {ms : XF → Value → MB} {Xq : QX} (enc : α → Rho) (J : α → MB) (ρe : Rho) (hs : X.stack = X.env :: X.outer) (hf : X.env.frame = some X.env.locals) (hN : X.N.Nodup) (hi : X.N[i]? = some n) (hln : X.env.kindOf n = some .local) (hc : Names X x cv)
    (hX : ∀ ρ' cls fs C, Xq cls fs C → T.XQ cls fs ρ' C) (hJ : ∀ a, SB T rest (enc a) (J a) N) (hn : ∀ a d, (enc a)[i]? ≠ some (some d))
    (hb : ∀ (pn : List (Addr × Obj)) (xe : Value → Shared → Prop) (T' : TX (X.tr pn xe)) (X' : QX), (∀ ρ', LeR ρe ρ' → ∀ cls fs C, X' cls fs C → T'.XQ cls fs ρ' C) → ∀ W : QS, (∀ a ρ' C, LeR (enc a) ρ' → J a C → W ρ' C) → SB T' body ρ (mb X') { N with nx := W })
    (hh : ∀ (cls : Value) (fs : XF) (a : Addr) (oe : Obj) (d : Option Addr) (pn : List (Addr × Obj)) (T' : TX (X.suite a ((a, oe) :: pn))), Zc cls d oe → (∃ vs, oe.data = .fields vs) → (∀ H0 C H, T'.A H0 C H → ExcR X.K H0 H d fs) → ∀ W V B' : QS, (∀ a ρ' C, LeR (enc a) ρ' → J a C → W ρ' C) →
      SB T' (b₀ :: suite) (ρe.set i (some (.raw (.ref a)))) (ms fs cls) { nx := W, rt := N.rt, bk := V, ct := B' }) :
    SB T (.Try body [.ExceptHandler (some (.Name x np)) (some n) (b₀ :: suite) pos'] [] [] pos :: rest) ρ (mTry X.K cv mb ms Xq) N := fun C q => by
  have hw : ∀ a ρ' C, LeR (enc a) ρ' → J a C → WSs T rest ρ' C N := fun a ρ' C l q => wss_forget l (hJ a C q)
  refine wss_cons (ws_try hs hf hN hi hln hc (fun cls fs ρ' C' => LeR ρe ρ' ∧ ∃ b, W.exmOne X.K cls cv = some b ∧ if b = true then ms fs cls C' else Xq cls fs C') (fun pn xe T' eX => hb pn xe T' _ (fun ρ' l cls fs C' h => by rw [eX]; exact ⟨l, h⟩) _ hw C q) ?_)
  rintro cls fs ρ' C' ⟨l, b, h1, h2⟩
  refine ⟨b, h1, fun hb0 => ?_, fun hb1 a oe d pn T' hz hfl hA => ?_⟩
  · subst hb0; exact hX _ _ _ _ h2
  · subst hb1
    exact wss_forget l.set (hh cls fs a oe d pn T' hz hfl hA _ _ _ (fun a ρ' C l q => hw a _ C (l.unset (hn a)) q) C' h2)

abbrev eDrop (A : ME) : ME := fun C Q => A C fun d C1 => ∃ C' r, C1.Perm (C' ++ r) ∧ Q d C'
theorem se_drop (h : SE T e ρ A) : SE T e ρ (eDrop A) := fun C Q q => PE.imp (h C _ q) fun σ H R ⟨H0, at_, k⟩ => ⟨H0, at_, fun v d C1 H1 H01 p1 c1 r1 ⟨C', r, pm, q⟩ =>
  let ⟨p2, c2⟩ := stp_part c1 pm
  k v d C' H1 H01 (p1.trans c1 p2) c2 r1 q⟩
variable {k : Nat} {f Cl : Addr} {fd : FuncData} {ps : List Str} {F : FS} {dvs : List V} {dds : List D} {Xq : QX}
theorem loop_inv {α : Type} {f : D → α → (α → MB) → (α → MB) → MB} {after : α → MB} {P : Cells → Prop} {ds : List D} {s : α} (I : Nat → α → Cells → Prop) (h0 : I 0 s C)
    (step : ∀ i d s C (nx : α → MB), ds[i]? = some d → I i s C → (∀ s' C', I (i + 1) s' C' → nx s' C') → P C ∧ f d s nx after C) (last : ∀ s C, I ds.length s C → P C ∧ after s C) : mLoop f after P ds s C := by
  have go : ∀ (r : List D) (j : Nat), j + r.length = ds.length → (∀ i, r[i]? = ds[j + i]?) → ∀ s C, I j s C → mLoop f after P r s C := by
    intro r
    induction r with
    | nil => intro j hj _ s C h; have : j = ds.length := by simpa using hj
             subst this; exact last s C h
    | cons d r ih =>
      intro j hj hg s C h
      refine step j d s C _ (by rw [← Nat.add_zero j, ← hg 0]; rfl) h fun s' C' h' => ?_
      exact ih (j + 1) (by simp at hj; omega) (fun i => by rw [Nat.add_assoc, Nat.add_comm 1 i, ← hg (i + 1)]; rfl) s' C' h'
  exact go ds 0 (by simp) (fun i => by simp) s C h0
theorem lcB_inv {P : Cells → Prop} {f : D → ME} {Q : QE} {ds : List D} (J : Nat → List D → Cells → Prop) (h0 : J 0 [] C)
    (step : ∀ i d acc C (k : QE), ds[i]? = some d → J i acc C → (∀ y C', J (i + 1) (acc ++ [y]) C' → k y C') → P C ∧ f d C k) (last : ∀ acc C, J ds.length acc C → P C ∧ Q (.lst acc) C) (hl : ds.length ≤ 100000) (hlen : ∀ i acc C, J i acc C → acc.length ≤ i) : lcB P f Q ds [] C := by
  have go : ∀ (r : List D) (j : Nat), j + r.length = ds.length → (∀ i, r[i]? = ds[j + i]?) → ∀ acc C, J j acc C → lcB P f Q r acc C := by
    intro r
    induction r with
    | nil => intro j hj _ s C h; have : j = ds.length := by simpa using hj
             subst this; exact last s C h
    | cons d r ih =>
      intro j hj hg acc C h
      refine step j d acc C _ (by rw [← Nat.add_zero j, ← hg 0]; rfl) h fun y C' h' => ⟨?_, ih (j + 1) (by simp at hj; omega) (fun i => by rw [Nat.add_assoc, Nat.add_comm 1 i, ← hg (i + 1)]; rfl) _ C' h'⟩
      have := hlen j acc C h
      simp at hj; omega
  exact go ds 0 (by simp) (fun i => by simp) [] C h0
theorem lcB_map {α : Type} {P : Cells → Prop} {f : D → ME} {Q : QE} {l : List α} (g h : α → D) (hp : P C) (hf : ∀ a ∈ l, ∀ k : QE, k (h a) C → f (g a) C k) (hl : l.length ≤ 100000) (q : Q (.lst (l.map h)) C) : lcB P f Q (l.map g) [] C := by
  have go : ∀ (r : List α) (acc : List D), (∀ a ∈ r, a ∈ l) → acc.length + r.length ≤ 100000 → Q (.lst (acc ++ r.map h)) C → lcB P f Q (r.map g) acc C := by
    intro r
    induction r with
    | nil => intro acc _ _ q; exact ⟨hp, by simpa using q⟩
    | cons a r ih =>
      intro acc hm hl q
      refine ⟨hp, hf a (hm a List.mem_cons_self) _ ⟨by simp at hl; omega, ih _ (fun b hb => hm b (List.mem_cons_of_mem _ hb)) (by simp at hl ⊢; omega) (by simpa using q)⟩⟩
  exact go l [] (fun _ h => h) (by simpa using hl) (by simpa using q)
theorem lcB1_map {α : Type} {P : Cells → Prop} {f : D → ME} {t : D → MT} {Q : QE} {l : List α} (g h : α → D) (b : α → Bool) (hp : P C) (ht : ∀ a ∈ l, ∀ k : QT, k (b a) C → t (g a) C k) (hf : ∀ a ∈ l, b a = true → ∀ k : QE, k (h a) C → f (g a) C k) (hl : l.length ≤ 100000) (q : Q (.lst ((l.filter b).map h)) C) : lcB1 P t f Q (l.map g) [] C := by
  have go : ∀ (r : List α) (acc : List D), (∀ a ∈ r, a ∈ l) → acc.length + r.length ≤ 100000 → Q (.lst (acc ++ (r.filter b).map h)) C → lcB1 P t f Q (r.map g) acc C := by
    intro r
    induction r with
    | nil => intro acc _ _ q; exact ⟨hp, by simpa using q⟩
    | cons a r ih =>
      intro acc hm hl q
      refine ⟨hp, ht a (hm a List.mem_cons_self) _ ?_⟩
      have hm' : ∀ b ∈ r, b ∈ l := fun b hb => hm b (List.mem_cons_of_mem _ hb)
      have hl' : acc.length + 1 + r.length ≤ 100000 := by simp at hl; omega
      cases e : b a with
      | true =>
        rw [if_pos rfl]
        rw [List.filter_cons_of_pos e] at q
        exact hf a (hm a List.mem_cons_self) e _ ⟨by omega, ih _ hm' (by simp; omega) (by simpa using q)⟩
      | false =>
        rw [if_neg (by decide)]
        rw [List.filter_cons_of_neg (by simp [e])] at q
        exact ih _ hm' (by omega) q
  exact go l [] (fun _ h => h) (by simpa using hl) (by simpa using q)
end
end Tr
namespace Tr
open PySem L2 PySem.Spec PyProof.Rows
def pMkF (F : FS) (Xq : QX) (Cl : Addr) (ds : List D) : ME := pFrz (makeW F Xq Cl ds)
theorem se_mkF {X : Cx} {T : TX X} {ρ : Rho} {e : Expr} {AS : MA} {F : FS} {Xq : QX} {Cl : Addr} {dds : List D} (h : SE T e ρ (eArgs AS fun ds => makeW F Xq Cl (ds ++ dds))) : SE T e ρ (eArgs AS fun ds => pMkF F Xq Cl (ds ++ dds)) := fun C Q q => se_frz h C Q q
theorem mkF_of {F : FS} {Xq : QX} {Cl : Addr} {ds fs : List D} {ns : List Str} {C : Cells} {Q : QE} (h : ∀ z, F (.raw (.ref z) :: ds) ((z, .ins Cl [] []) :: C) (fun d C' => d = .non ∧ ∃ (i : Nat) (z' Cl' : Addr) (ns : List Str) (ds : List D), D.raw (.ref z) = .raw (.ref z') ∧ C'[i]? = some (z', .ins Cl' ns ds) ∧ Q (.ins Cl' ns ds) (C'.eraseIdx i)) Xq) : pMkF F Xq Cl ds C Q :=
  ⟨C, [], by simp, fun z => by simpa using h z⟩
end Tr
namespace Tr
open PySem L2 PySem.Spec PyProof.Rows
section
variable {X : Cx} {T : TX X} {ρ : Rho} {C : Cells} {N : TEnds} {rest : List Stmt} {p pos pos' : Pos} {x : Str} {Cl : Addr} {Xq : QX}
structure X0 (K : W.Frag) (C : Addr) : Prop where
  q : PySem.W.excIn K C [.type "ValueError", .type "Exception", .type "BaseException", .type "object"] "ValueError.__new__" = true
  k : W.keepIn K (.ref C) = true
  s : W.subIn K (.ref C) (.type "BaseException") = some true
  t : W.typeIn K (.ref C) = some (.type "type")
end
end Tr

set_option maxHeartbeats 2000000
namespace Tr
open PySem L2 PySem.Spec PyProof.Rows
def fdAt (K : W.Frag) (a : Addr) : Option FuncData := match K.lookup a with
  | some ob => (match ob.data with | .func g => some g | _ => none)
  | none => none
theorem fdAt_ok {K : W.Frag} {a : Addr} {g : FuncData} (h : fdAt K a = some g) : ∃ oc od sl, K.lookup a = some ⟨oc, od, .func g, sl⟩ := by
  unfold fdAt at h
  cases e : K.lookup a with
  | none => rw [e] at h; cases h
  | some ob =>
    obtain ⟨c, d, dt, sl⟩ := ob
    rw [e] at h
    cases dt with
    | func g' => cases h; exact ⟨c, d, sl, rfl⟩
    | _ => cases h
def refOr (v : Value) : Addr := match v with
  | .ref a => a
  | _ => 0
def isRefV (v : Value) : Bool := match v with
  | .ref _ => true
  | _ => false
theorem isRefV_ok {v : Value} (h : isRefV v = true) : v = .ref (refOr v) := by cases v <;> first | rfl | cases h
def dfAd (K : W.Frag) (f : Addr) : Addr := match fdAt K f with
  | some g => refOr g.defaults
  | none => 0
def cdAd (K : W.Frag) (f : Addr) : Addr := match fdAt K f with
  | some g => refOr g.code
  | none => 0
def hdAd (l : List (Str × Addr)) : Addr := match l with
  | p :: _ => p.2
  | [] => 0
def clAd (K : W.Frag) (f : Addr) : Addr := match fdAt K f with
  | some g => hdAd g.closure
  | none => 0
def seqAt (K : W.Frag) (a : Addr) : List Value := match K.lookup a with
  | some ob => (match ob.data with | .seq its _ => its.toList | _ => [])
  | none => []
def itAd (K : W.Frag) (a : Addr) (i : Nat) : Addr := match (seqAt K a)[i]? with
  | some v => refOr v
  | none => 0
def cmP (K : W.Frag) (C : Addr) (m : Str) : Addr := match W.findCls K (.ref C) (.type "type") m with
  | some (.get _ p _ _) => refOr p
  | _ => 0
def cmF (K : W.Frag) (C : Addr) (m : Str) : Addr := match W.recIn K (cmP K C m) "classmethod" with
  | some (v :: _) => refOr v
  | _ => 0
abbrev FnX : Type := Option (Str × Str × Arguments × FuncBody × Scope × Addr × List Str × Addr)
def fnX (K : W.Frag) (a : Addr) : FnX := match fdAt K a with
  | some g => some (g.name, g.qualname, g.params, g.body, g.scope, g.globals, g.closure.map (·.1), g.builtins)
  | none => none
structure Df where
  at' : W.Frag → Addr
  name : Str
  qual : Str
  params : Arguments
  body : List Stmt
  scope : Scope
  dfl : W.Frag → List Addr
  cl : List Str
def Df.val (d : Df) : FnX := some (d.name, d.qual, d.params, .stmts d.body, d.scope, mainGlobals, d.cl, builtinsNs)
def Df.ok (K : W.Frag) (d : Df) : Bool := W.keepIn K (.ref (d.at' K)) && (match fdAt K (d.at' K) with
  | some g => W.codeIn K g.code d.qual && He.dflB K g.defaults ((d.dfl K).map V.ref)
  | none => false)
theorem fnX_ok {K : W.Frag} {a : Addr} {d : Df} (e : fnX K a = d.val) : ∃ g oc od sl, fdAt K a = some g ∧ K.lookup a = some ⟨oc, od, .func g, sl⟩ ∧
    g.name = d.name ∧ g.qualname = d.qual ∧ g.params = d.params ∧ g.body = .stmts d.body ∧ g.scope = d.scope ∧ g.globals = mainGlobals ∧ g.closure.map (·.1) = d.cl ∧ g.builtins = builtinsNs := by
  unfold fnX Df.val at e
  cases q : fdAt K a with
  | none => rw [q] at e; cases e
  | some g =>
    rw [q] at e
    obtain ⟨oc, od, sl, h⟩ := fdAt_ok q
    simp only [Option.some.injEq, Prod.mk.injEq] at e
    obtain ⟨h1, h2, h3, h4, h5, h6, h7, h8⟩ := e
    exact ⟨g, oc, od, sl, rfl, h, h1, h2, h3, h4, h5, h6, h7, h8⟩
theorem Df.funD {K : W.Frag} {d : Df} (e : fnX K (d.at' K) = d.val) (c : d.ok K = true) (hc : d.cl = []) : ∃ fd, FunD K d.name d.qual d.params d.body d.scope ((d.dfl K).map V.ref) [] (d.at' K) fd := by
  obtain ⟨g, oc, od, sl, q, lk, h1, h2, h3, h4, h5, h6, h7, h8⟩ := fnX_ok e
  unfold Df.ok at c
  rw [q, Bool.and_eq_true] at c
  obtain ⟨kp, c⟩ := c
  have c2 : W.codeIn K g.code d.qual = true ∧ He.dflB K g.defaults ((d.dfl K).map V.ref) = true := Bool.and_eq_true_iff.mp c
  clear c
  rw [hc, List.map_eq_nil_iff] at h7
  obtain ⟨n1, n2, n3, n4, n5, n6, n7, n8, n9, n10, n11, n12, n13, n14, n15⟩ := g
  dsimp only at h1 h2 h3 h4 h5 h6 h7 h8 c2
  subst h1 h2 h3 h4 h5 h6 h7 h8
  exact ⟨_, ⟨oc, od, n8, n9, n10, n11, n12, n13, n14, sl, rfl, lk, c2.1, He.dflB_ok c2.2, .inl rfl⟩, kp⟩
theorem Df.sup {K : W.Frag} {d : Df} (e : fnX K (d.at' K) = d.val) (c : d.ok K = true) (hc : d.cl = (["__class__"] : List Str)) (hd : d.dfl K = []) (hr : ((fdAt K (d.at' K)).any fun g => isRefV g.code) = true) :
    ∃ oc od kV dc pm an ct sl, K.lookup (d.at' K) = some ⟨oc, od, .func (W.ksFn d.name d.qual d.params d.body d.scope .none kV dc pm an (.ref (cdAd K (d.at' K))) ct (clAd K (d.at' K))), sl⟩ ∧ W.codeIn K (.ref (cdAd K (d.at' K))) d.qual = true := by
  obtain ⟨g, oc, od, sl, q, lk, h1, h2, h3, h4, h5, h6, h7, h8⟩ := fnX_ok e
  unfold Df.ok at c
  rw [q, Bool.and_eq_true] at c
  obtain ⟨kp, c⟩ := c
  have c2 : W.codeIn K g.code d.qual = true ∧ He.dflB K g.defaults ((d.dfl K).map V.ref) = true := Bool.and_eq_true_iff.mp c
  clear c
  rw [hd] at c2
  rw [q] at hr
  have hr : isRefV g.code = true := hr
  have e1 : cdAd K (d.at' K) = refOr g.code := by unfold cdAd; rw [q]
  have e2 : clAd K (d.at' K) = hdAd g.closure := by unfold clAd; rw [q]
  have e3 := isRefV_ok hr
  have e4 : g.defaults = .none := by
    have : He.dflB K g.defaults [] = true := c2.2
    revert this
    generalize g.defaults = v
    intro h
    cases v <;> first | rfl | cases h
  have e5 : g.closure = ([("__class__", hdAd g.closure)] : List (Str × Addr)) := by
    rw [hc] at h7
    revert h7
    generalize g.closure = l
    intro h
    match l, h with
    | [(x, y)], h =>
      have : x = ("__class__" : Str) := by simpa using h
      rw [this]; rfl
  have c1 := c2.1
  clear c2
  rw [e1, e2]
  rw [e3] at c1
  obtain ⟨n1, n2, n3, n4, n5, n6, n7, n8, n9, n10, n11, n12, n13, n14, n15⟩ := g
  dsimp only at h1 h2 h3 h4 h5 h6 h7 h8 e3 e4 e5 c1 lk ⊢
  subst h1 h2 h3 h4 h5 h6 h8 e4
  refine ⟨oc, od, n9, n10, n11, n12, n14, sl, ?_, c1⟩
  rw [lk]
  conv => lhs; rw [e5, e3]
def clsT (K : W.Frag) (C : Addr) : Bool := (W.clsIn K C).isSome
theorem clsT_ok {K : W.Frag} {C : Addr} (h : clsT K C = true) : ∃ cd, W.clsIn K C = some cd := Option.isSome_iff_exists.mp h
def tupT (K : W.Frag) (a : Addr) (ss : List Str) : Bool := match K.lookup a with
  | some ob => (match ob.cls, ob.data with
    | .type c, .seq its _ => decide (c = "tuple") && (decide (its.size ≤ 100000) && He.relAll (ss.map V.str) its.toList)
    | _, _ => false)
  | none => false
theorem tupT_ok {K : W.Frag} {a : Addr} {ss : List Str} (h : tupT K a ss = true) (H : Hp) : Rep K H (.tup (ss.map D.str)) (.ref a) := by
  unfold tupT at h
  cases q : K.lookup a with
  | none => rw [q] at h; cases h
  | some ob =>
    rw [q] at h
    obtain ⟨c, d, dt, sl⟩ := ob
    cases c with
    | type c =>
      cases dt with
      | seq its n =>
        have h : (decide (c = "tuple") && (decide (its.size ≤ 100000) && He.relAll (ss.map V.str) its.toList)) = true := h
        rw [Bool.and_eq_true, Bool.and_eq_true] at h
        obtain ⟨h1, h2, h3⟩ := h
        have e1 := of_decide_eq_true h1
        subst e1
        refine rep_ktup (its := its.toList) (n := n) (od := d) (osl := sl) (by rw [q, Array.toArray_toList]) (by rw [Array.length_toList]; exact of_decide_eq_true h2) (He.relAll_ok h3) (Reps.strs ss)
      | _ => cases h
    | _ => cases dt <;> cases h
def cmT (K : W.Frag) (C : Addr) (m : Str) : Bool := (match W.findCls K (.ref C) (.type "type") m with
  | some (.get (.builtin b) p .none (.ref c)) => decide (b = "classmethod.__get__") && (isRefV p && decide (c = C))
  | _ => false) && (match W.recIn K (cmP K C m) "classmethod" with
  | some (v :: _) => isRefV v
  | _ => false)
theorem cmT_ok {K : W.Frag} {C : Addr} {m : Str} (h : cmT K C m = true) : W.findCls K (.ref C) (.type "type") m = some (.get (.builtin "classmethod.__get__") (.ref (cmP K C m)) .none (.ref C)) ∧ ∃ rs, W.recIn K (cmP K C m) "classmethod" = some (.ref (cmF K C m) :: rs) := by
  unfold cmT at h
  rw [Bool.and_eq_true] at h
  obtain ⟨h1, h2⟩ := h
  constructor
  · split at h1
    · rename_i b p c e
      rw [Bool.and_eq_true, Bool.and_eq_true] at h1
      obtain ⟨h3, h4, h5⟩ := h1
      have e3 := of_decide_eq_true h3
      have e5 := of_decide_eq_true h5
      subst e3 e5
      have ep : cmP K c m = refOr p := by unfold cmP; rw [e]
      rw [e, ep, ← isRefV_ok h4]
    · cases h1
  · split at h2
    · rename_i v rs e
      have ev : cmF K C m = refOr v := by unfold cmF; rw [e]
      exact ⟨rs, by rw [e, ev, ← isRefV_ok h2]⟩
    · cases h2
def filT (K : W.Frag) (a : Addr) (f : Str) : Bool := match K.lookup a with
  | some ob => (match ob.data with
    | .fields vs => (match (vs[2]? : Option Value) with
      | some (.str z _) => decide (z = f)
      | _ => false)
    | _ => false)
  | none => false
theorem filT_ok {K : W.Frag} {a : Addr} {f : Str} (h : filT K a f = true) : ∃ c d vs s t, K.lookup a = some ⟨c, d, .fields vs, s⟩ ∧ vs[2]? = some (.str f t) := by
  unfold filT at h
  cases q : K.lookup a with
  | none => rw [q] at h; cases h
  | some ob =>
    rw [q] at h
    obtain ⟨c, d, dt, sl⟩ := ob
    cases dt with
    | fields vs =>
      dsimp only at h
      split at h
      · rename_i z t e
        have := of_decide_eq_true h
        subst this
        exact ⟨c, d, vs, sl, t, rfl, e⟩
      · cases h
    | _ => cases h
def celT (K : W.Frag) (a C : Addr) : Bool := match K.lookup a with
  | some ob => (match ob.data with
    | .cell (some v) => isRefV v && decide (refOr v = C)
    | _ => false)
  | none => false
theorem celT_ok {K : W.Frag} {a C : Addr} (h : celT K a C = true) : ∃ c d s, K.lookup a = some ⟨c, d, .cell (some (.ref C)), s⟩ := by
  unfold celT at h
  cases q : K.lookup a with
  | none => rw [q] at h; cases h
  | some ob =>
    rw [q] at h
    obtain ⟨c, d, dt, sl⟩ := ob
    cases dt with
    | cell v =>
      cases v with
      | none => cases h
      | some v =>
        have h : (isRefV v && decide (refOr v = C)) = true := h
        rw [Bool.and_eq_true] at h
        have e := isRefV_ok h.1
        have e2 := of_decide_eq_true h.2
        rw [e2] at e
        exact ⟨c, d, sl, by rw [e]⟩
    | _ => cases h
def excT (K : W.Frag) (C : Addr) (tl : List Value) (nw : String) : Bool := match K.lookup C with
  | some ob => (match ob.cls, ob.data, ob.slots.toList with
    | .type t, .cls cd, [_, _, _, _, some (.builtin n), _] => (match cd.mro with
      | c :: bm => decide (t = "type") && (decide (n = nw) && (isRefV c && (decide (refOr c = C) && (cd.hasDict && (!cd.hasDel && W.excTail tl bm)))))
      | [] => false)
    | _, _, _ => false)
  | none => false
theorem excT_ok {K : W.Frag} {C : Addr} {tl : List Value} {nw : String} (h : excT K C tl nw = true) : ∃ nm qn N bs bm sn sub ab col dd k0 k1 k2 k3 k5,
    K.lookup C = some (excClassObj nm qn C N bs bm true sn sub ab col dd k0 k1 k2 k3 k5 nw) ∧ W.excTail tl bm = true := by
  unfold excT at h
  cases q : K.lookup C with
  | none => rw [q] at h; cases h
  | some ob =>
    rw [q] at h
    obtain ⟨c, dd, dt, sl⟩ := ob
    dsimp only at h
    split at h
    · rename_i t cd k0 k1 k2 k3 n k5 hs
      split at h
      · rename_i c bm hm
        simp only [Bool.and_eq_true] at h
        obtain ⟨h1, h2, h3, h4, h5, h6, h7⟩ := h
        have e1 := of_decide_eq_true h1
        have e2 := of_decide_eq_true h2
        have e3 := isRefV_ok h3
        have e4 := of_decide_eq_true h4
        rw [e4] at e3
        obtain ⟨nm, bs, mro, ns, qn, hd, sn, sub, ab, col, del⟩ := cd
        dsimp only at hm h5 h6 h7
        have h6 : del = false := by simpa using h6
        subst e1 e2 e3 hm h5 h6
        have hsl : sl = #[k0, k1, k2, k3, some (.builtin n), k5] := by
          obtain ⟨l⟩ := sl
          simp only at hs
          rw [hs]
        subst hsl
        exact ⟨nm, qn, ns, bs, bm, sn, sub, ab, col, dd, k0, k1, k2, k3, k5, rfl, h7⟩
      · cases h
    · cases h
def upTo : Nat → List Addr → List Addr
  | 0, l => l
  | n + 1, l => upTo n (n :: l)
abbrev AlX : Type := Bool × List FnX
def obsX (chs : List (List (W.Frag → Bool))) (dfs : List Df) (K : W.Frag) : AlX := ((chs.all fun l => l.all fun t => t K) && dfs.all fun d => d.ok K, dfs.map fun d => fnX K (d.at' K))
def valX (dfs : List Df) : AlX := (true, dfs.map Df.val)
def SaysX (chs : List (List (W.Frag → Bool))) (dfs : List Df) (K : W.Frag) : Prop := obsX chs dfs K = valX dfs
def hookX (as : List Addr) (chs : List (List (W.Frag → Bool))) (dfs : List Df) : W.Hook where
  α := AlX
  obs := fun s => obsX chs dfs (He.frG s.heap.get? as)
  val := fun _ => valX dfs
  says := fun _ h => ∃ K : W.Frag, K.In h ∧ SaysX chs dfs K
  of := fun _ _ e => ⟨_, He.frG_in, e⟩
  keeps := fun _ _ _ ⟨K, hK, c⟩ k => ⟨K, W.Frag.In.keeps hK k, c⟩
def obX (as : List Addr) (chs : List (List (W.Frag → Bool))) (dfs : List Df) (s : W.SharedT) : AlX := obsX chs dfs (He.frG (HandSHeadRun.getT s) as)
theorem obX_eq (as : List Addr) (chs : List (List (W.Frag → Bool))) (dfs : List Df) (s : W.SharedT) : obX as chs dfs s = (hookX as chs dfs).obs s.abs := by
  have e : HandSHeadRun.getT s = s.abs.heap.get? := funext fun a => HandSHeadRun.getT_eq s a
  unfold obX
  rw [e]
  rfl
section
variable {chs : List (List (W.Frag → Bool))} {dfs : List Df} {K : W.Frag}
theorem SaysX.t (c : SaysX chs dfs K) (j i : Nat) {l : List (W.Frag → Bool)} {t : W.Frag → Bool} (hj : chs[j]? = some l) (hi : l[i]? = some t) : t K = true := by
  have h : ((chs.all fun l => l.all fun t => t K) && dfs.all fun d => d.ok K) = true := congrArg (fun z : AlX => z.1) c
  rw [Bool.and_eq_true] at h
  exact List.all_eq_true.mp (List.all_eq_true.mp h.1 l (List.mem_of_getElem? hj)) t (List.mem_of_getElem? hi)
theorem SaysX.d (c : SaysX chs dfs K) (i : Nat) {d : Df} (hi : dfs[i]? = some d) : fnX K (d.at' K) = d.val ∧ d.ok K = true := by
  have h : ((chs.all fun l => l.all fun t => t K) && dfs.all fun d => d.ok K) = true := congrArg (fun z : AlX => z.1) c
  have h2 : (dfs.map fun d => fnX K (d.at' K)) = dfs.map Df.val := congrArg (fun z : AlX => z.2) c
  rw [Bool.and_eq_true] at h
  have h3 : (dfs.map fun d => fnX K (d.at' K))[i]? = (dfs.map Df.val)[i]? := by rw [h2]
  rw [List.getElem?_map, List.getElem?_map, hi] at h3
  exact ⟨Option.some.inj h3, List.all_eq_true.mp h.2 d (List.mem_of_getElem? hi)⟩
end
theorem law_walkX {l : W.OpenLaw} {k : Nat} {q : Program} {loose : List Str} {XP : (Str → Option Value) → Heap → Prop} {as : List Addr} {chs : List (List (W.Frag → Bool))} {dfs : List Df} {d : DefRec} {x : Str}
    (hn : l.most = some 63) (hdf : d.params.defaults = []) (hr : RoomG k callerA)
    (F : ∀ (w : World) (mg : Str → Option Value) (fa : Addr) (h : Heap) (K : W.Frag), K.In h → SaysX chs dfs K → h.Ns mainGlobals mg → mg d.name = some (.ref fa) →
      ∃ fd : FuncData, (∀ (s : Shared) (u : Value), BindsTo s fd ⟨[u], []⟩ [(x, u)]) ∧ ∀ base : Heap, K.In base → base.Ns mainGlobals mg → FnG l.prog w K mg base k fa fd [x] lawFS) :
    W.WalkO q loose XP (hookX as chs dfs).says l.row.toRowW d [] (fun f vs => PySem.call f vs) := by
  refine Att.attach_call hn hdf fun w s₀ s₁ mg mb fa o pm cd doc a vs ns G Y ho hd hcd hmg hobj hints hlen hg => ?_
  obtain ⟨K, KX, hs⟩ := Y
  obtain ⟨fd, hb, hF⟩ := F w mg fa _ K KX hs G.T.g hmg
  exact law_goes KX G.T.g G.T.b G.T.builtins G.T.nolimit hg hobj hints hlen hr hF hb
theorem says_cat {c1 c2 : List (List (W.Frag → Bool))} {d1 d2 : List Df} {K : W.Frag} (h1 : SaysX c1 d1 K) (h2 : SaysX c2 d2 K) : SaysX (c1 ++ c2) (d1 ++ d2) K := by
  have a1 : ((c1.all fun l => l.all fun t => t K) && d1.all fun d => d.ok K) = true := congrArg (fun z : AlX => z.1) h1
  have b1 : (d1.map fun d => fnX K (d.at' K)) = d1.map Df.val := congrArg (fun z : AlX => z.2) h1
  have a2 : ((c2.all fun l => l.all fun t => t K) && d2.all fun d => d.ok K) = true := congrArg (fun z : AlX => z.1) h2
  have b2 : (d2.map fun d => fnX K (d.at' K)) = d2.map Df.val := congrArg (fun z : AlX => z.2) h2
  rw [Bool.and_eq_true] at a1 a2
  unfold SaysX obsX valX
  rw [List.all_append, List.all_append, a1.1, a1.2, a2.1, a2.2, List.map_append, List.map_append, b1, b2]
  rfl
theorem run_cat {r : W.OpenRow} {q : Program} {as : List Addr} {M : Nat} {loose : List Str} {w : World} {chs c1 c2 : List (List (W.Frag → Bool))} {dfs d1 d2 : List Df} (ec : chs = c1 ++ c2) (ed : dfs = d1 ++ d2)
    (h1 : HandSHeadRun.RunEq r q (hookX as c1 d1) (obX as c1 d1) M loose w) (h2 : HandSHeadRun.RunEq r q (hookX as c2 d2) (obX as c2 d2) M loose w) : HandSHeadRun.RunEq r q (hookX as chs dfs) (obX as chs dfs) M loose w := by
  subst ec ed
  intro os
  have a := h1 os
  have b := h2 os
  revert a b
  generalize HandSHeadRun.endF (HandSHeadRun.stepQ (HandSHeadRun.denQ HandSHeadRun.tabQ) r.prog w) M r.prog w os = X
  cases X with
  | none => intro a; cases a
  | some s =>
    intro a b
    have a : (HandSHeadRun.looksF r.prog (W.boot_heap w.params) s.abs, HandSHeadRun.seenQ q loose (importedModules r.prog.main.body) (fun s => W.xlAt q [] s && W.recOk r.toRowW.records s) s.abs, obX as c1 d1 s) = (true, W.openGood q loose, valX d1) := Option.some.inj a
    have b : (HandSHeadRun.looksF r.prog (W.boot_heap w.params) s.abs, HandSHeadRun.seenQ q loose (importedModules r.prog.main.body) (fun s => W.xlAt q [] s && W.recOk r.toRowW.records s) s.abs, obX as c2 d2 s) = (true, W.openGood q loose, valX d2) := Option.some.inj b
    obtain ⟨e1, a⟩ := Prod.mk.inj a
    obtain ⟨e2, a3⟩ := Prod.mk.inj a
    obtain ⟨_, b⟩ := Prod.mk.inj b
    obtain ⟨_, b3⟩ := Prod.mk.inj b
    have c3 : obX as (c1 ++ c2) (d1 ++ d2) s = valX (d1 ++ d2) := says_cat a3 b3
    exact congrArg some (Prod.ext e1 (Prod.ext e2 c3))
end Tr

set_option maxHeartbeats 0
namespace Kk
open PySem L2 PySem.Spec PyProof.Rows Tr
def cst_LETTERS : List Str := ["yes", "no", "list"]
def cst_TESTS : List Str := ["old", "all", "open", "same", "first", "gone"]
def cst_DEEDS : List Str := ["take", "do", "drop", "sweep", "clear"]
def cst_OF_ANSWERS : List Str := ["first", "gone", "do", "drop"]
def top (i : Nat) : Stmt := PySem.Challenge.pw_hastypage_k12_texts_of_rows.main.body.getD i (.Pass ⟨0, 0, 0, 0⟩)
abbrev s_is_sequence : Stmt := top 5
abbrev s_fits_letter : Stmt := top 11
abbrev s_is_test : Stmt := top 12
abbrev s_is_deed : Stmt := top 13
abbrev s__law_deal : Stmt := top 16
abbrev s__law_draw : Stmt := top 17
abbrev s__law_row : Stmt := top 18
abbrev s__law_row_text : Stmt := top 19
abbrev s__law_heard : Stmt := top 20
abbrev s__law_is_text : Stmt := top 21
abbrev s__law_bent : Stmt := top 22
abbrev s_law : Stmt := top 23
abbrev s_Row_init : Stmt := inClass (top 14) 0
abbrev s_Row_read : Stmt := inClass (top 14) 1
abbrev s_Row_eq : Stmt := inClass (top 14) 2
abbrev s_Row_str : Stmt := inClass (top 14) 3
abbrev s_InvalidRow_init : Stmt := inClass (top 2) 0
abbrev s_InvalidText_init : Stmt := inClass (top 3) 0
def Xc_Row (K : W.Frag) : Addr := He.ga K "Row"
def Xc_HastyError (K : W.Frag) : Addr := He.ga K "HastyError"
def Xc_InvalidRow (K : W.Frag) : Addr := He.ga K "InvalidRow"
def Xc_InvalidText (K : W.Frag) : Addr := He.ga K "InvalidText"
def Xf_is_sequence (K : W.Frag) : Addr := He.ga K "is_sequence"
def Xf_fits_letter (K : W.Frag) : Addr := He.ga K "fits_letter"
def Xf_is_test (K : W.Frag) : Addr := He.ga K "is_test"
def Xf_is_deed (K : W.Frag) : Addr := He.ga K "is_deed"
def Xf__law_deal (K : W.Frag) : Addr := He.ga K "_law_deal"
def Xf__law_draw (K : W.Frag) : Addr := He.ga K "_law_draw"
def Xf__law_row (K : W.Frag) : Addr := He.ga K "_law_row"
def Xf__law_row_text (K : W.Frag) : Addr := He.ga K "_law_row_text"
def Xf__law_heard (K : W.Frag) : Addr := He.ga K "_law_heard"
def Xf__law_is_text (K : W.Frag) : Addr := He.ga K "_law_is_text"
def Xf__law_bent (K : W.Frag) : Addr := He.ga K "_law_bent"
def Xf_law (K : W.Frag) : Addr := He.ga K "law"
def Xf_Row_init (K : W.Frag) : Addr := He.ma K (Xc_Row K) "__init__"
def XtD_Row_init (K : W.Frag) : Addr := dfAd K (Xf_Row_init K)
def Xf_Row_read (K : W.Frag) : Addr := cmF K (Xc_Row K) "read"
def Xf_Row_eq (K : W.Frag) : Addr := He.ma K (Xc_Row K) "__eq__"
def Xf_Row_str (K : W.Frag) : Addr := He.ma K (Xc_Row K) "__str__"
def Xa_LETTERS (K : W.Frag) : Addr := He.ga K "LETTERS"
def Xa_TESTS (K : W.Frag) : Addr := He.ga K "TESTS"
def Xa_DEEDS (K : W.Frag) : Addr := He.ga K "DEEDS"
def Xa_OF_ANSWERS (K : W.Frag) : Addr := He.ga K "OF_ANSWERS"
def Xe_Row_init_0 (K : W.Frag) : Addr := itAd K (XtD_Row_init K) 0
def Xe_Row_init_1 (K : W.Frag) : Addr := itAd K (XtD_Row_init K) 1
def Xf_InvalidRow_init (K : W.Frag) : Addr := He.ma K (Xc_InvalidRow K) "__init__"
def Xcda_InvalidRow (K : W.Frag) : Addr := cdAd K (Xf_InvalidRow_init K)
def Xcc_InvalidRow (K : W.Frag) : Addr := clAd K (Xf_InvalidRow_init K)
def Xf_InvalidText_init (K : W.Frag) : Addr := He.ma K (Xc_InvalidText K) "__init__"
def Xcda_InvalidText (K : W.Frag) : Addr := cdAd K (Xf_InvalidText_init K)
def Xcc_InvalidText (K : W.Frag) : Addr := clAd K (Xf_InvalidText_init K)
def df_is_sequence : Df := ⟨Xf_is_sequence, "is_sequence", "is_sequence", defArgs s_is_sequence, defBody s_is_sequence, defScope s_is_sequence, fun K => [], []⟩
def df_fits_letter : Df := ⟨Xf_fits_letter, "fits_letter", "fits_letter", defArgs s_fits_letter, defBody s_fits_letter, defScope s_fits_letter, fun K => [], []⟩
def df_is_test : Df := ⟨Xf_is_test, "is_test", "is_test", defArgs s_is_test, defBody s_is_test, defScope s_is_test, fun K => [], []⟩
def df_is_deed : Df := ⟨Xf_is_deed, "is_deed", "is_deed", defArgs s_is_deed, defBody s_is_deed, defScope s_is_deed, fun K => [], []⟩
def df__law_deal : Df := ⟨Xf__law_deal, "_law_deal", "_law_deal", defArgs s__law_deal, defBody s__law_deal, defScope s__law_deal, fun K => [], []⟩
def df__law_draw : Df := ⟨Xf__law_draw, "_law_draw", "_law_draw", defArgs s__law_draw, defBody s__law_draw, defScope s__law_draw, fun K => [], []⟩
def df__law_row : Df := ⟨Xf__law_row, "_law_row", "_law_row", defArgs s__law_row, defBody s__law_row, defScope s__law_row, fun K => [], []⟩
def df__law_row_text : Df := ⟨Xf__law_row_text, "_law_row_text", "_law_row_text", defArgs s__law_row_text, defBody s__law_row_text, defScope s__law_row_text, fun K => [], []⟩
def df__law_heard : Df := ⟨Xf__law_heard, "_law_heard", "_law_heard", defArgs s__law_heard, defBody s__law_heard, defScope s__law_heard, fun K => [], []⟩
def df__law_is_text : Df := ⟨Xf__law_is_text, "_law_is_text", "_law_is_text", defArgs s__law_is_text, defBody s__law_is_text, defScope s__law_is_text, fun K => [], []⟩
def df__law_bent : Df := ⟨Xf__law_bent, "_law_bent", "_law_bent", defArgs s__law_bent, defBody s__law_bent, defScope s__law_bent, fun K => [], []⟩
def df_law : Df := ⟨Xf_law, "law", "law", defArgs s_law, defBody s_law, defScope s_law, fun K => [], []⟩
def df_Row_init : Df := ⟨Xf_Row_init, "__init__", "Row.__init__", defArgs s_Row_init, defBody s_Row_init, defScope s_Row_init, fun K => [(Xe_Row_init_0 K), (Xe_Row_init_1 K)], []⟩
def df_Row_read : Df := ⟨Xf_Row_read, "read", "Row.read", defArgs s_Row_read, defBody s_Row_read, defScope s_Row_read, fun K => [], []⟩
def df_Row_eq : Df := ⟨Xf_Row_eq, "__eq__", "Row.__eq__", defArgs s_Row_eq, defBody s_Row_eq, defScope s_Row_eq, fun K => [], []⟩
def df_Row_str : Df := ⟨Xf_Row_str, "__str__", "Row.__str__", defArgs s_Row_str, defBody s_Row_str, defScope s_Row_str, fun K => [], []⟩
def df_InvalidRow_init : Df := ⟨Xf_InvalidRow_init, "__init__", "InvalidRow.__init__", defArgs s_InvalidRow_init, defBody s_InvalidRow_init, defScope s_InvalidRow_init, fun K => [], ["__class__"]⟩
def df_InvalidText_init : Df := ⟨Xf_InvalidText_init, "__init__", "InvalidText.__init__", defArgs s_InvalidText_init, defBody s_InvalidText_init, defScope s_InvalidText_init, fun K => [], ["__class__"]⟩
def dfs0 : List Df := [df_is_sequence, df_fits_letter, df_is_test, df_is_deed, df__law_deal, df__law_draw, df__law_row, df__law_row_text, df__law_heard, df__law_is_text, df__law_bent, df_law, df_Row_init, df_Row_read, df_Row_eq, df_Row_str, df_InvalidRow_init, df_InvalidText_init]
def dfs : List Df := dfs0
def ts0 : List (W.Frag → Bool) := [
  fun K => decide (W.specialIn K (.builtin "object.__class__") "__get__" = some (some (.builtin "getset_descriptor.__get__"))),
  fun K => decide (W.takesIn K (.builtin "object.__class__") = some true),
  fun K => decide (W.nsIn K mainGlobals "Row" = some (some (.ref (Xc_Row K)))),
  fun K => decide (W.plainGet K (Xc_Row K) Str.empty = true),
  fun K => decide (W.hasDictIn K (Xc_Row K) = true),
  fun K => decide (W.plainOver K (Xc_Row K) = true),
  fun K => decide (W.findIn K (.ref (Xc_Row K)) "__setattr__" = some (some (.builtin "object.__setattr__"))),
  fun K => decide (W.findIn K (.ref (Xc_Row K)) "__class__" = some (some (.builtin "object.__class__"))),
  fun K => decide (W.mroIn K (Xc_Row K) (.type "object") = some true),
  fun K => decide (W.findIn K (.ref (Xc_Row K)) "letter" = some none),
  fun K => decide (W.findIn K (.ref (Xc_Row K)) "tests" = some none),
  fun K => decide (W.findIn K (.ref (Xc_Row K)) "deeds" = some none),
  fun K => decide (W.subIn K (.type "list") (.ref (Xc_Row K)) = some false),
  fun K => decide (W.subIn K (.type "tuple") (.ref (Xc_Row K)) = some false),
  fun K => decide (W.subIn K (.type "str") (.ref (Xc_Row K)) = some false),
  fun K => decide (W.subIn K (.type "int") (.ref (Xc_Row K)) = some false),
  fun K => decide (W.subIn K (.type "bool") (.ref (Xc_Row K)) = some false),
  fun K => decide (W.subIn K (.type "NoneType") (.ref (Xc_Row K)) = some false),
  fun K => decide (W.subIn K (.ref (Xc_Row K)) (.type "list") = some false),
  fun K => decide (W.subIn K (.ref (Xc_Row K)) (.type "tuple") = some false),
  fun K => decide (W.subIn K (.ref (Xc_Row K)) (.type "str") = some false),
  fun K => decide (W.subIn K (.ref (Xc_Row K)) (.type "int") = some false),
  fun K => decide (W.subIn K (.ref (Xc_Row K)) (.type "bool") = some false),
  fun K => clsT K (Xc_Row K),
  fun K => decide (W.typeIn K (.ref (Xc_Row K)) = some (.type "type")),
  fun K => decide (W.notFirst K (Xc_Row K) (.ref (Xc_Row K)) = true),
  fun K => decide (W.notFirst K (Xc_Row K) (.type "list") = true),
  fun K => decide (W.notFirst K (Xc_Row K) (.type "tuple") = true),
  fun K => decide (W.notFirst K (Xc_Row K) (.type "str") = true),
  fun K => decide (W.notFirst K (Xc_Row K) (.type "int") = true)]
def ts1 : List (W.Frag → Bool) := [
  fun K => decide (W.notFirst K (Xc_Row K) (.type "bool") = true),
  fun K => decide (W.notFirst K (Xc_Row K) (.type "NoneType") = true),
  fun K => decide (W.findIn K (.ref (Xc_Row K)) "__ne__" = some (some (.builtin "object.__ne__"))),
  fun K => decide (W.nsIn K mainGlobals "is_sequence" = some (some (.ref (Xf_is_sequence K)))),
  fun K => decide (W.keepIn K (.ref (Xf_is_sequence K)) = true),
  fun K => decide (W.nsIn K mainGlobals "fits_letter" = some (some (.ref (Xf_fits_letter K)))),
  fun K => decide (W.keepIn K (.ref (Xf_fits_letter K)) = true),
  fun K => decide (W.nsIn K mainGlobals "is_test" = some (some (.ref (Xf_is_test K)))),
  fun K => decide (W.keepIn K (.ref (Xf_is_test K)) = true),
  fun K => decide (W.nsIn K mainGlobals "is_deed" = some (some (.ref (Xf_is_deed K)))),
  fun K => decide (W.keepIn K (.ref (Xf_is_deed K)) = true),
  fun K => decide (W.nsIn K mainGlobals "_law_deal" = some (some (.ref (Xf__law_deal K)))),
  fun K => decide (W.keepIn K (.ref (Xf__law_deal K)) = true),
  fun K => decide (W.nsIn K mainGlobals "_law_draw" = some (some (.ref (Xf__law_draw K)))),
  fun K => decide (W.keepIn K (.ref (Xf__law_draw K)) = true),
  fun K => decide (W.nsIn K mainGlobals "_law_row" = some (some (.ref (Xf__law_row K)))),
  fun K => decide (W.keepIn K (.ref (Xf__law_row K)) = true),
  fun K => decide (W.nsIn K mainGlobals "_law_row_text" = some (some (.ref (Xf__law_row_text K)))),
  fun K => decide (W.keepIn K (.ref (Xf__law_row_text K)) = true),
  fun K => decide (W.nsIn K mainGlobals "_law_heard" = some (some (.ref (Xf__law_heard K)))),
  fun K => decide (W.keepIn K (.ref (Xf__law_heard K)) = true),
  fun K => decide (W.nsIn K mainGlobals "_law_is_text" = some (some (.ref (Xf__law_is_text K)))),
  fun K => decide (W.keepIn K (.ref (Xf__law_is_text K)) = true),
  fun K => decide (W.nsIn K mainGlobals "_law_bent" = some (some (.ref (Xf__law_bent K)))),
  fun K => decide (W.keepIn K (.ref (Xf__law_bent K)) = true),
  fun K => decide (W.nsIn K mainGlobals "law" = some (some (.ref (Xf_law K)))),
  fun K => decide (W.keepIn K (.ref (Xf_law K)) = true),
  fun K => decide (W.findIn K (.ref (Xc_Row K)) "__init__" = some (some (.ref (Xf_Row_init K)))),
  fun K => decide (W.isFn K (.ref (Xf_Row_init K)) = true),
  fun K => decide (W.makesIn K (Xc_Row K) = true)]
def ts2 : List (W.Frag → Bool) := [
  fun K => decide (W.keepIn K (.ref (Xc_Row K)) = true),
  fun K => decide (W.keepIn K (.ref (Xf_Row_init K)) = true),
  fun K => decide (W.readsIn K (Xc_Row K) (.type "type") = true),
  fun K => decide (W.specialIn K (.ref (Xc_Row K)) "__getattribute__" = some (some (.builtin "type.__getattribute__"))),
  fun K => cmT K (Xc_Row K) "read",
  fun K => decide (W.fnIn K (Xf_Row_read K) = true),
  fun K => decide (W.keepIn K (.ref (Xf_Row_read K)) = true),
  fun K => decide (W.findIn K (.ref (Xc_Row K)) "__eq__" = some (some (.ref (Xf_Row_eq K)))),
  fun K => decide (W.isFn K (.ref (Xf_Row_eq K)) = true),
  fun K => decide (W.keepIn K (.ref (Xf_Row_eq K)) = true),
  fun K => decide (W.findIn K (.ref (Xc_Row K)) "__str__" = some (some (.ref (Xf_Row_str K)))),
  fun K => decide (W.isFn K (.ref (Xf_Row_str K)) = true),
  fun K => decide (W.keepIn K (.ref (Xf_Row_str K)) = true),
  fun K => decide (W.nsIn K mainGlobals "HastyError" = some (some (.ref (Xc_HastyError K)))),
  fun K => clsT K (Xc_HastyError K),
  fun K => decide (W.typeIn K (.ref (Xc_HastyError K)) = some (.type "type")),
  fun K => decide (W.nsIn K mainGlobals "super" = some none),
  fun K => decide (W.nsIn K cStatics "thirdparty.any" = some none),
  fun K => decide (W.nsIn K mainGlobals "InvalidRow" = some (some (.ref (Xc_InvalidRow K)))),
  fun K => excT K (Xc_InvalidRow K) [.type "ValueError", .type "Exception", .type "BaseException", .type "object"] "ValueError.__new__",
  fun K => decide (W.findIn K (.ref (Xc_InvalidRow K)) "__setattr__" = some (some (.builtin "object.__setattr__"))),
  fun K => decide (W.subIn K (.ref (Xc_InvalidRow K)) (.type "BaseException") = some true),
  fun K => decide (W.typeIn K (.ref (Xc_InvalidRow K)) = some (.type "type")),
  fun K => decide (W.keepIn K (.ref (Xc_InvalidRow K)) = true),
  fun K => decide (W.findIn K (.ref (Xc_InvalidRow K)) "__getattribute__" = some (some (.builtin "BaseException.__getattribute__"))),
  fun K => decide (W.findIn K (.ref (Xc_InvalidRow K)) "__getattr__" = some none),
  fun K => decide (W.hasDictIn K (Xc_InvalidRow K) = true),
  fun K => decide (W.findIn K (.ref (Xc_InvalidRow K)) "__class__" = some (some (.builtin "object.__class__"))),
  fun K => decide (W.mroIn K (Xc_InvalidRow K) (.type "object") = some true),
  fun K => decide (W.findIn K (.ref (Xc_InvalidRow K)) "word" = some none)]
def ts3 : List (W.Frag → Bool) := [
  fun K => decide (W.findIn K (.ref (Xc_InvalidRow K)) "__init__" = some (some (.ref (Xf_InvalidRow_init K)))),
  fun K => decide (W.typeIn K (.ref (Xf_InvalidRow_init K)) = some (.type "function")),
  fun K => (fdAt K (Xf_InvalidRow_init K)).any fun g => isRefV g.code,
  fun K => filT K (Xcda_InvalidRow K) PySem.Challenge.pw_hastypage_k12_texts_of_rows.main.file,
  fun K => celT K (Xcc_InvalidRow K) (Xc_InvalidRow K),
  fun K => decide (W.ks_superIn K (Xc_InvalidRow K) (Xc_InvalidRow K) "__init__" = some (some (.builtin "ValueError.__init__"))),
  fun K => decide (W.subIn K (.ref (Xc_InvalidRow K)) (.type "ValueError") = some true),
  fun K => decide (W.nsIn K mainGlobals "InvalidText" = some (some (.ref (Xc_InvalidText K)))),
  fun K => excT K (Xc_InvalidText K) [.type "ValueError", .type "Exception", .type "BaseException", .type "object"] "ValueError.__new__",
  fun K => decide (W.findIn K (.ref (Xc_InvalidText K)) "__setattr__" = some (some (.builtin "object.__setattr__"))),
  fun K => decide (W.subIn K (.ref (Xc_InvalidText K)) (.type "BaseException") = some true),
  fun K => decide (W.typeIn K (.ref (Xc_InvalidText K)) = some (.type "type")),
  fun K => decide (W.keepIn K (.ref (Xc_InvalidText K)) = true),
  fun K => decide (W.findIn K (.ref (Xc_InvalidText K)) "__getattribute__" = some (some (.builtin "BaseException.__getattribute__"))),
  fun K => decide (W.findIn K (.ref (Xc_InvalidText K)) "__getattr__" = some none),
  fun K => decide (W.hasDictIn K (Xc_InvalidText K) = true),
  fun K => decide (W.findIn K (.ref (Xc_InvalidText K)) "__class__" = some (some (.builtin "object.__class__"))),
  fun K => decide (W.mroIn K (Xc_InvalidText K) (.type "object") = some true),
  fun K => decide (W.findIn K (.ref (Xc_InvalidText K)) "at" = some none),
  fun K => decide (W.findIn K (.ref (Xc_InvalidText K)) "__init__" = some (some (.ref (Xf_InvalidText_init K)))),
  fun K => decide (W.typeIn K (.ref (Xf_InvalidText_init K)) = some (.type "function")),
  fun K => (fdAt K (Xf_InvalidText_init K)).any fun g => isRefV g.code,
  fun K => filT K (Xcda_InvalidText K) PySem.Challenge.pw_hastypage_k12_texts_of_rows.main.file,
  fun K => celT K (Xcc_InvalidText K) (Xc_InvalidText K),
  fun K => decide (W.ks_superIn K (Xc_InvalidText K) (Xc_InvalidText K) "__init__" = some (some (.builtin "ValueError.__init__"))),
  fun K => decide (W.subIn K (.ref (Xc_InvalidText K)) (.type "ValueError") = some true),
  fun K => decide (W.subIn K (.ref (Xc_InvalidText K)) (.ref (Xc_InvalidText K)) = some true),
  fun K => decide (W.subIn K (.ref (Xc_InvalidRow K)) (.ref (Xc_InvalidRow K)) = some true),
  fun K => decide (W.subIn K (.ref (Xc_HastyError K)) (.type "BaseException") = some true),
  fun K => decide (W.hasDictIn K (Xc_HastyError K) = true)]
def ts4 : List (W.Frag → Bool) := [
  fun K => decide (W.subIn K (.ref (Xc_InvalidText K)) (.ref (Xc_HastyError K)) = some true),
  fun K => decide (W.subIn K (.ref (Xc_InvalidRow K)) (.ref (Xc_HastyError K)) = some true),
  fun K => decide (((.ref (Xc_InvalidRow K) : Value) == .ref (Xc_HastyError K)) = false),
  fun K => decide (((.ref (Xc_InvalidText K) : Value) == .ref (Xc_HastyError K)) = false),
  fun K => decide (W.nsIn K mainGlobals "abs" = some none),
  fun K => decide (W.nsIn K mainGlobals "all" = some none),
  fun K => decide (W.nsIn K mainGlobals "int" = some none),
  fun K => decide (W.nsIn K mainGlobals "isinstance" = some none),
  fun K => decide (W.nsIn K mainGlobals "len" = some none),
  fun K => decide (W.nsIn K mainGlobals "list" = some none),
  fun K => decide (W.nsIn K mainGlobals "range" = some none),
  fun K => decide (W.nsIn K mainGlobals "str" = some none),
  fun K => decide (W.nsIn K mainGlobals "tuple" = some none),
  fun K => decide (W.nsIn K mainGlobals "LETTERS" = some (some (.ref (Xa_LETTERS K)))),
  fun K => tupT K (Xa_LETTERS K) cst_LETTERS,
  fun K => decide (W.nsIn K mainGlobals "TESTS" = some (some (.ref (Xa_TESTS K)))),
  fun K => tupT K (Xa_TESTS K) cst_TESTS,
  fun K => decide (W.nsIn K mainGlobals "DEEDS" = some (some (.ref (Xa_DEEDS K)))),
  fun K => tupT K (Xa_DEEDS K) cst_DEEDS,
  fun K => decide (W.nsIn K mainGlobals "OF_ANSWERS" = some (some (.ref (Xa_OF_ANSWERS K)))),
  fun K => tupT K (Xa_OF_ANSWERS K) cst_OF_ANSWERS,
  fun K => tupT K (Xe_Row_init_0 K) [],
  fun K => tupT K (Xe_Row_init_1 K) []]
def chs : List (List (W.Frag → Bool)) := [ts0, ts1, ts2, ts3, ts4]
def nms0 : List Str := ["HastyError", "InvalidRow", "InvalidText", "is_sequence", "LETTERS", "TESTS", "DEEDS", "OF_ANSWERS", "fits_letter", "is_test", "is_deed", "Row", "_law_deal", "_law_draw", "_law_row", "_law_row_text", "_law_heard", "_law_is_text", "_law_bent"]
def nms : List Str := nms0
def asL : List Addr := upTo 1500 []
abbrev hk : W.Hook := hookX asL chs dfs
theorem runc0 (w : World) : HandSHeadRun.RunEq (W.OpenLaw.row PySem.Challenge.rw_hastypage_k12_texts_of_rows) (W.view PySem.Challenge.pw_hastypage_k12_texts_of_rows [23]) (hookX asL ([ts0, ts1, ts2, ts3, ts4]) ([])) (obX asL ([ts0, ts1, ts2, ts3, ts4]) ([])) 30000 nms w := by
  intro os
  kernel_rfl
theorem rund0 (w : World) : HandSHeadRun.RunEq (W.OpenLaw.row PySem.Challenge.rw_hastypage_k12_texts_of_rows) (W.view PySem.Challenge.pw_hastypage_k12_texts_of_rows [23]) (hookX asL ([]) (dfs0)) (obX asL ([]) (dfs0)) 30000 nms w := by
  intro os
  kernel_rfl
theorem run (w : World) : HandSHeadRun.RunEq (W.OpenLaw.row PySem.Challenge.rw_hastypage_k12_texts_of_rows) (W.view PySem.Challenge.pw_hastypage_k12_texts_of_rows [23]) hk (obX asL chs dfs) 30000 nms w := run_cat (chs := chs) (dfs := dfs) (c1 := [ts0, ts1, ts2, ts3, ts4]) (c2 := []) (d1 := []) (d2 := dfs0) rfl rfl (runc0 w) (rund0 w)

end Kk

set_option maxHeartbeats 4000000
namespace Tr
open PySem L2 PySem.Spec PyProof.Rows
section
variable {X : Cx} {T : TX X} {ρ : Rho} {C : Cells} {N : TEnds} {e a b c o i elt : Expr} {pos pos' p p2 apos : Pos} {es : List Expr} {rest body : List Stmt} {x m : Str} {A B : ME} {AS : MA} {Q : QE} {k : Nat} {f Cl : Addr} {fd : FuncData} {ps : List Str} {F : FS} {dvs : List V} {dds : List D} {dus : List Value} {d1 d2 d : D} {ns ns2 : List Str} {ds ds2 : List D} {Xq : QX}
def isInsD : D → Bool
  | .ins _ _ _ => true
  | _ => false
def oAddO (own : D → D → ME) (x y : D) : ME := match x with
  | .ins c ns ds => own (.ins c ns ds) y
  | x => oAdd x y
def pIxO (Cl : Addr) (F : FS) (Xq : QX) (x y : D) : ME := match x with
  | .ins c ns ds => fun C Q => c = Cl ∧ callW F Xq [.ins c ns ds, y] C Q
  | x => pIx x y
def pMin2 : D → D → ME
  | .int i, .int j => fun C Q => Q (.int (if j < i then j else i)) C
  | _, _ => fun _ _ => False
end
end Tr

set_option maxHeartbeats 4000000
namespace Tr
open PySem L2 PySem.Spec PyProof.Rows
def putD (ks : List Key) (ds : List D) (j : Key) (x : D) : List D := if (ks.any fun k => decide (k = j)) = true then (ks.zip ds).map fun p => if p.1 = j then x else p.2 else ds ++ [x]
def putKs (ks : List Key) (j : Key) : List Key := if (ks.any fun k => decide (k = j)) = true then ks else ks ++ [j]
section
variable {K : W.Frag} {H : Hp}
theorem putD_reps {ks : List Key} {ds : List D} {vs : List V} {j : Key} {d : D} {v : V} (r : Reps K H ds vs) (l : ks.length = vs.length) (rd : Rep K H d v) :
    ∃ vs', putK (ks.zip vs) j v = (putKs ks j).zip vs' ∧ (putKs ks j).length = vs'.length ∧ Reps K H (putD ks ds j d) vs' := by
  have any : ∀ (ks : List Key) (vs : List V), ks.length = vs.length → ((ks.zip vs).any fun kv => decide (kv.1 = j)) = ks.any fun k => decide (k = j) := by
    intro ks
    induction ks with
    | nil => intro vs _; simp
    | cons k ks ih =>
      intro vs l
      cases vs with
      | nil => cases l
      | cons v vs =>
        rw [List.zip_cons_cons, List.any_cons, List.any_cons, ih vs (by simpa using l)]
  unfold putK putKs putD
  rw [any ks vs l]
  by_cases c : (ks.any fun k => decide (k = j)) = true
  · rw [if_pos c, if_pos c, if_pos c]
    refine ⟨(ks.zip vs).map fun p => if p.1 = j then v else p.2, ?_, by simp [l], ?_⟩
    · clear any c r
      induction ks generalizing vs with
      | nil => simp
      | cons k ks ih =>
        cases vs with
        | nil => cases l
        | cons u vs =>
          simp only [List.zip_cons_cons, List.map_cons]
          rw [ih (by simpa using l)]
          by_cases c : k = j <;> simp [c]
    · clear any c
      induction ks generalizing vs ds with
      | nil => simp; exact Reps.nil
      | cons k ks ih =>
        cases vs with
        | nil => cases l
        | cons u vs =>
          cases ds with
          | nil => cases r
          | cons d0 ds =>
            obtain ⟨_, _, e, r1, r2⟩ := r
            cases e
            simp only [List.zip_cons_cons, List.map_cons]
            refine Reps.cons ?_ (ih r2 (by simpa using l))
            by_cases c : k = j
            · rw [if_pos c, if_pos c]; exact rd
            · rw [if_neg c, if_neg c]; exact r1
  · rw [if_neg c, if_neg c, if_neg c]
    exact ⟨vs ++ [v], by rw [List.zip_append l]; rfl, by simp [l], Reps.append r (Reps.cons rd Reps.nil)⟩
end
section
variable {X : Cx} {T : TX X} {ρ : Rho} {C : Cells} {N : TEnds} {e a b c o i elt : Expr} {pos pos' p p2 apos : Pos} {es : List Expr} {rest body : List Stmt} {x m : Str} {A B : ME} {AS : MA} {mm : MB} {Q : QE} {d d1 d2 : D} {ks : List Key} {ds : List D} {key : Key}
def oNotInS (x y : D) : ME := fun C Q => ∃ n z, x = .str ⟨#[n]⟩ ∧ y = .str z ∧ Q (.bl (!decide (n ∈ z.cps.toList))) C
variable {cpos : Pos}
structure WayD (X : Cx) (H01 : Hp) (C1 : Cells) (H1 : Hp) (L : Addr) (ks : List Key) (acc : List D) (H0 : Hp) (C : Cells) (H : Hp) : Prop where
  st : Stp H01 C1 H1 H0 C H
  c : CellsR X.K H0 C H
  at_ : ∃ vs, H L = some (.dK (ks.zip vs)) ∧ ks.length = vs.length ∧ Reps X.K H0 acc vs
  n0 : H0 L = none
  nd : ¬ Dom C L
theorem WayD.step {H01 H1 H0 H H0' H' : Hp} {C1 C' : Cells} {L : Addr} {acc : List D} (w : WayD X H01 C1 H1 L ks acc H0 C H) (p : Stp H0 C H H0' C' H') (c' : CellsR X.K H0' C' H') : WayD X H01 C1 H1 L ks acc H0' C' H' := by
  obtain ⟨vs, h1, hl, h2⟩ := w.at_
  obtain ⟨q1, q2⟩ := p.own L (by rw [h1]; simp) w.n0 w.nd
  exact ⟨w.st.trans w.c p, c', ⟨vs, p.fr L _ h1 w.nd, hl, h2.mono p.base⟩, q1, q2⟩
theorem WayD.add {H01 H1 H0 H : Hp} {C1 : Cells} {L : Addr} {acc : List D} {d : D} {v : V} (w : WayD X H01 C1 H1 L ks acc H0 C H) (hL : H1 L = none) (r : Rep X.K H0 d v) : ∃ vs, H L = some (.dK (ks.zip vs)) ∧ ks.length = vs.length ∧ WayD X H01 C1 H1 L (putKs ks key) (putD ks acc key d) H0 C (upd H L (.dK (putK (ks.zip vs) key v))) := by
  obtain ⟨vs, h1, hl, h2⟩ := w.at_
  have off : ∀ a x, (a, x) ∈ C → a ≠ L := fun a x hx e => w.nd ⟨x, e ▸ hx⟩
  obtain ⟨vs', e1, e2, e3⟩ := putD_reps (j := key) h2 hl r
  refine ⟨vs, h1, hl, ⟨⟨w.st.base, fun a o h n => ?_, w.st.own⟩, ⟨fun a o h => ?_, w.c.free, fun a x hx => (w.c.ok a x hx).mono (Same.refl _) (upd_ne (off a x hx)), w.c.nd⟩, ⟨vs', by rw [upd_same, e1], e2, e3⟩, w.n0, w.nd⟩⟩
  · rw [upd_ne (ne_of_none h hL)]; exact w.st.fr a o h n
  · rw [upd_ne (ne_of_none h w.n0)]; exact w.c.same a o h
theorem WayD.fin {H01 H1 H0 H : Hp} {C1 : Cells} {L : Addr} {acc : List D} (w : WayD X H01 C1 H1 L ks acc H0 C H) (hL : H1 L = none) : ∃ H0', Stp H01 C1 H1 H0' C H ∧ CellsR X.K H0' C H ∧ Rep X.K H0' (.dic ks acc) (.ref L) := by
  obtain ⟨vs, h1, hl, h2⟩ := w.at_
  have s0 : Same H0 (upd H0 L (.dK (ks.zip vs))) := fun a u h => by rw [upd_ne (ne_of_none h w.n0)]; exact h
  refine ⟨upd H0 L (.dK (ks.zip vs)), ⟨w.st.base.trans s0, w.st.fr, fun a h e n => ?_⟩, ⟨fun a o h => ?_, fun a d => ?_, fun a x hx => (w.c.ok a x hx).mono s0 rfl, w.c.nd⟩, ⟨L, vs, rfl, .inl upd_same, hl, h2.mono s0⟩⟩
  · obtain ⟨q1, q2⟩ := w.st.own a h e n
    exact ⟨by rw [upd_ne (show a ≠ L from fun z => h (by rw [z]; exact hL))]; exact q1, q2⟩
  · by_cases q : a = L
    · subst q; rw [upd_same] at h; cases h; exact h1
    · rw [upd_ne q] at h; exact w.c.same a o h
  · rw [upd_ne (show a ≠ L from fun z => w.nd (by rw [← z]; exact d))]; exact w.c.free a d
section
variable {scope : Scope} {own : List (Str × Nat)} {tg iter kx vx : Expr} {bd : Bind}
end
section
variable {X : Cx} {e : Expr} {es : List Expr} {p : Pos} {te : TE} {t : TA}
end
def pII (g : Int → Int → Int) : D → D → ME
  | .int i, .int j => fun C Q => Q (.int (g i j)) C
  | _, _ => fun _ _ => False
section
variable {scope : Scope} {own : List (Str × Nat)} {tg iter : Expr} {bd : Bind}
end
end
end Tr

set_option maxHeartbeats 4000000
namespace Tr
open PySem L2 PySem.Spec PyProof.Rows
section
variable {X : Cx} {T : TX X} {ρ : Rho} {C : Cells} {e a b : Expr} {es : List Expr} {pos : Pos} {A B : ME}
end
end Tr
namespace Tr
open PySem L2 PySem.Spec PyProof.Rows
theorem NdT.mono {H H' : Hp} {a : Addr} {vs : List V} (e : Same H H') (h : NdT H a vs) : NdT H' a vs := let ⟨o, h1, h2⟩ := h; ⟨o, e _ _ h1, h2⟩
def wk : D → D
  | .tpn ds => .tup ds
  | d => d
section
variable {X : Cx} {T : TX X} {ρ : Rho} {C : Cells} {o a e : Expr} {apos cpos pos : Pos} {A B : ME}
def pSplitC (s : Str) (y : D) : ME := onStr y fun t C Q => (t.length == 0) = false ∧ s.length ≤ 100000 ∧ ∀ p, Q (.raw (.ref p)) ((p, .lst ((Txt.split s t).map D.str)) :: C)
theorem se_splitC (ho : SE T o ρ A) (he : SE T e ρ B) (hs : starEach [e] X.env = [(false, eval e X.env)] := by rfl) (hbase : attributeBase o "split" X.env (eval o X.env) = eval o X.env := by rfl) (hline : (apos.endLine == pos.line) = true := by rfl) : SE T (.Call (.Attribute o "split" apos) [e] [] pos) ρ (eStr1 A B pSplitC) :=
  fun C Q q => we_m1 (fun ho he => pe_split ho he hs hbase hline) ((ho C _ q).mono fun d C1 h1 => by
    obtain ⟨s, e1, h1⟩ := onStr_ex h1
    exact ⟨s, e1, (he C1 _ h1).mono fun y C2 h2 v H H0 R c r k => by
      obtain ⟨t, e2, ht, hl, h3⟩ := onStr_ex h2
      subst e2; cases r
      refine ⟨s, t, rfl, rfl, ht, Nat.le_trans (show s.length + 2 ≤ 100002 by omega) (by decide), fun p hp => ?_⟩
      obtain ⟨p2, c2⟩ := stp_cell (o := .lst ((Txt.split s t).map V.str)) (c := .lst ((Txt.split s t).map D.str)) c hp ⟨_, upd_same, Reps.strs _⟩
      exact k _ (.raw (.ref p)) _ _ _ p2 c2 rfl (h3 p)⟩)
theorem s_splitC {s t : Str} {Q : QE} (h : (t.length == 0) = false ∧ s.length ≤ 100000 ∧ ∀ p, Q (.raw (.ref p)) ((p, .lst ((Txt.split s t).map D.str)) :: C)) : pSplitC s (.str t) C Q := h
end
end Tr

set_option maxHeartbeats 4000000
namespace TupNe
open PySem PySem.SeqAt GQ
open AutoSeq1 (wpAny_loadPart')
open MeetsSeq MeetsSeq2 MeetsSeq3 SeqRoads2
section
variable {prog : Program} {w : World} {A : Around} {R : Result → Shared → Prop}
end
section
variable {prog : Program} {w : World} {A : Around} {E : Value → Shared → Prop} {s : Shared}
end
end TupNe
namespace Tr
open PySem L2 PySem.Spec PyProof.Rows
section
variable {X : Cx} {T : TX X} {C : Cells} {Q : QE} {k : Nat} {f Cl : Addr} {fd : FuncData} {ps : List Str} {F : FS}
end
end Tr

set_option maxHeartbeats 4000000
namespace Tr
open PySem L2 PySem.Spec PyProof.Rows PySem.W
section
variable {K : W.Frag} {C : Addr} {M : Model}
end
section
variable {prog : Program} {w : World} {A : Around} {E : Value → Shared → Prop} {s : Shared} {K : W.Frag} {L : Addr} {m : Str → Option Value} {x C f : Addr} {ox : Obj} {od : Option Obj} {h₀ : Heap}
end
section
variable {X : Cx} {T : TX X} {C : Cells} {Q : QE} {k : Nat} {f Cl : Addr} {fd : FuncData} {ps : List Str} {F : FS} {d1 d2 : D} {ns ns2 : List Str} {ds ds2 : List D}
end
section
variable {X : Cx} {T : TX X} {C : Cells} {ρ : Rho} {N : TEnds} {tgs : List Expr} {pos : Pos} {body : List Stmt}
end
end Tr

set_option maxHeartbeats 4000000
namespace Tr
open PySem L2 PySem.Spec PyProof.Rows
structure PMc (X : Cx) (cs : List MatchCase) (z : Str) (t : TS) : Prop where
  run : ∀ (pins : List (Addr × Obj)) (s : Shared) (σ : L2.St) (H : Hp) (Dn : Ends) (u : Value) (first : Bool), Inv X pins σ H s → RelV (.str z) u → t Dn σ H → wpAny (model X.prog X.w) X.A (matchCases cs X.env u first) (L2.SP X pins Dn) X.xe s
section
variable {X : Cx} {T : TX X} {ρ : Rho} {C : Cells} {N : TEnds} {e a b o i : Expr} {pos cp mp tpos apos cpos : Pos} {body rest : List Stmt} {cs : List MatchCase} {z k : Str} {t : TS} {A B E : ME} {m m1 mm : MB} {Q : QE}
def pInsert (od d e : D) : ME := fun C Q => ∃ (i : Nat) (z : Addr) (ds : List D) (k : Nat), od = .raw (.ref z) ∧ d = .int k ∧ k < 100000 ∧ C[i]? = some (z, .lst ds) ∧ ds.length < 100000 ∧ Q .non (C.set i (z, .lst (ds.take k ++ [e] ++ ds.drop k)))
abbrev eL2 (A B E : ME) (O : D → D → D → ME) : ME := fun C Q => A C fun od C1 => isL od C1 ∧ B C1 fun d C2 => E C2 fun e C3 => O od d e C3 Q
theorem se_insert (ho : SE T o ρ A) (ha : SE T a ρ B) (hb : SE T b ρ E)
    (hbase : attributeBase o "insert" X.env (eval o X.env) = eval o X.env := by rfl) (hline : (apos.endLine == cpos.line) = true := by rfl) (hs : starEach [a, b] X.env = (false, eval a X.env) :: starEach [b] X.env := by rfl) (hs2 : starEach [b] X.env = (false, eval b X.env) :: starEach [] X.env := by rfl)
    (hfew : ((backTo cpos (starEach [a, b] X.env)).all (fun x => !x.1) && (backToKw cpos (keywordEach [] X.env)).all (fun x => x.1.isSome)
      && decide (([a, b] : List Expr).length + ([] : List Keyword).length + (if ([] : List Keyword).isEmpty then 0 else 1) < 30)) = true := by rfl) (hplain : (backTo cpos (starEach [b] X.env)).any (·.1) = false := by rfl) :
    SE T (.Call (.Attribute o "insert" apos) [a, b] [] cpos) ρ (eL2 A B E pInsert) := fun C Q q => by
  have h : Tr.WE T o ρ C fun od C1 => isL od C1 ∧ Tr.WA T [a, b] ρ C1 fun ds C2 => ∃ d e, ds = [d, e] ∧ pInsert od d e C2 Q := (ho C _ q).mono fun od C1 ⟨h1, h2⟩ => ⟨h1, wa_cons ((ha C1 _ h2).mono fun d C2 h3 => wa_cons ((hb C2 _ h3).mono fun e C3 h4 => wa_nil ⟨d, e, rfl, h4⟩) hs2) hs⟩
  refine PE.imp (pe_bm F.plainAttrs_list F.slot_list_insert F.type_list_insert mt_insert h (pa_some T ρ [a, b]) hbase hfew hline hs hplain) fun σ H R ⟨H0, at_, k⟩ => ⟨H0, at_, fun v od C1 H1 H01 p1 c1 r1 ⟨⟨z, ds, e1, hz⟩, hw⟩ => ?_⟩
  subst e1
  obtain rfl : v = .ref z := r1
  obtain ⟨vs, g1, g2⟩ := c1.ok z _ hz
  refine ⟨.inl ⟨rfl, vs, .inl (.inl g1)⟩, C1, _, hw, H01, at_.step p1 c1, fun v2 ds0 C2 H2 H02 p2 c2 r2 ⟨d, e, ed, i, z2, ds2, kk, ez, edk, hk, hi2, hl, q⟩ => ?_⟩
  cases ez
  subst ed; subst edk
  obtain ⟨y1, y2, e2, ry1, ry2⟩ := r2.two
  subst e2
  cases ry1
  obtain ⟨vs2, f1, f2⟩ := c2.ok z _ (List.mem_iff_getElem?.mpr ⟨i, hi2⟩)
  refine ⟨z, vs2, kk, y2, rfl, rfl, f1, by rw [← f2.length, sizeLine_eq]; omega, by omega, by omega, ?_⟩
  rw [Int.toNat_natCast]
  obtain ⟨p3, c3⟩ := stp_write (o := .lst (vs2.take kk ++ [y2] ++ vs2.drop kk)) c2 hi2 (c' := .lst (ds2.take kk ++ [e] ++ ds2.drop kk)) ⟨_, upd_same, ((f2.take kk).append (Reps.cons ry2 Reps.nil)).append (f2.drop kk)⟩
  exact k _ .non _ _ _ ((p1.trans c1 p2).trans c2 p3) c3 rfl q
variable {tgs : List Expr} {ds : List D} {d : D}
end
end Tr

set_option maxHeartbeats 4000000
namespace Tr
open PySem L2 PySem.Spec PyProof.Rows
section
variable {X : Cx} {T : TX X} {ρ : Rho} {C : Cells} {tg e : Expr} {t : TE} {A : ME}
end
end Tr

set_option maxHeartbeats 4000000
namespace Tr
open PySem L2 PySem.Spec PyProof.Rows
section
variable {X : Cx} {T : TX X} {ρ : Rho} {C : Cells} {N : TEnds} {pos pos' np : Pos} {x : Str} {c : Value} {body suite : List Stmt} {b₀ : Stmt}
end
end Tr

set_option maxHeartbeats 4000000
namespace LstNe
open PySem PySem.SeqAt GQ
open AutoSeq1 (wpAny_loadPart')
open MeetsSeq MeetsSeq2 MeetsSeq3 SeqRoads2
section
variable {prog : Program} {w : World} {A : Around} {R : Result → Shared → Prop}
end
section
variable {prog : Program} {w : World} {A : Around} {E : Value → Shared → Prop} {s : Shared}
end
end LstNe
namespace Tr
open PySem L2 PySem.Spec PyProof.Rows
section
variable {X : Cx} {T : TX X} {C : Cells} {Q : QE} {k : Nat} {f Cl : Addr} {fd : FuncData} {ps : List Str} {F : FS} {d1 d2 : D}
end
end Tr

set_option maxHeartbeats 4000000
namespace Tr
open PySem L2 PySem.Spec PyProof.Rows
section
variable {X : Cx} {T : TX X} {ρ : Rho} {C : Cells} {Q : QE} {o : Expr} {pos : Pos} {k : Nat} {g Cl : Addr} {fd : FuncData} {ps : List Str} {F : FS} {m : Str} {A : ME} {Xq : QX}
end
section
variable {X : Cx} {T : TX X} {ρ : Rho} {N : TEnds} {pos : Pos} {x : Str} {d : D} {ds : List D} {tgs : List Expr} {body : List Stmt} {mm : MB}
end
end Tr

set_option maxHeartbeats 4000000
namespace Tr
open PySem L2 PySem.Spec PyProof.Rows
section
variable {X : Cx} {T : TX X} {ρ : Rho} {C : Cells} {Q : QE} {a b : Expr} {p pos : Pos} {A B : ME}
end
end Tr

set_option maxHeartbeats 4000000
namespace Tr
open PySem L2 PySem.Spec PyProof.Rows
section
variable {X : Cx} {T : TX X} {ρ : Rho} {C : Cells} {N : TEnds} {d : D} {body : List Stmt} {tgs : List Expr} {pos : Pos}
def mUn6 (d : D) (f : D → D → D → D → D → D → MB) : MB := match d with
  | .tup [x, y, z, u, v, w] => f x y z u v w
  | _ => fun _ => False
theorem s_mun6 {d0 d1 d2 d3 d4 d5 : D} {f : D → D → D → D → D → D → MB} (h : f d0 d1 d2 d3 d4 d5 C) : mUn6 (.tup [d0, d1, d2, d3, d4, d5]) f C := h
end
end Tr

set_option maxHeartbeats 4000000
namespace Tr
open PySem L2 PySem.Spec PyProof.Rows
section
variable {X : Cx} {T : TX X} {ρ : Rho} {C : Cells} {N : TEnds} {Q : QE} {e : Expr} {pos pos' np rp : Pos} {x n cx fld : Str} {c : Value} {i k : Nat} {body suite : List Stmt} {b₀ : Stmt} {XQ' : Value → XF → Rho → Cells → Prop} {Cl : Addr}
def tsR (X : Cx) (T : TX X) (i : Nat) (st : List Stmt) (a : Addr) (cls : Value) (d : Option Addr) : TS := fun D σ H => ∃ (fs : XF) (ρ' : Rho) (C' : Cells) (H0' : Hp) (N' : TEnds), CellsR X.K H0' C' H ∧ SlotsR X.K H0' ρ' σ ∧ ρ'.length = σ.length ∧ ExcR X.K H0' H d fs ∧ T.A H0' C' H ∧ Tail X H0' C' H N' D ∧
  ∀ (oe : Obj) (pl : List (Addr × Obj)) (xe : Value → Shared → Prop) (m : Nat) (ve : Array Value) (T' : TX (sX X a pl xe)), Zc cls d oe → oe.data = .fields ve → (a, oe) ∈ pl → Tied pl (m + 1) (.ref a) → (∀ H0 C H, T'.A H0 C H → ExcR X.K H0 H d fs) →
    (∀ cls fs ρ C, T.XQ cls fs (ρ.set i none) C → T'.XQ cls fs ρ C) → WSs T' st ρ' C' N'
theorem ws_tryR (hs : X.stack = X.env :: X.outer) (hf : X.env.frame = some X.env.locals) (hN : X.N.Nodup) (hi : X.N[i]? = some n) (hln : X.env.kindOf n = some .local) (hc : Names X x c) (XQ' : Value → XF → Rho → Cells → Prop)
    (hb : ∀ (pn : List (Addr × Obj)) (xe : Value → Shared → Prop) (T' : TX (X.tr pn xe)), T'.XQ = XQ' → WSs T' body ρ C N)
    (hh : ∀ cls fs ρ' C', XQ' cls fs ρ' C' → ∃ b, W.exmOne X.K cls c = some b ∧ (b = false → T.XQ cls fs ρ' C') ∧
      (b = true → ∀ (a : Addr) (oe : Obj) (d : Option Addr) (pl : List (Addr × Obj)) (xe : Value → Shared → Prop) (m : Nat) (ve : Array Value) (T' : TX (sX X a pl xe)), Zc cls d oe → oe.data = .fields ve → (a, oe) ∈ pl → Tied pl (m + 1) (.ref a) → (∀ H0 C H, T'.A H0 C H → ExcR X.K H0 H d fs) →
        (∀ cls fs ρ C, T.XQ cls fs (ρ.set i none) C → T'.XQ cls fs ρ C) →
        WSs T' (b₀ :: suite) (ρ'.set i (some (.raw (.ref a)))) C' { nx := fun ρ C => N.nx (ρ.set i none) C, rt := N.rt, bk := fun ρ C => N.bk (ρ.set i none) C, ct := fun ρ C => N.ct (ρ.set i none) C })) :
    WS T (.Try body [.ExceptHandler (some (.Name x np)) (some n) (b₀ :: suite) pos'] [] [] pos) ρ C N := by
  refine PS.imp (ps_tryX_as (ts := tsR X T i (b₀ :: suite)) (tb := tbT T XQ' ρ C N) hs hf hN hi hln hc (fun hd => T.pas _ _ (SameStack.mark _ _)) T.tk (fun W pn xe tkW pass pas => ⟨fun pins s σ H D I ⟨H0, at_, k, imp⟩ => ?_⟩) (fun a oe cls d pl xe m ve hz hfl mem tied tkS pasS => ⟨fun pins s σ H D I ⟨fs, ρ', C', H0', N', cc, sl, l, ex, tA, k, w⟩ => ?_⟩)) fun D σ H ⟨H0, at_, k⟩ => ⟨H0, at_, k, fun cls d σ' H' fs ρ' C' H0' p cc s l ex xq => ?_⟩
  · exact (hb pn xe { A := fun H0' C' H' => Stp H0 C H H0' C' H', up := fun a c p _ => a.trans c p, XQ := XQ', tk := tkW.imp fun cls d σ' H' ⟨fs, ρ', C', H0', a, c, s, l, ex, q⟩ => imp cls d σ' H' fs ρ' C' H0' a c s l ex q, pass := pass, pas := pas } rfl).run pins s σ H D I ⟨H0, ⟨Stp.refl _ _ _, at_.c, at_.s, at_.l⟩, ⟨k.nx, k.rt, k.bk, k.ct⟩⟩
  · exact (w oe pl xe m ve { A := fun H0 C H => ExcR X.K H0 H d fs ∧ T.A H0 C H, up := fun h c p c' => ⟨h.1.step c p, T.up h.2 c p c'⟩, XQ := fun cls fs ρ C => T.XQ cls fs (ρ.set i none) C, tk := tkS.imp fun cls d σ H ⟨fs, ρ, C, H0, A, c, s, l, x, q⟩ => ⟨fs, ρ.set i none, C, H0, A.2, c, SlotsR.unset i s, by rw [List.length_set, List.length_set]; exact l, x, q⟩, pass := pasS _ _ (SameStack.refl _), pas := pasS } hz hfl mem tied (fun _ _ _ h => h.1) (fun _ _ _ _ h => h)).run pins s σ H D I ⟨H0', ⟨⟨ex, tA⟩, cc, sl, l⟩, ⟨k.nx, k.rt, k.bk, k.ct⟩⟩
  · obtain ⟨b, h1, h2, h3⟩ := hh cls fs ρ' C' xq
    refine ⟨b, h1, fun hb1 a ha => ?_, fun hb0 => ⟨fs, ρ', C', H0', T.up at_.a at_.c p cc, cc, s, l, ex, h2 hb0⟩⟩
    have k' := k.after p cc
    have un : ∀ {Q : QS} {R : L2.St → Hp → Prop}, ContS X H0' C' H' Q R → ContS X H0' C' H' (fun ρ C => Q (ρ.set i none) C) (fun σ H => R (σ.set i none) H) := fun kk ρ1 σ1 C1 H1 H01 p1 c1 s1 l1 q1 =>
      kk _ _ C1 H1 H01 p1 c1 (SlotsR.unset i s1) (by rw [List.length_set, List.length_set]; exact l1) q1
    exact ⟨fs, ρ'.set i (some (.raw (.ref a))), C', H0', { nx := fun ρ C => N.nx (ρ.set i none) C, rt := N.rt, bk := fun ρ C => N.bk (ρ.set i none) C, ct := fun ρ C => N.ct (ρ.set i none) C }, cc, SlotsR.set i s rfl l, by rw [List.length_set, List.length_set]; exact l, ex, T.up at_.a at_.c p cc, ⟨un k'.nx, k'.rt, un k'.bk, un k'.ct⟩, fun oe pl xe m ve T' hz hfl mem tied hA hX => h3 hb1 a oe d pl xe m ve T' hz hfl mem tied hA hX⟩
theorem ws_raiseFrom {a : Addr} {oe : Obj} {d : Option Addr} {cls : Value} {pl : List (Addr × Obj)} {xe : Value → Shared → Prop} {m : Nat} {ve : Array Value} {T' : TX (sX X a pl xe)} {p2 p3 : Pos} (hz : Zc cls d oe) (hdt : oe.data = .fields ve) (hm : (a, oe) ∈ pl) (ht : Tied pl (m + 1) (.ref a)) (hsub : W.subIn X.K cls (.type "BaseException") = some true)
    (hx : XCls X.prog X.K X.mg Cl fld) (hr : RoomG (k + 1) X.A) (hg : Gl X cx) (hmg : X.mg cx = some (.ref Cl)) (hi : X.N[i]? = some n) (hv : Vis X.env.scope n) (hρ : ρ[i]? = some (some (.raw (.ref a)))) (h : WE T' e ρ C fun d C1 => T'.XQ (.ref Cl) (some ([fld], [d])) ρ C1)
    (hs : starEach [e] X.env = (false, eval e X.env) :: starEach [] X.env := by rfl) (hdb : (cx == ("__debug__" : Str)) = false := by decide) (hdn : (n == ("__debug__" : Str)) = false := by decide) (hcn : (n == ("__classdict__" : Str)) = false := by decide) :
    WS T' (.Raise (some (.Call (.Name cx p2) [e] [] pos)) (some (.Name n p3)) pos') ρ C N := by
  obtain ⟨fI, i1, i2, S⟩ := hx.ex
  obtain ⟨B, newId, initId, bmB, XF, Ox⟩ := hx.o
  have rm : L2H.RoomH (k + 1) (sX X a pl xe).A := ⟨hr.rm.dp, hr.rm.un⟩
  refine PS.imp (ps_raiseFrom (X := sX X a pl xe) (a := a) (oe := oe) (i := i) rfl hm hdt ht hz.1 hsub T'.tk (pmk_sup XF Ox i1 i2 S rm hg hmg h hs hdb) hi hv hdn hcn) fun Dn σ H ⟨H0, at_, _⟩ => ⟨?_, H0, at_, fun v d C1 H1 H01 p1 c1 r1 q dx hdx => ?_⟩
  · obtain ⟨v, hv1, hv2⟩ := at_.s i _ hρ
    cases hv2
    exact hv1
  · obtain ⟨p2, c2⟩ := stp_new (o := .xd [(fld, v)]) c1 hdx
    have a2 := (at_.step p1 c1).step p2 c2
    exact ⟨some ([fld], [d]), ρ, C1, _, a2.a, a2.c, a2.s, a2.l, ⟨[v], upd_same, rfl, Reps.cons (r1.mono p2.base) Reps.nil⟩, q⟩
theorem XCls.sub {P : Program} {K : W.Frag} {mg : Str → Option Value} {C : Addr} {f : Str} (hx : XCls P K mg C f) : W.subIn K (.ref C) (.type "BaseException") = some true := by
  obtain ⟨_, _, _, _, _, Ox⟩ := hx.o
  exact Ox.bx
def mRaiseF (K : W.Frag) (A : ME) (Cl : Addr) (fld : Str) (Xq : QX) (cls : Value) : MB := fun C => W.subIn K cls (.type "BaseException") = some true ∧ A C fun d C1 => Xq (.ref Cl) (some ([fld], [d])) C1
theorem sb_tryR {α : Type} {cv : Value} {mb : QX → MB} {A : ME} {Xq : QX} {rest : List Stmt} {p2 p3 rp hp : Pos} (enc : α → Rho) (J : α → MB) (ρe : Rho) (hs : X.stack = X.env :: X.outer) (hf : X.env.frame = some X.env.locals) (hN : X.N.Nodup) (hi : X.N[i]? = some n) (hln : X.env.kindOf n = some .local) (hc : Names X x cv)
    (hX : ∀ ρ' cls fs C, Xq cls fs C → T.XQ cls fs ρ' C) (hJ : ∀ a, SB T rest (enc a) (J a) N) (hn : ∀ a d, (enc a)[i]? ≠ some (some d))
    (hb : ∀ (pn : List (Addr × Obj)) (xe : Value → Shared → Prop) (T' : TX (X.tr pn xe)) (X' : QX), (∀ ρ', LeR ρe ρ' → ∀ cls fs C, X' cls fs C → T'.XQ cls fs ρ' C) → ∀ W : QS, (∀ a ρ' C, LeR (enc a) ρ' → J a C → W ρ' C) → SB T' body ρ (mb X') { N with nx := W })
    (hx : XCls X.prog X.K X.mg Cl fld) (hr : RoomG (k + 1) X.A) (hg : Gl X cx) (hmg : X.mg cx = some (.ref Cl))
    (ha : ∀ (a : Addr) (pl : List (Addr × Obj)) (xe : Value → Shared → Prop) (T' : TX (sX X a pl xe)), SE T' e (ρe.set i (some (.raw (.ref a)))) A)
    (hil : i < ρe.length) (hse : starEach [e] X.env = (false, eval e X.env) :: starEach [] X.env := by rfl) (hdb : (cx == ("__debug__" : Str)) = false := by decide) (hdn : (n == ("__debug__" : Str)) = false := by decide) (hcn : (n == ("__classdict__" : Str)) = false := by decide) :
    SB T (.Try body [.ExceptHandler (some (.Name x np)) (some n) [.Raise (some (.Call (.Name cx p2) [e] [] rp)) (some (.Name n p3)) pos'] hp] [] [] pos :: rest) ρ (mTry X.K cv mb (fun _ cls => mRaiseF X.K A Cl fld Xq cls) Xq) N := fun C q => by
  have hw : ∀ a ρ' C, LeR (enc a) ρ' → J a C → WSs T rest ρ' C N := fun a ρ' C l q => wss_forget l (hJ a C q)
  refine wss_cons (ws_tryR hs hf hN hi hln hc (fun cls fs ρ' C' => LeR ρe ρ' ∧ ∃ b, W.exmOne X.K cls cv = some b ∧ if b = true then mRaiseF X.K A Cl fld Xq cls C' else Xq cls fs C') (fun pn xe T' eX => hb pn xe T' _ (fun ρ' l cls fs C' h => by rw [eX]; exact ⟨l, h⟩) _ hw C q) ?_)
  rintro cls fs ρ' C' ⟨l, b, h1, h2⟩
  refine ⟨b, h1, fun hb0 => ?_, fun hb1 a oe d pl xe m ve T' hz hfl mem tied hA hXX => ?_⟩
  · subst hb0; exact hX _ _ _ _ h2
  · subst hb1
    obtain ⟨hsub, h3⟩ : mRaiseF X.K A Cl fld Xq cls C' := h2
    refine wss_forget l.set (wss_one (ws_raiseFrom hz hfl mem tied hsub hx hr hg hmg hi (.inl hln) (by rw [List.getElem?_set_self hil]) ((ha a pl xe T' C' _ h3).mono fun d C1 h4 => hXX _ _ _ _ (hX _ _ _ _ h4)) hse hdb hdn hcn))
end
end Tr

set_option maxHeartbeats 4000000
namespace Tr
open PySem L2 PySem.Spec PyProof.Rows
section
variable {C : Cells} {Q : QE} {i j : Int} {x y s t : Str} {xs ys ds : List D} {d e d1 d2 : D} {K : W.Frag} {own : D → D → ME} {own1 : D → ME} {b k : Bool}
theorem s_add_int (h : Q (.int (i + j)) C) : oAdd (.int i) (.int j) C Q := h
theorem s_add_str (h : x.length + y.length ≤ 100000 ∧ Q (.str (x ++ y)) C) : oAdd (.str x) (.str y) C Q := h
theorem s_add_tup (h : xs.length + ys.length ≤ 100000 ∧ Q (.tup (xs ++ ys)) C) : oAdd (.tup xs) (.tup ys) C Q := h
theorem s_add_lst (h : xs.length + ys.length ≤ 100000 ∧ Q (.lst (xs ++ ys)) C) : oAdd (.lst xs) (.lst ys) C Q := h
theorem s_add_cell (h1 : LstD C d xs) (h2 : LstD C e ys) (h : xs.length + ys.length ≤ 100000 ∧ Q (.lst (xs ++ ys)) C) : oAdd d e C Q := by
  unfold oAdd; split
  · obtain h1 | ⟨_, h1, _⟩ := h1 <;> cases h1
  · obtain h1 | ⟨_, h1, _⟩ := h1 <;> cases h1
  · obtain h1 | ⟨_, h1, _⟩ := h1 <;> cases h1
  · obtain h1 | ⟨_, h1, _⟩ := h1 <;> cases h1
    obtain h2 | ⟨_, h2, _⟩ := h2 <;> cases h2
    exact h
  · exact ⟨xs, ys, h1, h2, h⟩
theorem s_addO {own : D → D → ME} (n : isInsD d1 = false) (h : oAdd d1 d2 C Q) : oAddO own d1 d2 C Q := by
  unfold oAddO; split
  · cases n
  · exact h
theorem s_addOI {own : D → D → ME} {c : Addr} {ns : List Str} (h : own (.ins c ns ds) d2 C Q) : oAddO own (.ins c ns ds) d2 C Q := h
theorem s_ixO {Cl : Addr} {F : FS} {Xq : QX} (n : isInsD d1 = false) (h : pIx d1 d2 C Q) : pIxO Cl F Xq d1 d2 C Q := by
  unfold pIxO; split
  · cases n
  · exact h
theorem s_min (h : Q (.int (if j < i then j else i)) C) : on2 pMin2 [.int i, .int j] C Q := h
theorem s_sub (h : Q (.int (i - j)) C) : oSub (.int i) (.int j) C Q := h
theorem s_mul (h : CMul i j ∧ Q (.int (i * j)) C) : oMul (.int i) (.int j) C Q := h
theorem s_fdiv (h : (0 < j ∧ j < 1073741824) ∧ Q (.int (i / j)) C) : oFdiv (.int i) (.int j) C Q := h
theorem s_mod (h : 0 < j ∧ Q (.int (i % j)) C) : oMod (.int i) (.int j) C Q := h
theorem s_pow (h : CPow i j ∧ Q (.int (i ^ j.toNat)) C) : oPow (.int i) (.int j) C Q := h
theorem s_lt (h : Q (.bl (decide (i < j))) C) : oLt (.int i) (.int j) C Q := h
theorem s_le (h : Q (.bl (decide (i ≤ j))) C) : oLe (.int i) (.int j) C Q := h
theorem s_gt (h : Q (.bl (decide (j < i))) C) : oGt (.int i) (.int j) C Q := h
theorem s_ge (h : Q (.bl (decide (j ≤ i))) C) : oGe (.int i) (.int j) C Q := h
theorem s_lt_str (h : Q (.bl (decide (x.cps.toList < y.cps.toList))) C) : oLt (.str x) (.str y) C Q := h
theorem s_le_str (h : Q (.bl (!decide (y.cps.toList < x.cps.toList))) C) : oLe (.str x) (.str y) C Q := h
theorem s_eq_int (h : Q (.bl (decide (i = j))) C) : oEq own (.int i) (.int j) C Q := h
theorem s_eq_str (h : Q (.bl (decide (x = y))) C) : oEq own (.str x) (.str y) C Q := h
theorem s_eq_bl (h : Q (.bl (b == k)) C) : oEq own (.bl b) (.bl k) C Q := h
theorem s_ne_int (h : Q (.bl (!decide (i = j))) C) : oNe own (.int i) (.int j) C Q := h
theorem s_ne_str (h : Q (.bl (!decide (x = y))) C) : oNe own (.str x) (.str y) C Q := h
theorem s_ne_bl (h : Q (.bl (b != k)) C) : oNe own (.bl b) (.bl k) C Q := h
def isB : D → Bool
  | .int _ | .str _ | .bl _ => true
  | _ => false
def EqD (C : Cells) (d1 d2 : D) (b : Bool) : Prop := ∃ p1 p2, PyR C d1 p1 ∧ PyR C d2 p2 ∧ SeqAt.shaped p1 = true ∧ SeqAt.shaped p2 = true ∧ PyData.eqv p1 p2 = b
theorem eq_go (n : isB d1 = false ∨ isB d2 = false) (h : (∃ p1 p2, PyR C d1 p1 ∧ PyR C d2 p2 ∧ SeqAt.shaped p1 = true ∧ SeqAt.shaped p2 = true ∧ Q (.bl (PyData.eqv p1 p2)) C) ∨ own d1 d2 C Q) : oEq own d1 d2 C Q := by
  unfold oEq; split
  · rcases n with n | n <;> cases n
  · rcases n with n | n <;> cases n
  · rcases n with n | n <;> cases n
  · exact h
theorem ne_go (n : isB d1 = false ∨ isB d2 = false) (h : (∃ p1 p2, PyR C d1 p1 ∧ PyR C d2 p2 ∧ SeqAt.shaped p1 = true ∧ SeqAt.shaped p2 = true ∧ Q (.bl (!PyData.eqv p1 p2)) C) ∨ own d1 d2 C Q) : oNe own d1 d2 C Q := by
  unfold oNe; split
  · rcases n with n | n <;> cases n
  · rcases n with n | n <;> cases n
  · rcases n with n | n <;> cases n
  · exact h
theorem s_eqD (n : isB d1 = false ∨ isB d2 = false) (h : EqD C d1 d2 b) (q : Q (.bl b) C) : oEq own d1 d2 C Q := by
  obtain ⟨p1, p2, h1, h2, h3, h4, rfl⟩ := h
  exact eq_go n (.inl ⟨p1, p2, h1, h2, h3, h4, q⟩)
theorem s_neD (n : isB d1 = false ∨ isB d2 = false) (h : EqD C d1 d2 b) (q : Q (.bl (!b)) C) : oNe own d1 d2 C Q := by
  obtain ⟨p1, p2, h1, h2, h3, h4, rfl⟩ := h
  exact ne_go n (.inl ⟨p1, p2, h1, h2, h3, h4, q⟩)
theorem eqd_lstS {xs ys : List Str} (h1 : LstD C d1 (xs.map D.str)) (h2 : LstD C d2 (ys.map D.str)) (hx : ∀ x ∈ xs, PyData.strOk x = true) (hy : ∀ x ∈ ys, PyData.strOk x = true) : EqD C d1 d2 (decide (xs = ys)) :=
  ⟨_, _, pyR_l h1 (plain_strs xs), pyR_l h2 (plain_strs ys), shaped_lstS hx, shaped_lstS hy, by rw [PyData.eqv, eqv_strs]⟩
theorem eqd_lstI {xs ys : List Int} (h1 : LstD C d1 (xs.map D.int)) (h2 : LstD C d2 (ys.map D.int)) : EqD C d1 d2 (decide (xs = ys)) :=
  ⟨_, _, pyR_l h1 (plain_ints xs), pyR_l h2 (plain_ints ys), shaped_lstI xs, shaped_lstI ys, by rw [PyData.eqv, eqv_ints]⟩
theorem s_is_bl (h : Q (.bl (decide (b = k))) C) : oIs (.bl b) (.bl k) C Q := h
theorem s_isnot_bl (h : Q (.bl (!decide (b = k))) C) : oIsNot (.bl b) (.bl k) C Q := h
def notRaw : D → Bool
  | .raw _ => false
  | _ => true
theorem s_isN (n : notRaw d = true) (h : Q (.bl (isNon d)) C) : oIs d .non C Q := by
  cases d with
  | raw _ => cases n
  | _ => exact ⟨fun w e => (by cases e), h⟩
theorem s_isNotN (n : notRaw d = true) (h : Q (.bl (!isNon d)) C) : oIsNot d .non C Q := by
  cases d with
  | raw _ => cases n
  | _ => exact ⟨fun w e => (by cases e), h⟩
theorem s_isN_ref {a : Addr} (h : Q (.bl false) C) : oIs (.raw (.ref a)) .non C Q := h
theorem s_isNotN_ref {a : Addr} (h : Q (.bl true) C) : oIsNot (.raw (.ref a)) .non C Q := h
theorem s_inS {xs : List Str} (h1 : SeqD C d (xs.map D.str)) (h : Q (.bl (decide (s ∈ xs))) C) : oIn (.str s) d C Q :=
  .inl ⟨_, h1, rfl, by simp [flatD], by rw [inD_strs]; exact h⟩
theorem s_notInS {xs : List Str} (h1 : SeqD C d (xs.map D.str)) (h : Q (.bl (!decide (s ∈ xs))) C) : oNotIn (.str s) d C Q :=
  ⟨_, h1, rfl, by simp [flatD], by rw [inD_strs]; exact h⟩
theorem s_inSign {n : Nat} {z : Str} (h : Q (.bl (decide (n ∈ z.cps.toList))) C) : oIn (.str ⟨#[n]⟩) (.str z) C Q := .inr ⟨n, z, rfl, rfl, h⟩
theorem s_notInSign {n : Nat} {z : Str} (h : Q (.bl (!decide (n ∈ z.cps.toList))) C) : oNotInS (.str ⟨#[n]⟩) (.str z) C Q := ⟨n, z, rfl, rfl, h⟩
theorem s_tup (h : ds.length ≤ 100000 ∧ Q (.tup ds) C) : pTup ds C Q := h
theorem s_lst (h : ds.length ≤ 100000 ∧ Q (.lst ds) C) : pLst ds C Q := h
theorem s_lstC (h : ds.length ≤ 100000 ∧ ∀ p, Q (.raw (.ref p)) ((p, .lst ds) :: C)) : pLstC ds C Q := h
theorem s_tru {R : QT} (h : R b C) : pTru (.bl b) C R := h
theorem s_ii {g : Int → Int → Int} (h : Q (.int (g i j)) C) : pII g (.int i) (.int j) C Q := h
theorem s_neg (h : Q (.int (-i)) C) : pNeg (.int i) C Q := h
theorem s_fld {Cl : Addr} {ns : List Str} {m : Str} (h1 : InsD C d Cl ns ds) (h2 : Cls K Cl) (h3 : NoAttr K Cl m) (h4 : (ns.zip ds).lookup m = some e) (h : Q e C) : pFld K m d C Q := ⟨_, _, _, _, h1, h2, h3, h4, h⟩
theorem s_ix_tup (h1 : atI ds i = some d) (h : Q d C) : pIx (.tup ds) (.int i) C Q := ⟨d, h1, h⟩
theorem s_ix_lst (h1 : atI ds i = some d) (h : Q d C) : pIx (.lst ds) (.int i) C Q := ⟨d, h1, h⟩
theorem s_ix_cell {a : Addr} (h0 : LstD C (.raw (.ref a)) ds) (h1 : atI ds i = some d) (h : Q d C) : pIx (.raw (.ref a)) (.int i) C Q := ⟨ds, d, h0, h1, h⟩
theorem s_oi {R : Option Int → Cells → Prop} (h : R (some i) C) : pOI (.int i) C R := h
theorem s_sl_tup {l u : Option Int} (h : Q (.tup (cutD ds l u)) C) : pSl (.tup ds) l u C Q := h
theorem s_sl_lst {l u : Option Int} (h : Q (.lst (cutD ds l u)) C) : pSl (.lst ds) l u C Q := h
theorem s_sl_str {l u : Option Int} (h : s.length ≤ 100000 ∧ Q (.str (cutS s l u)) C) : pSl (.str s) l u C Q := h
theorem s_sl_cell {a : Addr} {l u : Option Int} (h0 : LstD C (.raw (.ref a)) ds) (h : Q (.lst (cutD ds l u)) C) : pSl (.raw (.ref a)) l u C Q := ⟨ds, h0, h⟩
theorem s_rev (h0 : LstD C d ds) (h : Q (.lst ds.reverse) C) : pRev d C Q := ⟨ds, h0, h⟩
theorem s_revC (h0 : LstD C d ds) (h : ∀ p, Q (.raw (.ref p)) ((p, .lst ds.reverse) :: C)) : pRevC d C Q := ⟨ds, h0, h⟩
variable {R : QI}
theorem s_it_lst (h : R ds (fun _ => True) C) : pIter (.lst ds) C R := h
theorem s_it_tup (h : R ds (fun _ => True) C) : pIter (.tup ds) C R := h
theorem s_it_cell {a : Addr} (h0 : SeqD C (.raw (.ref a)) ds) (h : R ds (fun C' => SeqD C' (.raw (.ref a)) ds) C) : pIter (.raw (.ref a)) C R := ⟨ds, h0, h⟩
theorem s_itS (h : R (signsD s) (fun _ => True) C) : pIterS (.str s) C R := h
theorem s_rg1 (h : (-(2 ^ 62) ≤ i ∧ i < 2 ^ 62) ∧ R (rangeD 0 i.toNat) (fun _ => True) C) : pRange1 (.int i) C R := h
theorem s_rg2 (h : (-(2 ^ 62) ≤ i ∧ i < 2 ^ 62 ∧ -(2 ^ 62) ≤ j ∧ j < 2 ^ 62) ∧ R (rangeD i (j - i).toNat) (fun _ => True) C) : pRange2 (.int i) (.int j) C R := h
theorem s_en_lst (h : R (enumD 0 ds) (fun _ => True) C) : pEnum (.lst ds) C R := h
theorem s_en_tup (h : R (enumD 0 ds) (fun _ => True) C) : pEnum (.tup ds) C R := h
theorem s_en_cell {a : Addr} (h0 : SeqD C (.raw (.ref a)) ds) (h : R (enumD 0 ds) (fun C' => SeqD C' (.raw (.ref a)) ds) C) : pEnum (.raw (.ref a)) C R := ⟨ds, h0, h⟩
theorem s_un2 {β : Sort _} {q : β} {f : D → D → Cells → β → Prop} (h : f d e C q) : un2 (.tup [d, e]) f C q := h
theorem s_un3 {β : Sort _} {q : β} {f : D → D → D → Cells → β → Prop} (h : f d e d1 C q) : un3 (.tup [d, e, d1]) f C q := h
theorem s_mun2 {f : D → D → MB} (h : f d e C) : mUn2 (.tup [d, e]) f C := h
theorem s_mun3 {f : D → D → D → MB} (h : f d e d1 C) : mUn3 (.tup [d, e, d1]) f C := h
theorem s_mun5 {d3 : D} {f : D → D → D → D → D → MB} (h : f d e d1 d2 d3 C) : mUn5 (.tup [d, e, d1, d2, d3]) f C := h
theorem s_mun4 {f : D → D → D → D → MB} (h : f d e d1 d2 C) : mUn4 (.tup [d, e, d1, d2]) f C := h
theorem s_len_lst (h : Q (.int ds.length) C) : on1 (pLen1 own1) [.lst ds] C Q := h
theorem s_len_tup (h : Q (.int ds.length) C) : on1 (pLen1 own1) [.tup ds] C Q := h
theorem s_len_str (h : s.length ≤ 100000 ∧ Q (.int s.length) C) : on1 (pLen1 own1) [.str s] C Q := h
theorem s_len_cell {a : Addr} (h0 : LstD C (.raw (.ref a)) ds) (h : Q (.int ds.length) C) : on1 (pLen1 own1) [.raw (.ref a)] C Q := .inl ⟨ds, h0, h⟩
theorem s_len_own {Cl : Addr} {ns : List Str} (h : own1 (.ins Cl ns ds) C Q) : on1 (pLen1 own1) [.ins Cl ns ds] C Q := .inr h
theorem s_str_str (h : Q (.str s) C) : on1 (pStr1 own1) [.str s] C Q := h
theorem s_str_int (h : i.natAbs.log2 < 1920 ∧ Q (.str (toString i)) C) : on1 (pStr1 own1) [.int i] C Q := h
theorem s_str_own {Cl : Addr} {ns : List Str} (h : own1 (.ins Cl ns ds) C Q) : on1 (pStr1 own1) [.ins Cl ns ds] C Q := h
theorem s_str_ownC {a : Addr} (h : own1 (.raw (.ref a)) C Q) : on1 (pStr1 own1) [.raw (.ref a)] C Q := h
theorem s_int_int (h : Q (.int i) C) : on1 pInt1 [.int i] C Q := h
theorem s_int_bl (h : Q (.int (if b then 1 else 0)) C) : on1 pInt1 [.bl b] C Q := h
theorem s_int_str (h : s.length ≤ 640 ∧ ∃ n, intText? s = some n ∧ Q (.int n) C) : on1 pInt1 [.str s] C Q := h
theorem s_list_lst (h : Q (.lst ds) C) : on1 pList1 [.lst ds] C Q := h
theorem s_list_tup (h : Q (.lst ds) C) : on1 pList1 [.tup ds] C Q := h
theorem s_list_cell {a : Addr} (h0 : SeqD C (.raw (.ref a)) ds) (h : Q (.lst ds) C) : on1 pList1 [.raw (.ref a)] C Q := ⟨ds, h0, h⟩
theorem s_listC_lst (h : ∀ p, Q (.raw (.ref p)) ((p, .lst ds) :: C)) : on1 pListC1 [.lst ds] C Q := h
theorem s_listC_tup (h : ∀ p, Q (.raw (.ref p)) ((p, .lst ds) :: C)) : on1 pListC1 [.tup ds] C Q := h
theorem s_listC_cell {a : Addr} (h0 : SeqD C (.raw (.ref a)) ds) (h : ∀ p, Q (.raw (.ref p)) ((p, .lst ds) :: C)) : on1 pListC1 [.raw (.ref a)] C Q := ⟨ds, h0, h⟩
theorem s_tuple_lst (h : Q (.tup ds) C) : on1 pTuple1 [.lst ds] C Q := h
theorem s_tuple_tup (h : Q (.tup ds) C) : on1 pTuple1 [.tup ds] C Q := h
theorem s_tuple_seq (h0 : SeqD C d ds) (h : Q (.tup ds) C) : on1 pTuple1 [d] C Q := by
  show pTuple1 d C Q
  unfold pTuple1; split
  · obtain (h0 | ⟨_, h0, _⟩) | h0 := h0 <;> cases h0; exact h
  · obtain (h0 | ⟨_, h0, _⟩) | h0 := h0 <;> cases h0; exact h
  · exact ⟨ds, h0, h⟩
theorem s_list_seq (h0 : SeqD C d ds) (h : Q (.lst ds) C) : on1 pList1 [d] C Q := by
  show pList1 d C Q
  unfold pList1; split
  · obtain (h0 | ⟨_, h0, _⟩) | h0 := h0 <;> cases h0; exact h
  · obtain (h0 | ⟨_, h0, _⟩) | h0 := h0 <;> cases h0; exact h
  · exact ⟨ds, h0, h⟩
theorem s_it_seq (h0 : SeqD C d ds) (h : ∀ P : Cells → Prop, (∀ C', SeqD C' d ds → P C') → R ds P C) : pIter d C R := by
  unfold pIter; split
  · obtain (h0 | ⟨_, h0, _⟩) | h0 := h0 <;> cases h0; exact h _ fun _ _ => trivial
  · obtain (h0 | ⟨_, h0, _⟩) | h0 := h0 <;> cases h0; exact h _ fun _ _ => trivial
  · exact ⟨ds, h0, h _ fun _ h => h⟩
theorem s_allM {α : Type} {l : List α} {f : α → Bool} (h : Q (.bl (l.all f)) C) : on1 pAll1 [.lst (l.map fun a => D.bl (f a))] C Q :=
  ⟨l.map f, by rw [List.map_map]; rfl, by rw [List.all_map]; exact h⟩
theorem s_anyM {α : Type} {l : List α} {f : α → Bool} (h : Q (.bl (l.any f)) C) : on1 pAny1 [.lst (l.map fun a => D.bl (f a))] C Q :=
  ⟨l.map f, by rw [List.map_map]; rfl, by rw [List.any_map]; exact h⟩
theorem s_abs (h : Q (.int (if i < 0 then -i else i)) C) : on1 pAbs1 [.int i] C Q := h
theorem s_max (h : Q (.int (if j > i then j else i)) C) : on2 pMax2 [.int i, .int j] C Q := h
theorem s_isi {tv u : Value} (h1 : ClsD e u) (h2 : TyD K C d tv) (h3 : W.kitOne K tv u = some b) (h : Q (.bl b) C) : on2 (pIsI K) [d, e] C Q := .inl ⟨tv, u, b, h1, h2, h3, h⟩
theorem s_isiT {tv : Value} {us : List Value} (h1 : Paired ClsD ds us) (h2 : TyD K C d tv) (h3 : W.kitAny K tv us = some b) (h : Q (.bl b) C) : on2 (pIsI K) [d, .tup ds] C Q := .inr ⟨ds, tv, us, b, rfl, h1, h2, h3, h⟩
theorem s_onStr {β : Sort _} {q : β} {kk : Str → Cells → β → Prop} (h : kk s C q) : onStr (.str s) kk C q := h
theorem s_split (h : (t.length == 0) = false ∧ s.length ≤ 100000 ∧ Q (.lst ((Txt.split s t).map D.str)) C) : pSplit s (.str t) C Q := h
theorem s_part (h : (t.length == 0) = false ∧ s.length ≤ 100000 ∧ Q (.tup [.str (Txt.partition s t).1, .str (Txt.partition s t).2.1, .str (Txt.partition s t).2.2]) C) : pPart s (.str t) C Q := h
theorem s_starts (h : Q (.bl (Txt.startswith s t)) C) : pStarts s (.str t) C Q := h
theorem s_join {zs : List Str} (h0 : SeqD C d (zs.map D.str)) (h : (zs.map (·.length)).sum + zs.length * s.length ≤ 100000 ∧ Q (.str (Txt.join s zs)) C) : pJoin s d C Q := ⟨zs, h0, h⟩
theorem s_fmt_str (h : s.length ≤ 100000 ∧ Q (.str s) C) : pFmt (.str s) C Q := h
theorem s_fmt_int (h : i.natAbs.log2 < 1920 ∧ Q (.str (toString i)) C) : pFmt (.int i) C Q := h
theorem s_app {a : Addr} (n : Nat) (h1 : C[n]? = some (a, .lst ds)) (h : ds.length < 100000 ∧ Q .non (C.set n (a, .lst (ds ++ [d])))) : pApp (.raw (.ref a)) d C Q := ⟨n, a, ds, rfl, h1, h⟩
theorem s_frz {a : Addr} {k : D → MB} {c : Cell} (n : Nat) (h1 : C[n]? = some (a, c)) (h : k c.toD (C.eraseIdx n)) : mFrz (.raw (.ref a)) k C := ⟨n, a, c, rfl, h1, h⟩
theorem s_isL {a : Addr} (h : LstD C (.raw (.ref a)) ds) : isL (.raw (.ref a)) C := by
  obtain h | ⟨z, h, hm⟩ := h
  · cases h
  · cases h; exact ⟨_, _, rfl, hm⟩
theorem s_pop {a : Addr} (n : Nat) (h1 : C[n]? = some (a, .lst (ds ++ [d]))) (h : Q d (C.set n (a, .lst ds))) : pPop (.raw (.ref a)) C Q := ⟨n, a, ds, d, rfl, h1, h⟩
theorem ite2M {c : Prop} [Decidable c] {A B : Prop} (h1 : c → A) (h2 : ¬ c → B) : if c then A else B := by
  by_cases h : c
  · rw [if_pos h]; exact h1 h
  · rw [if_neg h]; exact h2 h
theorem ifT {A B : Prop} (h : A) : if (true : Bool) = true then A else B := h
theorem ifPos {b : Bool} {A B : Prop} (e : b = true) (h : A) : if b = true then A else B := by rw [if_pos e]; exact h
theorem ifNeg {b : Bool} {A B : Prop} (e : b = false) (h : B) : if b = true then A else B := by rw [if_neg (by rw [e]; decide)]; exact h
theorem ifPosN {b : Bool} {A B : Prop} (e : b = false) (h : A) : if (!b) = true then A else B := by rw [if_pos (by rw [e]; rfl)]; exact h
theorem ifNegN {b : Bool} {A B : Prop} (e : b = true) (h : B) : if (!b) = true then A else B := by rw [if_neg (by rw [e]; decide)]; exact h
theorem ifF {A B : Prop} (h : B) : if (false : Bool) = true then A else B := by rw [if_neg (by decide)]; exact h
end
end Tr
namespace Tr
open PySem L2 PySem.Spec PyProof.Rows
theorem drop_id {C : Cells} {d : D} {Q : QE} (h : Q d C) : ∃ C' r, C.Perm (C' ++ r) ∧ Q d C' := ⟨C, [], by simp, h⟩
theorem drop_one {a : Addr} {c : Cell} {C : Cells} {d : D} {Q : QE} (h : Q d C) : ∃ C' r, ((a, c) :: C).Perm (C' ++ r) ∧ Q d C' := ⟨C, [(a, c)], List.perm_append_comm (l₁ := [_]), h⟩
end Tr
namespace Tr
open PySem L2 PySem.Spec PyProof.Rows
theorem if_val {b : Bool} {A B : ME} {C : Cells} {Q : QE} (v : D) (h1 : b = true → ∀ Q : QE, Q v C → A C Q) (h2 : b = false → ∀ Q : QE, Q v C → B C Q) (q : Q v C) : if b = true then A C Q else B C Q := by
  cases b with
  | true => exact h1 rfl _ q
  | false => exact h2 rfl _ q
def isStr : D → Bool
  | .str _ => true
  | _ => false
def strOf : D → Str
  | .str s => s
  | _ => Str.empty
structure AnyD (K : W.Frag) (C : Cells) (d : D) : Prop where
  ty : ∃ t, TyD K C d t ∧ W.kitOne K t (.type "str") = some (isStr d)
  ln : (strOf d).length ≤ 100000
def SqA (K : W.Frag) (C : Cells) (d : D) (b : Bool) : Prop := ∃ t, TyD K C d t ∧ W.kitAny K t [.type "list", .type "tuple"] = some b
theorem any_str {K : W.Frag} {C : Cells} {s : Str} (h : s.length ≤ 100000) : AnyD K C (.str s) := ⟨⟨_, .str s, kit_ty (show kitB "str" "str" = some true by decide +kernel)⟩, h⟩
theorem txt_join (s : Str) (ys : List Str) : Txt.join s ys = Str.join s ys := StrLaws.glued_eq_join s ys
theorem txt_join_len (s : Str) (ys : List Str) : (Txt.join s ys).length ≤ (ys.map (·.length)).sum + ys.length * s.length := by
  rw [txt_join]; exact StrLaws.join_length_le s ys
theorem str_len0 : Str.empty.length = 0 := rfl
theorem seq_ty {K : W.Frag} {C : Cells} {d : D} {xs : List D} (h : SeqD C d xs) : ∃ t, TyD K C d t ∧ W.kitAny K t [.type "list", .type "tuple"] = some true := by
  have kl : W.kitOne K (.type "list") (.type "list") = some true := kit_ty (by decide +kernel)
  have kt : W.kitOne K (.type "tuple") (.type "tuple") = some true := kit_ty (by decide +kernel)
  have klt : W.kitOne K (.type "tuple") (.type "list") = some false := kit_ty (by decide +kernel)
  rcases h with (rfl | ⟨a, rfl, hm⟩) | rfl
  · exact ⟨_, .lst _, kitAny_cons (b := true) kl (fun h => by cases h) (fun _ => rfl)⟩
  · exact ⟨_, .cl hm, kitAny_cons (b := true) kl (fun h => by cases h) (fun _ => rfl)⟩
  · exact ⟨_, .tup _, kitAny_cons (b := false) klt (fun _ => kitAny_cons (b := true) kt (fun h => by cases h) (fun _ => rfl)) (fun h => by cases h)⟩
theorem sq_seq {K : W.Frag} {C : Cells} {d : D} {xs : List D} (h : SeqD C d xs) : SqA K C d true := seq_ty h
theorem s_isSq {K : W.Frag} {C : Cells} {d : D} {b : Bool} {Q : QE} (h : SqA K C d b) (q : Q (.bl b) C) : on2 (pIsI K) [d, .tup [.raw (.ty "list"), .raw (.ty "tuple")]] C Q :=
  let ⟨_, h1, h2⟩ := h
  s_isiT (.cons (.ty _) (.cons (.ty _) .nil)) h1 h2 q
theorem s_isStr {K : W.Frag} {C : Cells} {d : D} {Q : QE} (h : AnyD K C d) (q : Q (.bl (isStr d)) C) : on2 (pIsI K) [d, .raw (.ty "str")] C Q :=
  let ⟨_, h1, h2⟩ := h.ty
  s_isi (.ty _) h1 h2 q
theorem tyD_sub {K : W.Frag} {C C' : Cells} {d : D} {t : Value} (s : ∀ x ∈ C, x ∈ C') (h : TyD K C d t) : TyD K C' d t := by
  cases h with
  | non => exact .non
  | bl => exact .bl _
  | int => exact .int _
  | str => exact .str _
  | lst => exact .lst _
  | tup => exact .tup _
  | ins h => exact .ins h
  | cl h => exact .cl (s _ h)
  | ci h hc => exact .ci (s _ h) hc
theorem sqA_sub {K : W.Frag} {C C' : Cells} {d : D} {b : Bool} (s : ∀ x ∈ C, x ∈ C') (h : SqA K C d b) : SqA K C' d b := let ⟨t, h1, h2⟩ := h; ⟨t, tyD_sub s h1, h2⟩
theorem lstD_sub {C C' : Cells} {d : D} {xs : List D} (s : ∀ x ∈ C, x ∈ C') (h : LstD C d xs) : LstD C' d xs := by
  rcases h with h | ⟨a, h, hm⟩
  · exact .inl h
  · exact .inr ⟨a, h, s _ hm⟩
theorem seqD_sub {C C' : Cells} {d : D} {xs : List D} (s : ∀ x ∈ C, x ∈ C') (h : SeqD C d xs) : SeqD C' d xs := by
  rcases h with h | h
  · exact .inl (lstD_sub s h)
  · exact .inr h
theorem anyD_sub {K : W.Frag} {C C' : Cells} {d : D} (s : ∀ x ∈ C, x ∈ C') (h : AnyD K C d) : AnyD K C' d := ⟨let ⟨t, h1, h2⟩ := h.ty; ⟨t, tyD_sub s h1, h2⟩, h.ln⟩
theorem seqD_tail {C' : Cells} {z c : Addr} {ns : List Str} {fs : List D} {d : D} {xs : List D} (h : SeqD ((z, .ins c ns fs) :: C') d xs) : SeqD C' d xs := by
  rcases h with (h | ⟨a, h, hm⟩) | h
  · exact .inl (.inl h)
  · rcases List.mem_cons.mp hm with e | hm
    · cases e
    · exact .inl (.inr ⟨a, h, hm⟩)
  · exact .inr h
theorem seqD_ins {C' : Cells} {z c : Addr} {ns ns' : List Str} {fs fs' : List D} {d : D} {xs : List D} (h : SeqD ((z, .ins c ns fs) :: C') d xs) : SeqD ((z, .ins c ns' fs') :: C') d xs := seqD_sub (fun _ h => List.mem_cons_of_mem _ h) (seqD_tail h)
theorem atI_in {α : Type} {l : List α} {k : Int} (h0 : 0 ≤ k) (h1 : k < l.length) : ∃ d, atI l k = some d ∧ d ∈ l := by
  unfold atI ixN
  rw [if_pos h0, if_pos h1]
  have h : k.toNat < l.length := by omega
  exact ⟨l[k.toNat], by simp [h], List.getElem_mem h⟩
theorem atI_map {α β : Type} (f : α → β) {l : List α} {k : Int} {x : α} (h : atI l k = some x) : atI (l.map f) k = some (f x) := by
  unfold atI at h ⊢
  rw [List.length_map]
  cases e : ixN l.length k with
  | none => rw [e] at h; cases h
  | some j =>
    rw [e] at h
    have h' : l[j]? = some x := h
    show (l.map f)[j]? = some (f x)
    rw [List.getElem?_map, h']; rfl
theorem atI_last {α : Type} {l : List α} {x : α} : atI (l ++ [x]) (-1) = some x := by
  unfold atI ixN
  rw [List.length_append, List.length_singleton, if_neg (by decide), if_pos (by omega)]
  show (l ++ [x])[((-1 : Int) + ((l.length + 1 : Nat) : Int)).toNat]? = some x
  rw [show ((-1 : Int) + ((l.length + 1 : Nat) : Int)).toNat = l.length by omega]
  simp
theorem s_ix_at {α : Type} {C : Cells} {Q : QE} {l : List α} {g : α → D} {k : Int} (h0 : 0 ≤ k) (h1 : k < l.length) (q : ∀ a ∈ l, Q (g a) C) : pIx (.lst (l.map g)) (.int k) C Q := by
  obtain ⟨a, e, hm⟩ := atI_in (l := l) h0 h1
  exact s_ix_lst (atI_map g e) (q a hm)
theorem callN_all {F : FS} {ds : List D} {C : Cells} {Q : QE} (h : F ds C Q fun _ _ _ => False) : callN F ds C Q := ⟨C, [], by simp, by simpa using h⟩
end Tr
namespace Tr
open PySem L2 PySem.Spec PyProof.Rows
theorem lcB_mapD {C : Cells} {P : Cells → Prop} {f : D → ME} {Q : QE} {ds : List D} (h : D → D) (hp : P C) (hf : ∀ d ∈ ds, ∀ k : QE, k (h d) C → f d C k) (hl : ds.length ≤ 100000) (q : Q (.lst (ds.map h)) C) : lcB P f Q ds [] C := by
  have := lcB_map (P := P) (f := f) (Q := Q) (l := ds) id h hp hf hl q
  rwa [List.map_id] at this
end Tr
namespace Tr
open PySem L2 PySem.Spec PyProof.Rows
theorem lays {k : Nat} : ∀ {ds : List D}, (∀ d ∈ ds, plainD d = true ∧ (toPy d).canLay0 = true ∧ (toPy d).depth ≤ k) → plainDs ds = true ∧ PyData.canLayAll0 (toPys ds) = true ∧ PyData.depthAll (toPys ds) ≤ k
  | [], _ => ⟨rfl, rfl, Nat.zero_le _⟩
  | d :: ds, h => by
    obtain ⟨a, b, c⟩ := h d List.mem_cons_self
    obtain ⟨a2, b2, c2⟩ := lays fun d hd => h d (List.mem_cons_of_mem _ hd)
    refine ⟨by unfold plainDs; rw [a, a2]; rfl, by rw [toPys, PyData.canLayAll0, b, b2]; rfl, ?_⟩
    rw [toPys, PyData.depthAll]
    omega
end Tr

set_option maxHeartbeats 4000000
namespace Kk
open PySem L2 PySem.Spec PyProof.Rows Tr
theorem sc_is_sequence : FnScope ["value"] ["value"] (defScope s_is_sequence) := ⟨rfl, rfl, rfl, by decide +kernel, rfl, by decide +kernel, by decide +kernel⟩
theorem sc_fits_letter : FnScope ["word", "letter"] ["word", "letter"] (defScope s_fits_letter) := ⟨rfl, rfl, rfl, by decide +kernel, rfl, by decide +kernel, by decide +kernel⟩
theorem sc_is_test : FnScope ["value", "letter", "word"] ["value", "letter"] (defScope s_is_test) := ⟨rfl, rfl, rfl, by decide +kernel, rfl, by decide +kernel, by decide +kernel⟩
theorem sc_is_deed : FnScope ["value", "letter"] ["value", "letter"] (defScope s_is_deed) := ⟨rfl, rfl, rfl, by decide +kernel, rfl, by decide +kernel, by decide +kernel⟩
theorem sc__law_deal : FnScope ["_law_script", "_law_base", "_law_cells", "_law_blend", "_law_cell"] ["_law_script", "_law_base"] (defScope s__law_deal) := ⟨rfl, rfl, rfl, by decide +kernel, rfl, by decide +kernel, by decide +kernel⟩
theorem sc__law_draw : FnScope ["_law_deal_here", "_law_amount", "_law_left"] ["_law_deal_here", "_law_amount"] (defScope s__law_draw) := ⟨rfl, rfl, rfl, by decide +kernel, rfl, by decide +kernel, by decide +kernel⟩
theorem sc__law_row : FnScope ["_law_deal_here", "_law_letter", "_law_tests", "_law_deeds", "_law_some", "_law_turn", "_law_test"] ["_law_deal_here"] (defScope s__law_row) := ⟨rfl, rfl, rfl, by decide +kernel, rfl, by decide +kernel, by decide +kernel⟩
theorem sc__law_row_text : FnScope ["_law_row_here", "_law_letter", "_law_tests", "_law_deeds", "_law_words"] ["_law_row_here"] (defScope s__law_row_text) := ⟨rfl, rfl, rfl, by decide +kernel, rfl, by decide +kernel, by decide +kernel⟩
theorem sc__law_heard : FnScope ["_law_text", "_law_found", "e"] ["_law_text"] (defScope s__law_heard) := ⟨rfl, rfl, rfl, by decide +kernel, rfl, by decide +kernel, by decide +kernel⟩
theorem sc__law_is_text : FnScope ["_law_text", "_law_words", "_law_tests", "_law_deeds", "_law_at", "_law_going"] ["_law_text"] (defScope s__law_is_text) := ⟨rfl, rfl, rfl, by decide +kernel, rfl, by decide +kernel, by decide +kernel⟩
theorem sc__law_bent : FnScope ["_law_deal_here", "_law_text", "_law_words", "_law_form", "_law_at", "_law_odd", "_law_one"] ["_law_deal_here", "_law_text"] (defScope s__law_bent) := ⟨rfl, rfl, rfl, by decide +kernel, rfl, by decide +kernel, by decide +kernel⟩
theorem sc_law : FnScope ["_law_script", "_law_deal_here", "_law_turn", "_law_letter", "_law_tests", "_law_deeds", "_law_text", "_law_odd"] ["_law_script"] (defScope s_law) := ⟨rfl, rfl, rfl, by decide +kernel, rfl, by decide +kernel, by decide +kernel⟩
theorem sc_Row_init : FnScope ["self", "letter", "tests", "deeds", "test", "deed"] ["self", "letter", "tests", "deeds"] (defScope s_Row_init) := ⟨rfl, rfl, rfl, by decide +kernel, rfl, by decide +kernel, by decide +kernel⟩
theorem sc_Row_read : FnScope ["cls", "text", "head", "mark", "tail", "letter", "sign", "rest", "tests", "row", "e"] ["cls", "text"] (defScope s_Row_read) := ⟨rfl, rfl, rfl, by decide +kernel, rfl, by decide +kernel, by decide +kernel⟩
theorem sc_Row_str : FnScope ["self", "tests", "deeds"] ["self"] (defScope s_Row_str) := ⟨rfl, rfl, rfl, by decide +kernel, rfl, by decide +kernel, by decide +kernel⟩
theorem sup_InvalidRow {P : Program} {K : W.Frag} {mg : Str → Option Value} {c_InvalidRow f_InvalidRow_init cda_InvalidRow cc_InvalidRow N_InvalidRow : Addr} {nm_InvalidRow qn_InvalidRow : Str} {bs_InvalidRow bm_InvalidRow sub_InvalidRow : List Value} {sn_InvalidRow : List Str} {ab_InvalidRow : Bool} {col_InvalidRow : Option Bool} {dd_InvalidRow od_InvalidRow an_InvalidRow cdd_InvalidRow cld_InvalidRow : Option Addr} {k0_InvalidRow k1_InvalidRow k2_InvalidRow k3_InvalidRow k5_InvalidRow : Option Value} {oc_InvalidRow kV_InvalidRow dc_InvalidRow pm_InvalidRow ct_InvalidRow ccl_InvalidRow cl0_InvalidRow : Value} {sl_InvalidRow ccs_InvalidRow csl_InvalidRow : Array (Option Value)} {vs_InvalidRow : Array Value} {file_InvalidRow : Str} {tf_InvalidRow : Tok}
    (lc : K.lookup c_InvalidRow = some (excClassObj nm_InvalidRow qn_InvalidRow c_InvalidRow N_InvalidRow bs_InvalidRow bm_InvalidRow true sn_InvalidRow sub_InvalidRow ab_InvalidRow col_InvalidRow dd_InvalidRow k0_InvalidRow k1_InvalidRow k2_InvalidRow k3_InvalidRow k5_InvalidRow "ValueError.__new__")) (rv : W.excTail [.type "ValueError", .type "Exception", .type "BaseException", .type "object"] bm_InvalidRow = true) (sa : W.findIn K (.ref c_InvalidRow) "__setattr__" = some (some (.builtin "object.__setattr__"))) (no : W.findIn K (.ref c_InvalidRow) "word" = some none)
    (lf : K.lookup f_InvalidRow_init = some ⟨oc_InvalidRow, od_InvalidRow, .func (W.ksFn "__init__" "InvalidRow.__init__" (defArgs s_InvalidRow_init) (defBody s_InvalidRow_init) (defScope s_InvalidRow_init) .none kV_InvalidRow dc_InvalidRow pm_InvalidRow an_InvalidRow (.ref cda_InvalidRow) ct_InvalidRow cc_InvalidRow), sl_InvalidRow⟩) (lcd : K.lookup cda_InvalidRow = some ⟨ccl_InvalidRow, cdd_InvalidRow, .fields vs_InvalidRow, ccs_InvalidRow⟩) (hv : vs_InvalidRow[2]? = some (.str file_InvalidRow tf_InvalidRow)) (hf : ((P.main.file : Str) == file_InvalidRow) = true) (ci : W.codeIn K (.ref cda_InvalidRow) "InvalidRow.__init__" = true)
    (lcc : K.lookup cc_InvalidRow = some ⟨cl0_InvalidRow, cld_InvalidRow, .cell (some (.ref c_InvalidRow)), csl_InvalidRow⟩) (zs : mg "super" = none) (zt : (P.main.scope.names.lookup ("super" : Str)).isSome = false) (za : W.nsIn K cStatics "thirdparty.any" = some none) (si : W.ks_superIn K c_InvalidRow c_InvalidRow "__init__" = some (some (.builtin "ValueError.__init__"))) (sv : W.subIn K (.ref c_InvalidRow) (.type "ValueError") = some true) :
    SupRun P K mg c_InvalidRow f_InvalidRow_init "word" := fun w A R hp g d t os mb a t0 v X hg hb hbb hlim hroom ha hKa hq =>
  sup_init (selfN := "self") (argN := "word") xf_ValueError X hg hb hbb hlim lc rv sa no lf lcd hv hf ci lcc zs (by rfl) (by rfl) (by rfl) (by rfl) (by rfl) (by decide) (by rfl) (by rfl) (by rfl) (by rfl) (by decide +kernel) (by rfl) (by rfl) (fun s => BindsTo.of_eq (by rfl)) zt za si sv (by rfl) hroom (fun _ => by rfl) (fun _ => by rfl) (fun _ => by rfl) _ (fun _ => by rfl) ha hKa hq
theorem sup_InvalidText {P : Program} {K : W.Frag} {mg : Str → Option Value} {c_InvalidText f_InvalidText_init cda_InvalidText cc_InvalidText N_InvalidText : Addr} {nm_InvalidText qn_InvalidText : Str} {bs_InvalidText bm_InvalidText sub_InvalidText : List Value} {sn_InvalidText : List Str} {ab_InvalidText : Bool} {col_InvalidText : Option Bool} {dd_InvalidText od_InvalidText an_InvalidText cdd_InvalidText cld_InvalidText : Option Addr} {k0_InvalidText k1_InvalidText k2_InvalidText k3_InvalidText k5_InvalidText : Option Value} {oc_InvalidText kV_InvalidText dc_InvalidText pm_InvalidText ct_InvalidText ccl_InvalidText cl0_InvalidText : Value} {sl_InvalidText ccs_InvalidText csl_InvalidText : Array (Option Value)} {vs_InvalidText : Array Value} {file_InvalidText : Str} {tf_InvalidText : Tok}
    (lc : K.lookup c_InvalidText = some (excClassObj nm_InvalidText qn_InvalidText c_InvalidText N_InvalidText bs_InvalidText bm_InvalidText true sn_InvalidText sub_InvalidText ab_InvalidText col_InvalidText dd_InvalidText k0_InvalidText k1_InvalidText k2_InvalidText k3_InvalidText k5_InvalidText "ValueError.__new__")) (rv : W.excTail [.type "ValueError", .type "Exception", .type "BaseException", .type "object"] bm_InvalidText = true) (sa : W.findIn K (.ref c_InvalidText) "__setattr__" = some (some (.builtin "object.__setattr__"))) (no : W.findIn K (.ref c_InvalidText) "at" = some none)
    (lf : K.lookup f_InvalidText_init = some ⟨oc_InvalidText, od_InvalidText, .func (W.ksFn "__init__" "InvalidText.__init__" (defArgs s_InvalidText_init) (defBody s_InvalidText_init) (defScope s_InvalidText_init) .none kV_InvalidText dc_InvalidText pm_InvalidText an_InvalidText (.ref cda_InvalidText) ct_InvalidText cc_InvalidText), sl_InvalidText⟩) (lcd : K.lookup cda_InvalidText = some ⟨ccl_InvalidText, cdd_InvalidText, .fields vs_InvalidText, ccs_InvalidText⟩) (hv : vs_InvalidText[2]? = some (.str file_InvalidText tf_InvalidText)) (hf : ((P.main.file : Str) == file_InvalidText) = true) (ci : W.codeIn K (.ref cda_InvalidText) "InvalidText.__init__" = true)
    (lcc : K.lookup cc_InvalidText = some ⟨cl0_InvalidText, cld_InvalidText, .cell (some (.ref c_InvalidText)), csl_InvalidText⟩) (zs : mg "super" = none) (zt : (P.main.scope.names.lookup ("super" : Str)).isSome = false) (za : W.nsIn K cStatics "thirdparty.any" = some none) (si : W.ks_superIn K c_InvalidText c_InvalidText "__init__" = some (some (.builtin "ValueError.__init__"))) (sv : W.subIn K (.ref c_InvalidText) (.type "ValueError") = some true) :
    SupRun P K mg c_InvalidText f_InvalidText_init "at" := fun w A R hp g d t os mb a t0 v X hg hb hbb hlim hroom ha hKa hq =>
  sup_init (selfN := "self") (argN := "at") xf_ValueError X hg hb hbb hlim lc rv sa no lf lcd hv hf ci lcc zs (by rfl) (by rfl) (by rfl) (by rfl) (by rfl) (by decide) (by rfl) (by rfl) (by rfl) (by rfl) (by decide +kernel) (by rfl) (by rfl) (fun s => BindsTo.of_eq (by rfl)) zt za si sv (by rfl) hroom (fun _ => by rfl) (fun _ => by rfl) (fun _ => by rfl) _ (fun _ => by rfl) ha hKa hq
structure Tp0 (prog : Program) (K : W.Frag) (mg : Str → Option Value) where
  c_Row : Addr
  f_is_sequence : Addr
  d_is_sequence : FuncData
  f_fits_letter : Addr
  d_fits_letter : FuncData
  f_is_test : Addr
  d_is_test : FuncData
  f_is_deed : Addr
  d_is_deed : FuncData
  f__law_deal : Addr
  d__law_deal : FuncData
  f__law_draw : Addr
  d__law_draw : FuncData
  f__law_row : Addr
  d__law_row : FuncData
  f__law_row_text : Addr
  d__law_row_text : FuncData
  f__law_heard : Addr
  d__law_heard : FuncData
  f__law_is_text : Addr
  d__law_is_text : FuncData
  f__law_bent : Addr
  d__law_bent : FuncData
  f_law : Addr
  d_law : FuncData
  f_Row_init : Addr
  d_Row_init : FuncData
  f_Row_read : Addr
  d_Row_read : FuncData
  f_Row_eq : Addr
  d_Row_eq : FuncData
  f_Row_str : Addr
  d_Row_str : FuncData
  a_LETTERS : Addr
  a_TESTS : Addr
  a_DEEDS : Addr
  a_OF_ANSWERS : Addr
  e_Row_init_0 : Addr
  e_Row_init_1 : Addr
  i_Row : ClsI K c_Row
  g_Row : mg "Row" = some (.ref c_Row)
  na_Row_letter : NoAttr K c_Row "letter"
  na_Row_tests : NoAttr K c_Row "tests"
  na_Row_deeds : NoAttr K c_Row "deeds"
  isi_Row_list : W.kitOne K (.type "list") (.ref c_Row) = some false
  isi_Row_tuple : W.kitOne K (.type "tuple") (.ref c_Row) = some false
  isi_Row_str : W.kitOne K (.type "str") (.ref c_Row) = some false
  isi_Row_int : W.kitOne K (.type "int") (.ref c_Row) = some false
  isi_Row_bool : W.kitOne K (.type "bool") (.ref c_Row) = some false
  isi_Row_NoneType : W.kitOne K (.type "NoneType") (.ref c_Row) = some false
structure Tp1 (prog : Program) (K : W.Frag) (mg : Str → Option Value) extends Tp0 prog K mg where
  kin_Row_list : W.kitOne K (.ref c_Row) (.type "list") = some false
  kin_Row_tuple : W.kitOne K (.ref c_Row) (.type "tuple") = some false
  kin_Row_str : W.kitOne K (.ref c_Row) (.type "str") = some false
  kin_Row_int : W.kitOne K (.ref c_Row) (.type "int") = some false
  kin_Row_bool : W.kitOne K (.ref c_Row) (.type "bool") = some false
  nf_Row_Row : W.notFirst K c_Row (.ref c_Row) = true
  nf_Row_list : W.notFirst K c_Row (.type "list") = true
  nf_Row_tuple : W.notFirst K c_Row (.type "tuple") = true
  nf_Row_str : W.notFirst K c_Row (.type "str") = true
  nf_Row_int : W.notFirst K c_Row (.type "int") = true
  nf_Row_bool : W.notFirst K c_Row (.type "bool") = true
  nf_Row_NoneType : W.notFirst K c_Row (.type "NoneType") = true
  ne_Row : W.findIn K (.ref c_Row) "__ne__" = some (some (.builtin "object.__ne__"))
  g_is_sequence : mg "is_sequence" = some (.ref f_is_sequence)
  F_is_sequence : FunD K "is_sequence" "is_sequence" (defArgs s_is_sequence) (defBody s_is_sequence) (defScope s_is_sequence) [] [] f_is_sequence d_is_sequence
  b_is_sequence : Binds K d_is_sequence ["value"] []
  g_fits_letter : mg "fits_letter" = some (.ref f_fits_letter)
  F_fits_letter : FunD K "fits_letter" "fits_letter" (defArgs s_fits_letter) (defBody s_fits_letter) (defScope s_fits_letter) [] [] f_fits_letter d_fits_letter
  b_fits_letter : Binds K d_fits_letter ["word", "letter"] []
  g_is_test : mg "is_test" = some (.ref f_is_test)
  F_is_test : FunD K "is_test" "is_test" (defArgs s_is_test) (defBody s_is_test) (defScope s_is_test) [] [] f_is_test d_is_test
  b_is_test : Binds K d_is_test ["value", "letter"] []
  g_is_deed : mg "is_deed" = some (.ref f_is_deed)
  F_is_deed : FunD K "is_deed" "is_deed" (defArgs s_is_deed) (defBody s_is_deed) (defScope s_is_deed) [] [] f_is_deed d_is_deed
  b_is_deed : Binds K d_is_deed ["value", "letter"] []
  g__law_deal : mg "_law_deal" = some (.ref f__law_deal)
  F__law_deal : FunD K "_law_deal" "_law_deal" (defArgs s__law_deal) (defBody s__law_deal) (defScope s__law_deal) [] [] f__law_deal d__law_deal
  b__law_deal : Binds K d__law_deal ["_law_script", "_law_base"] []
  g__law_draw : mg "_law_draw" = some (.ref f__law_draw)
  F__law_draw : FunD K "_law_draw" "_law_draw" (defArgs s__law_draw) (defBody s__law_draw) (defScope s__law_draw) [] [] f__law_draw d__law_draw
  b__law_draw : Binds K d__law_draw ["_law_deal_here", "_law_amount"] []
  g__law_row : mg "_law_row" = some (.ref f__law_row)
  F__law_row : FunD K "_law_row" "_law_row" (defArgs s__law_row) (defBody s__law_row) (defScope s__law_row) [] [] f__law_row d__law_row
  b__law_row : Binds K d__law_row ["_law_deal_here"] []
  g__law_row_text : mg "_law_row_text" = some (.ref f__law_row_text)
  F__law_row_text : FunD K "_law_row_text" "_law_row_text" (defArgs s__law_row_text) (defBody s__law_row_text) (defScope s__law_row_text) [] [] f__law_row_text d__law_row_text
  b__law_row_text : Binds K d__law_row_text ["_law_row_here"] []
  g__law_heard : mg "_law_heard" = some (.ref f__law_heard)
  F__law_heard : FunD K "_law_heard" "_law_heard" (defArgs s__law_heard) (defBody s__law_heard) (defScope s__law_heard) [] [] f__law_heard d__law_heard
  b__law_heard : Binds K d__law_heard ["_law_text"] []
  g__law_is_text : mg "_law_is_text" = some (.ref f__law_is_text)
  F__law_is_text : FunD K "_law_is_text" "_law_is_text" (defArgs s__law_is_text) (defBody s__law_is_text) (defScope s__law_is_text) [] [] f__law_is_text d__law_is_text
  b__law_is_text : Binds K d__law_is_text ["_law_text"] []
  g__law_bent : mg "_law_bent" = some (.ref f__law_bent)
  F__law_bent : FunD K "_law_bent" "_law_bent" (defArgs s__law_bent) (defBody s__law_bent) (defScope s__law_bent) [] [] f__law_bent d__law_bent
  b__law_bent : Binds K d__law_bent ["_law_deal_here", "_law_text"] []
  g_law : mg "law" = some (.ref f_law)
  F_law : FunD K "law" "law" (defArgs s_law) (defBody s_law) (defScope s_law) [] [] f_law d_law
  b_law : Binds K d_law ["_law_script"] []
  mk_Row : Mk K c_Row f_Row_init
structure Tp2 (prog : Program) (K : W.Frag) (mg : Str → Option Value) extends Tp1 prog K mg where
  F_Row_init : FunD K "__init__" "Row.__init__" (defArgs s_Row_init) (defBody s_Row_init) (defScope s_Row_init) [.ref e_Row_init_0, .ref e_Row_init_1] [] f_Row_init d_Row_init
  b_Row_init : Binds K d_Row_init ["self", "letter", "tests", "deeds"] []
  b0_Row_init : ∃ ds, Vals [.ref e_Row_init_0, .ref e_Row_init_1] ds ∧ Binds K d_Row_init ["self", "letter", "tests", "deeds"] ds
  b1_Row_init : ∃ ds, Vals [.ref e_Row_init_1] ds ∧ Binds K d_Row_init ["self", "letter", "tests", "deeds"] ds
  m_Row_read : CMetT K c_Row "read" f_Row_read
  F_Row_read : FunD K "read" "Row.read" (defArgs s_Row_read) (defBody s_Row_read) (defScope s_Row_read) [] [] f_Row_read d_Row_read
  b_Row_read : Binds K d_Row_read ["cls", "text"] []
  m_Row_eq : W.findIn K (.ref c_Row) "__eq__" = some (some (.ref f_Row_eq))
  n_Row_eq : W.isFn K (.ref f_Row_eq) = true
  F_Row_eq : FunD K "__eq__" "Row.__eq__" (defArgs s_Row_eq) (defBody s_Row_eq) (defScope s_Row_eq) [] [] f_Row_eq d_Row_eq
  b_Row_eq : Binds K d_Row_eq ["self", "other"] []
  m_Row_str : W.findIn K (.ref c_Row) "__str__" = some (some (.ref f_Row_str))
  n_Row_str : W.isFn K (.ref f_Row_str) = true
  F_Row_str : FunD K "__str__" "Row.__str__" (defArgs s_Row_str) (defBody s_Row_str) (defScope s_Row_str) [] [] f_Row_str d_Row_str
  b_Row_str : Binds K d_Row_str ["self"] []
  c_HastyError : Addr
  g_HastyError : mg "HastyError" = some (.ref c_HastyError)
  c_InvalidRow : Addr
  g_InvalidRow : mg "InvalidRow" = some (.ref c_InvalidRow)
  xf_InvalidRow : XfC K c_InvalidRow
  xc_InvalidRow : ExcC K c_InvalidRow
  na_InvalidRow_word : W.findIn K (.ref c_InvalidRow) "word" = some none
  x_InvalidRow : XCls prog K mg c_InvalidRow "word"
  c_InvalidText : Addr
  g_InvalidText : mg "InvalidText" = some (.ref c_InvalidText)
  xf_InvalidText : XfC K c_InvalidText
  xc_InvalidText : ExcC K c_InvalidText
  na_InvalidText_at : W.findIn K (.ref c_InvalidText) "at" = some none
  x_InvalidText : XCls prog K mg c_InvalidText "at"
  exm_InvalidText_InvalidText : W.exmOne K (.ref c_InvalidText) (.ref c_InvalidText) = some true
  exm_InvalidRow_InvalidRow : W.exmOne K (.ref c_InvalidRow) (.ref c_InvalidRow) = some true
  exm_InvalidText_HastyError : W.exmOne K (.ref c_InvalidText) (.ref c_HastyError) = some true
  isx_InvalidRow_HastyError : W.kitOne K (.ref c_InvalidRow) (.ref c_HastyError) = some true
  isx_InvalidText_HastyError : W.kitOne K (.ref c_InvalidText) (.ref c_HastyError) = some true
  z_abs : mg "abs" = none
  z_all : mg "all" = none
  z_int : mg "int" = none
  z_isinstance : mg "isinstance" = none
  z_len : mg "len" = none
  z_list : mg "list" = none
  z_range : mg "range" = none
  z_str : mg "str" = none
  z_tuple : mg "tuple" = none
  g_LETTERS : mg "LETTERS" = some (.ref a_LETTERS)
  r_LETTERS : ∀ H : Hp, Rep K H (.tup (cst_LETTERS.map D.str)) (.ref a_LETTERS)
  g_TESTS : mg "TESTS" = some (.ref a_TESTS)
  r_TESTS : ∀ H : Hp, Rep K H (.tup (cst_TESTS.map D.str)) (.ref a_TESTS)
  g_DEEDS : mg "DEEDS" = some (.ref a_DEEDS)
  r_DEEDS : ∀ H : Hp, Rep K H (.tup (cst_DEEDS.map D.str)) (.ref a_DEEDS)
  g_OF_ANSWERS : mg "OF_ANSWERS" = some (.ref a_OF_ANSWERS)
structure Tp (prog : Program) (K : W.Frag) (mg : Str → Option Value) extends Tp2 prog K mg where
  r_OF_ANSWERS : ∀ H : Hp, Rep K H (.tup (cst_OF_ANSWERS.map D.str)) (.ref a_OF_ANSWERS)
  re_Row_init_0 : ∀ H : Hp, Rep K H (.tup []) (.ref e_Row_init_0)
  re_Row_init_1 : ∀ H : Hp, Rep K H (.tup []) (.ref e_Row_init_1)
theorem tp_fa {P : Program} {K : W.Frag} {mg : Str → Option Value} {fa : Addr} (h : mg "law" = some (.ref fa)) (T : Nonempty (Tp P K mg)) : ∃ T : Tp P K mg, T.f_law = fa := by
  obtain ⟨T⟩ := T
  refine ⟨T, ?_⟩
  have e := h.symm.trans T.g_law
  cases e
  rfl
theorem law_binds {P : Program} {K : W.Frag} {mg : Str → Option Value} (T : Tp P K mg) (s : Shared) (u : Value) : BindsTo s T.d_law ⟨[u], []⟩ [("_law_script", u)] := T.F_law.bindsA (ps := ["_law_script"]) (fun _ _ _ _ _ _ us hl => match us, hl with | [_], _ => rfl) s [u] rfl
end Kk

set_option maxHeartbeats 0
namespace Kk
open PySem L2 PySem.Spec PyProof.Rows Tr
theorem tp_of {K : W.Frag} {h : Heap} {mg : Str → Option Value} (X : K.In h) (G : h.Ns mainGlobals mg) (c : SaysX chs dfs K) : Nonempty (Tp PySem.Challenge.pw_hastypage_k12_texts_of_rows K mg) := by
  have cnn := of_decide_eq_true (c.t 0 0 rfl rfl)
  have ctt := of_decide_eq_true (c.t 0 1 rfl rfl)
  have a_Row := of_decide_eq_true (c.t 0 2 rfl rfl)
  have pg_Row := of_decide_eq_true (c.t 0 3 rfl rfl)
  have hd_Row := of_decide_eq_true (c.t 0 4 rfl rfl)
  have po_Row := of_decide_eq_true (c.t 0 5 rfl rfl)
  have sa_Row := of_decide_eq_true (c.t 0 6 rfl rfl)
  have ca_Row := of_decide_eq_true (c.t 0 7 rfl rfl)
  have cm_Row := of_decide_eq_true (c.t 0 8 rfl rfl)
  have na_Row_letter := of_decide_eq_true (c.t 0 9 rfl rfl)
  have na_Row_tests := of_decide_eq_true (c.t 0 10 rfl rfl)
  have na_Row_deeds := of_decide_eq_true (c.t 0 11 rfl rfl)
  have ss_Row_list := of_decide_eq_true (c.t 0 12 rfl rfl)
  have ss_Row_tuple := of_decide_eq_true (c.t 0 13 rfl rfl)
  have ss_Row_str := of_decide_eq_true (c.t 0 14 rfl rfl)
  have ss_Row_int := of_decide_eq_true (c.t 0 15 rfl rfl)
  have ss_Row_bool := of_decide_eq_true (c.t 0 16 rfl rfl)
  have ss_Row_NoneType := of_decide_eq_true (c.t 0 17 rfl rfl)
  have sk_Row_list := of_decide_eq_true (c.t 0 18 rfl rfl)
  have sk_Row_tuple := of_decide_eq_true (c.t 0 19 rfl rfl)
  have sk_Row_str := of_decide_eq_true (c.t 0 20 rfl rfl)
  have sk_Row_int := of_decide_eq_true (c.t 0 21 rfl rfl)
  have sk_Row_bool := of_decide_eq_true (c.t 0 22 rfl rfl)
  obtain ⟨cd_Row, cl_Row⟩ := clsT_ok (c.t 0 23 rfl rfl)
  have ty_Row := of_decide_eq_true (c.t 0 24 rfl rfl)
  have nf_Row_Row := of_decide_eq_true (c.t 0 25 rfl rfl)
  have nf_Row_list := of_decide_eq_true (c.t 0 26 rfl rfl)
  have nf_Row_tuple := of_decide_eq_true (c.t 0 27 rfl rfl)
  have nf_Row_str := of_decide_eq_true (c.t 0 28 rfl rfl)
  have nf_Row_int := of_decide_eq_true (c.t 0 29 rfl rfl)
  have nf_Row_bool := of_decide_eq_true (c.t 1 0 rfl rfl)
  have nf_Row_NoneType := of_decide_eq_true (c.t 1 1 rfl rfl)
  have ne_Row := of_decide_eq_true (c.t 1 2 rfl rfl)
  have a_is_sequence := of_decide_eq_true (c.t 1 3 rfl rfl)
  obtain ⟨d_is_sequence, lx_is_sequence⟩ := Df.funD (d := df_is_sequence) (c.d 0 rfl).1 (c.d 0 rfl).2 rfl
  have l_is_sequence : FunD K "is_sequence" "is_sequence" (defArgs s_is_sequence) (defBody s_is_sequence) (defScope s_is_sequence) [] [] (Xf_is_sequence K) d_is_sequence := lx_is_sequence
  have k_is_sequence := of_decide_eq_true (c.t 1 4 rfl rfl)
  have a_fits_letter := of_decide_eq_true (c.t 1 5 rfl rfl)
  obtain ⟨d_fits_letter, lx_fits_letter⟩ := Df.funD (d := df_fits_letter) (c.d 1 rfl).1 (c.d 1 rfl).2 rfl
  have l_fits_letter : FunD K "fits_letter" "fits_letter" (defArgs s_fits_letter) (defBody s_fits_letter) (defScope s_fits_letter) [] [] (Xf_fits_letter K) d_fits_letter := lx_fits_letter
  have k_fits_letter := of_decide_eq_true (c.t 1 6 rfl rfl)
  have a_is_test := of_decide_eq_true (c.t 1 7 rfl rfl)
  obtain ⟨d_is_test, lx_is_test⟩ := Df.funD (d := df_is_test) (c.d 2 rfl).1 (c.d 2 rfl).2 rfl
  have l_is_test : FunD K "is_test" "is_test" (defArgs s_is_test) (defBody s_is_test) (defScope s_is_test) [] [] (Xf_is_test K) d_is_test := lx_is_test
  have k_is_test := of_decide_eq_true (c.t 1 8 rfl rfl)
  have a_is_deed := of_decide_eq_true (c.t 1 9 rfl rfl)
  obtain ⟨d_is_deed, lx_is_deed⟩ := Df.funD (d := df_is_deed) (c.d 3 rfl).1 (c.d 3 rfl).2 rfl
  have l_is_deed : FunD K "is_deed" "is_deed" (defArgs s_is_deed) (defBody s_is_deed) (defScope s_is_deed) [] [] (Xf_is_deed K) d_is_deed := lx_is_deed
  have k_is_deed := of_decide_eq_true (c.t 1 10 rfl rfl)
  have a__law_deal := of_decide_eq_true (c.t 1 11 rfl rfl)
  obtain ⟨d__law_deal, lx__law_deal⟩ := Df.funD (d := df__law_deal) (c.d 4 rfl).1 (c.d 4 rfl).2 rfl
  have l__law_deal : FunD K "_law_deal" "_law_deal" (defArgs s__law_deal) (defBody s__law_deal) (defScope s__law_deal) [] [] (Xf__law_deal K) d__law_deal := lx__law_deal
  have k__law_deal := of_decide_eq_true (c.t 1 12 rfl rfl)
  have a__law_draw := of_decide_eq_true (c.t 1 13 rfl rfl)
  obtain ⟨d__law_draw, lx__law_draw⟩ := Df.funD (d := df__law_draw) (c.d 5 rfl).1 (c.d 5 rfl).2 rfl
  have l__law_draw : FunD K "_law_draw" "_law_draw" (defArgs s__law_draw) (defBody s__law_draw) (defScope s__law_draw) [] [] (Xf__law_draw K) d__law_draw := lx__law_draw
  have k__law_draw := of_decide_eq_true (c.t 1 14 rfl rfl)
  have a__law_row := of_decide_eq_true (c.t 1 15 rfl rfl)
  obtain ⟨d__law_row, lx__law_row⟩ := Df.funD (d := df__law_row) (c.d 6 rfl).1 (c.d 6 rfl).2 rfl
  have l__law_row : FunD K "_law_row" "_law_row" (defArgs s__law_row) (defBody s__law_row) (defScope s__law_row) [] [] (Xf__law_row K) d__law_row := lx__law_row
  have k__law_row := of_decide_eq_true (c.t 1 16 rfl rfl)
  have a__law_row_text := of_decide_eq_true (c.t 1 17 rfl rfl)
  obtain ⟨d__law_row_text, lx__law_row_text⟩ := Df.funD (d := df__law_row_text) (c.d 7 rfl).1 (c.d 7 rfl).2 rfl
  have l__law_row_text : FunD K "_law_row_text" "_law_row_text" (defArgs s__law_row_text) (defBody s__law_row_text) (defScope s__law_row_text) [] [] (Xf__law_row_text K) d__law_row_text := lx__law_row_text
  have k__law_row_text := of_decide_eq_true (c.t 1 18 rfl rfl)
  have a__law_heard := of_decide_eq_true (c.t 1 19 rfl rfl)
  obtain ⟨d__law_heard, lx__law_heard⟩ := Df.funD (d := df__law_heard) (c.d 8 rfl).1 (c.d 8 rfl).2 rfl
  have l__law_heard : FunD K "_law_heard" "_law_heard" (defArgs s__law_heard) (defBody s__law_heard) (defScope s__law_heard) [] [] (Xf__law_heard K) d__law_heard := lx__law_heard
  have k__law_heard := of_decide_eq_true (c.t 1 20 rfl rfl)
  have a__law_is_text := of_decide_eq_true (c.t 1 21 rfl rfl)
  obtain ⟨d__law_is_text, lx__law_is_text⟩ := Df.funD (d := df__law_is_text) (c.d 9 rfl).1 (c.d 9 rfl).2 rfl
  have l__law_is_text : FunD K "_law_is_text" "_law_is_text" (defArgs s__law_is_text) (defBody s__law_is_text) (defScope s__law_is_text) [] [] (Xf__law_is_text K) d__law_is_text := lx__law_is_text
  have k__law_is_text := of_decide_eq_true (c.t 1 22 rfl rfl)
  have a__law_bent := of_decide_eq_true (c.t 1 23 rfl rfl)
  obtain ⟨d__law_bent, lx__law_bent⟩ := Df.funD (d := df__law_bent) (c.d 10 rfl).1 (c.d 10 rfl).2 rfl
  have l__law_bent : FunD K "_law_bent" "_law_bent" (defArgs s__law_bent) (defBody s__law_bent) (defScope s__law_bent) [] [] (Xf__law_bent K) d__law_bent := lx__law_bent
  have k__law_bent := of_decide_eq_true (c.t 1 24 rfl rfl)
  have a_law := of_decide_eq_true (c.t 1 25 rfl rfl)
  obtain ⟨d_law, lx_law⟩ := Df.funD (d := df_law) (c.d 11 rfl).1 (c.d 11 rfl).2 rfl
  have l_law : FunD K "law" "law" (defArgs s_law) (defBody s_law) (defScope s_law) [] [] (Xf_law K) d_law := lx_law
  have k_law := of_decide_eq_true (c.t 1 26 rfl rfl)
  have a_Row_init := of_decide_eq_true (c.t 1 27 rfl rfl)
  have n_Row_init := of_decide_eq_true (c.t 1 28 rfl rfl)
  have mm_Row := of_decide_eq_true (c.t 1 29 rfl rfl)
  have kc_Row := of_decide_eq_true (c.t 2 0 rfl rfl)
  obtain ⟨d_Row_init, lx_Row_init⟩ := Df.funD (d := df_Row_init) (c.d 12 rfl).1 (c.d 12 rfl).2 rfl
  have l_Row_init : FunD K "__init__" "Row.__init__" (defArgs s_Row_init) (defBody s_Row_init) (defScope s_Row_init) [.ref (Xe_Row_init_0 K), .ref (Xe_Row_init_1 K)] [] (Xf_Row_init K) d_Row_init := lx_Row_init
  have k_Row_init := of_decide_eq_true (c.t 2 1 rfl rfl)
  have cr_Row_read := of_decide_eq_true (c.t 2 2 rfl rfl)
  have cg_Row_read := of_decide_eq_true (c.t 2 3 rfl rfl)
  obtain ⟨ca_Row_read, rs_Row_read, rc_Row_read⟩ := cmT_ok (c.t 2 4 rfl rfl)
  have fi_Row_read := of_decide_eq_true (c.t 2 5 rfl rfl)
  obtain ⟨d_Row_read, lx_Row_read⟩ := Df.funD (d := df_Row_read) (c.d 13 rfl).1 (c.d 13 rfl).2 rfl
  have l_Row_read : FunD K "read" "Row.read" (defArgs s_Row_read) (defBody s_Row_read) (defScope s_Row_read) [] [] (Xf_Row_read K) d_Row_read := lx_Row_read
  have k_Row_read := of_decide_eq_true (c.t 2 6 rfl rfl)
  have a_Row_eq := of_decide_eq_true (c.t 2 7 rfl rfl)
  have n_Row_eq := of_decide_eq_true (c.t 2 8 rfl rfl)
  obtain ⟨d_Row_eq, lx_Row_eq⟩ := Df.funD (d := df_Row_eq) (c.d 14 rfl).1 (c.d 14 rfl).2 rfl
  have l_Row_eq : FunD K "__eq__" "Row.__eq__" (defArgs s_Row_eq) (defBody s_Row_eq) (defScope s_Row_eq) [] [] (Xf_Row_eq K) d_Row_eq := lx_Row_eq
  have k_Row_eq := of_decide_eq_true (c.t 2 9 rfl rfl)
  have a_Row_str := of_decide_eq_true (c.t 2 10 rfl rfl)
  have n_Row_str := of_decide_eq_true (c.t 2 11 rfl rfl)
  obtain ⟨d_Row_str, lx_Row_str⟩ := Df.funD (d := df_Row_str) (c.d 15 rfl).1 (c.d 15 rfl).2 rfl
  have l_Row_str : FunD K "__str__" "Row.__str__" (defArgs s_Row_str) (defBody s_Row_str) (defScope s_Row_str) [] [] (Xf_Row_str K) d_Row_str := lx_Row_str
  have k_Row_str := of_decide_eq_true (c.t 2 12 rfl rfl)
  have a_HastyError := of_decide_eq_true (c.t 2 13 rfl rfl)
  obtain ⟨cd_HastyError, cl_HastyError⟩ := clsT_ok (c.t 2 14 rfl rfl)
  have ty_HastyError := of_decide_eq_true (c.t 2 15 rfl rfl)
  have zt_super : (PySem.Challenge.pw_hastypage_k12_texts_of_rows.main.scope.names.lookup ("super" : Str)).isSome = false := by first | rfl | decide +kernel
  have zz_super := of_decide_eq_true (c.t 2 16 rfl rfl)
  have zz_any := of_decide_eq_true (c.t 2 17 rfl rfl)
  have a_InvalidRow := of_decide_eq_true (c.t 2 18 rfl rfl)
  obtain ⟨nm_InvalidRow, qn_InvalidRow, N_InvalidRow, bs_InvalidRow, bm_InvalidRow, sn_InvalidRow, sub_InvalidRow, ab_InvalidRow, col_InvalidRow, dd_InvalidRow, k0_InvalidRow, k1_InvalidRow, k2_InvalidRow, k3_InvalidRow, k5_InvalidRow, lc_InvalidRow, rv_InvalidRow⟩ := excT_ok (c.t 2 19 rfl rfl)
  have sa_InvalidRow := of_decide_eq_true (c.t 2 20 rfl rfl)
  have ex_InvalidRow := of_decide_eq_true (c.t 2 21 rfl rfl)
  have ty_InvalidRow := of_decide_eq_true (c.t 2 22 rfl rfl)
  have kc_InvalidRow := of_decide_eq_true (c.t 2 23 rfl rfl)
  have ga_InvalidRow := of_decide_eq_true (c.t 2 24 rfl rfl)
  have gg_InvalidRow := of_decide_eq_true (c.t 2 25 rfl rfl)
  have hd_InvalidRow := of_decide_eq_true (c.t 2 26 rfl rfl)
  have ca_InvalidRow := of_decide_eq_true (c.t 2 27 rfl rfl)
  have cm_InvalidRow := of_decide_eq_true (c.t 2 28 rfl rfl)
  have na_InvalidRow_word := of_decide_eq_true (c.t 2 29 rfl rfl)
  have ai_InvalidRow := of_decide_eq_true (c.t 3 0 rfl rfl)
  have ti_InvalidRow := of_decide_eq_true (c.t 3 1 rfl rfl)
  obtain ⟨oc_InvalidRow, od_InvalidRow, kV_InvalidRow, dc_InvalidRow, pm_InvalidRow, an_InvalidRow, ct_InvalidRow, sl_InvalidRow, lfx_InvalidRow, cix_InvalidRow⟩ := Df.sup (d := df_InvalidRow_init) (c.d 16 rfl).1 (c.d 16 rfl).2 rfl rfl (c.t 3 2 rfl rfl)
  have lf_InvalidRow : K.lookup (Xf_InvalidRow_init K) = some ⟨oc_InvalidRow, od_InvalidRow, .func (W.ksFn "__init__" "InvalidRow.__init__" (defArgs s_InvalidRow_init) (defBody s_InvalidRow_init) (defScope s_InvalidRow_init) .none kV_InvalidRow dc_InvalidRow pm_InvalidRow an_InvalidRow (.ref (Xcda_InvalidRow K)) ct_InvalidRow (Xcc_InvalidRow K)), sl_InvalidRow⟩ := lfx_InvalidRow
  have ci_InvalidRow : W.codeIn K (.ref (Xcda_InvalidRow K)) "InvalidRow.__init__" = true := cix_InvalidRow
  obtain ⟨ccl_InvalidRow, cdd_InvalidRow, vs_InvalidRow, ccs_InvalidRow, tf_InvalidRow, ld_InvalidRow, hv_InvalidRow⟩ := filT_ok (f := PySem.Challenge.pw_hastypage_k12_texts_of_rows.main.file) (c.t 3 3 rfl rfl)
  have hf_InvalidRow : ((PySem.Challenge.pw_hastypage_k12_texts_of_rows.main.file : Str) == PySem.Challenge.pw_hastypage_k12_texts_of_rows.main.file) = true := beq_self_eq_true _
  obtain ⟨cl0_InvalidRow, cld_InvalidRow, csl_InvalidRow, lk_InvalidRow⟩ := celT_ok (c.t 3 4 rfl rfl)
  have si_InvalidRow := of_decide_eq_true (c.t 3 5 rfl rfl)
  have sv_InvalidRow := of_decide_eq_true (c.t 3 6 rfl rfl)
  have a_InvalidText := of_decide_eq_true (c.t 3 7 rfl rfl)
  obtain ⟨nm_InvalidText, qn_InvalidText, N_InvalidText, bs_InvalidText, bm_InvalidText, sn_InvalidText, sub_InvalidText, ab_InvalidText, col_InvalidText, dd_InvalidText, k0_InvalidText, k1_InvalidText, k2_InvalidText, k3_InvalidText, k5_InvalidText, lc_InvalidText, rv_InvalidText⟩ := excT_ok (c.t 3 8 rfl rfl)
  have sa_InvalidText := of_decide_eq_true (c.t 3 9 rfl rfl)
  have ex_InvalidText := of_decide_eq_true (c.t 3 10 rfl rfl)
  have ty_InvalidText := of_decide_eq_true (c.t 3 11 rfl rfl)
  have kc_InvalidText := of_decide_eq_true (c.t 3 12 rfl rfl)
  have ga_InvalidText := of_decide_eq_true (c.t 3 13 rfl rfl)
  have gg_InvalidText := of_decide_eq_true (c.t 3 14 rfl rfl)
  have hd_InvalidText := of_decide_eq_true (c.t 3 15 rfl rfl)
  have ca_InvalidText := of_decide_eq_true (c.t 3 16 rfl rfl)
  have cm_InvalidText := of_decide_eq_true (c.t 3 17 rfl rfl)
  have na_InvalidText_at := of_decide_eq_true (c.t 3 18 rfl rfl)
  have ai_InvalidText := of_decide_eq_true (c.t 3 19 rfl rfl)
  have ti_InvalidText := of_decide_eq_true (c.t 3 20 rfl rfl)
  obtain ⟨oc_InvalidText, od_InvalidText, kV_InvalidText, dc_InvalidText, pm_InvalidText, an_InvalidText, ct_InvalidText, sl_InvalidText, lfx_InvalidText, cix_InvalidText⟩ := Df.sup (d := df_InvalidText_init) (c.d 17 rfl).1 (c.d 17 rfl).2 rfl rfl (c.t 3 21 rfl rfl)
  have lf_InvalidText : K.lookup (Xf_InvalidText_init K) = some ⟨oc_InvalidText, od_InvalidText, .func (W.ksFn "__init__" "InvalidText.__init__" (defArgs s_InvalidText_init) (defBody s_InvalidText_init) (defScope s_InvalidText_init) .none kV_InvalidText dc_InvalidText pm_InvalidText an_InvalidText (.ref (Xcda_InvalidText K)) ct_InvalidText (Xcc_InvalidText K)), sl_InvalidText⟩ := lfx_InvalidText
  have ci_InvalidText : W.codeIn K (.ref (Xcda_InvalidText K)) "InvalidText.__init__" = true := cix_InvalidText
  obtain ⟨ccl_InvalidText, cdd_InvalidText, vs_InvalidText, ccs_InvalidText, tf_InvalidText, ld_InvalidText, hv_InvalidText⟩ := filT_ok (f := PySem.Challenge.pw_hastypage_k12_texts_of_rows.main.file) (c.t 3 22 rfl rfl)
  have hf_InvalidText : ((PySem.Challenge.pw_hastypage_k12_texts_of_rows.main.file : Str) == PySem.Challenge.pw_hastypage_k12_texts_of_rows.main.file) = true := beq_self_eq_true _
  obtain ⟨cl0_InvalidText, cld_InvalidText, csl_InvalidText, lk_InvalidText⟩ := celT_ok (c.t 3 23 rfl rfl)
  have si_InvalidText := of_decide_eq_true (c.t 3 24 rfl rfl)
  have sv_InvalidText := of_decide_eq_true (c.t 3 25 rfl rfl)
  have su_InvalidText_InvalidText := of_decide_eq_true (c.t 3 26 rfl rfl)
  have su_InvalidRow_InvalidRow := of_decide_eq_true (c.t 3 27 rfl rfl)
  have ex_HastyError := of_decide_eq_true (c.t 3 28 rfl rfl)
  have hd_HastyError := of_decide_eq_true (c.t 3 29 rfl rfl)
  have su_InvalidText_HastyError := of_decide_eq_true (c.t 4 0 rfl rfl)
  have su_InvalidRow_HastyError := of_decide_eq_true (c.t 4 1 rfl rfl)
  have nq_InvalidRow_HastyError := of_decide_eq_true (c.t 4 2 rfl rfl)
  have nq_InvalidText_HastyError := of_decide_eq_true (c.t 4 3 rfl rfl)
  have z_abs := of_decide_eq_true (c.t 4 4 rfl rfl)
  have z_all := of_decide_eq_true (c.t 4 5 rfl rfl)
  have z_int := of_decide_eq_true (c.t 4 6 rfl rfl)
  have z_isinstance := of_decide_eq_true (c.t 4 7 rfl rfl)
  have z_len := of_decide_eq_true (c.t 4 8 rfl rfl)
  have z_list := of_decide_eq_true (c.t 4 9 rfl rfl)
  have z_range := of_decide_eq_true (c.t 4 10 rfl rfl)
  have z_str := of_decide_eq_true (c.t 4 11 rfl rfl)
  have z_tuple := of_decide_eq_true (c.t 4 12 rfl rfl)
  have a_nLETTERS := of_decide_eq_true (c.t 4 13 rfl rfl)
  have l_LETTERS : ∀ H : Hp, Rep K H (.tup (cst_LETTERS.map D.str)) (.ref (Xa_LETTERS K)) := tupT_ok (c.t 4 14 rfl rfl)
  have a_nTESTS := of_decide_eq_true (c.t 4 15 rfl rfl)
  have l_TESTS : ∀ H : Hp, Rep K H (.tup (cst_TESTS.map D.str)) (.ref (Xa_TESTS K)) := tupT_ok (c.t 4 16 rfl rfl)
  have a_nDEEDS := of_decide_eq_true (c.t 4 17 rfl rfl)
  have l_DEEDS : ∀ H : Hp, Rep K H (.tup (cst_DEEDS.map D.str)) (.ref (Xa_DEEDS K)) := tupT_ok (c.t 4 18 rfl rfl)
  have a_nOF_ANSWERS := of_decide_eq_true (c.t 4 19 rfl rfl)
  have l_OF_ANSWERS : ∀ H : Hp, Rep K H (.tup (cst_OF_ANSWERS.map D.str)) (.ref (Xa_OF_ANSWERS K)) := tupT_ok (c.t 4 20 rfl rfl)
  have le_Row_init_0 : ∀ H : Hp, Rep K H (.tup []) (.ref (Xe_Row_init_0 K)) := tupT_ok (ss := []) (c.t 4 21 rfl rfl)
  have le_Row_init_1 : ∀ H : Hp, Rep K H (.tup []) (.ref (Xe_Row_init_1 K)) := tupT_ok (ss := []) (c.t 4 22 rfl rfl)
  exact ⟨{
       c_Row := Xc_Row K, c_HastyError := Xc_HastyError K, c_InvalidRow := Xc_InvalidRow K, c_InvalidText := Xc_InvalidText K, f_is_sequence := Xf_is_sequence K, f_fits_letter := Xf_fits_letter K, f_is_test := Xf_is_test K, f_is_deed := Xf_is_deed K, f__law_deal := Xf__law_deal K, f__law_draw := Xf__law_draw K, f__law_row := Xf__law_row K, f__law_row_text := Xf__law_row_text K, f__law_heard := Xf__law_heard K, f__law_is_text := Xf__law_is_text K, f__law_bent := Xf__law_bent K, f_law := Xf_law K, f_Row_init := Xf_Row_init K, f_Row_read := Xf_Row_read K, f_Row_eq := Xf_Row_eq K, f_Row_str := Xf_Row_str K, d_is_sequence := d_is_sequence, d_fits_letter := d_fits_letter, d_is_test := d_is_test, d_is_deed := d_is_deed, d__law_deal := d__law_deal, d__law_draw := d__law_draw, d__law_row := d__law_row, d__law_row_text := d__law_row_text, d__law_heard := d__law_heard, d__law_is_text := d__law_is_text, d__law_bent := d__law_bent, d_law := d_law, d_Row_init := d_Row_init, d_Row_read := d_Row_read, d_Row_eq := d_Row_eq, d_Row_str := d_Row_str, a_LETTERS := Xa_LETTERS K, a_TESTS := Xa_TESTS K, a_DEEDS := Xa_DEEDS K, a_OF_ANSWERS := Xa_OF_ANSWERS K, e_Row_init_0 := Xe_Row_init_0 K, e_Row_init_1 := Xe_Row_init_1 K,
       i_Row := ⟨⟨pg_Row, hd_Row, po_Row, sa_Row⟩, ca_Row, cnn, ctt, cm_Row⟩,
       g_Row := W.mg_of X G a_Row,
       na_Row_letter := na_Row_letter,
       na_Row_tests := na_Row_tests,
       na_Row_deeds := na_Row_deeds,
       isi_Row_list := kit_ref cl_Row ty_Row ss_Row_list (by first | rfl | decide | (exact bne_of (by decide))),
       isi_Row_tuple := kit_ref cl_Row ty_Row ss_Row_tuple (by first | rfl | decide | (exact bne_of (by decide))),
       isi_Row_str := kit_ref cl_Row ty_Row ss_Row_str (by first | rfl | decide | (exact bne_of (by decide))),
       isi_Row_int := kit_ref cl_Row ty_Row ss_Row_int (by first | rfl | decide | (exact bne_of (by decide))),
       isi_Row_bool := kit_ref cl_Row ty_Row ss_Row_bool (by first | rfl | decide | (exact bne_of (by decide))),
       isi_Row_NoneType := kit_ref cl_Row ty_Row ss_Row_NoneType (by first | rfl | decide | (exact bne_of (by decide))),
       kin_Row_list := kit_tyF sk_Row_list (by decide +kernel),
       kin_Row_tuple := kit_tyF sk_Row_tuple (by decide +kernel),
       kin_Row_str := kit_tyF sk_Row_str (by decide +kernel),
       kin_Row_int := kit_tyF sk_Row_int (by decide +kernel),
       kin_Row_bool := kit_tyF sk_Row_bool (by decide +kernel),
       nf_Row_Row := nf_Row_Row,
       nf_Row_list := nf_Row_list,
       nf_Row_tuple := nf_Row_tuple,
       nf_Row_str := nf_Row_str,
       nf_Row_int := nf_Row_int,
       nf_Row_bool := nf_Row_bool,
       nf_Row_NoneType := nf_Row_NoneType,
       ne_Row := ne_Row,
       g_is_sequence := W.mg_of X G a_is_sequence,
       F_is_sequence := l_is_sequence,
       b_is_sequence := l_is_sequence.bindsN fun _ _ _ _ _ _ us hl => match us, hl with | [_], _ => rfl,
       g_fits_letter := W.mg_of X G a_fits_letter,
       F_fits_letter := l_fits_letter,
       b_fits_letter := l_fits_letter.bindsN fun _ _ _ _ _ _ us hl => match us, hl with | [_, _], _ => rfl,
       g_is_test := W.mg_of X G a_is_test,
       F_is_test := l_is_test,
       b_is_test := l_is_test.bindsN fun _ _ _ _ _ _ us hl => match us, hl with | [_, _], _ => rfl,
       g_is_deed := W.mg_of X G a_is_deed,
       F_is_deed := l_is_deed,
       b_is_deed := l_is_deed.bindsN fun _ _ _ _ _ _ us hl => match us, hl with | [_, _], _ => rfl,
       g__law_deal := W.mg_of X G a__law_deal,
       F__law_deal := l__law_deal,
       b__law_deal := l__law_deal.bindsN fun _ _ _ _ _ _ us hl => match us, hl with | [_, _], _ => rfl,
       g__law_draw := W.mg_of X G a__law_draw,
       F__law_draw := l__law_draw,
       b__law_draw := l__law_draw.bindsN fun _ _ _ _ _ _ us hl => match us, hl with | [_, _], _ => rfl,
       g__law_row := W.mg_of X G a__law_row,
       F__law_row := l__law_row,
       b__law_row := l__law_row.bindsN fun _ _ _ _ _ _ us hl => match us, hl with | [_], _ => rfl,
       g__law_row_text := W.mg_of X G a__law_row_text,
       F__law_row_text := l__law_row_text,
       b__law_row_text := l__law_row_text.bindsN fun _ _ _ _ _ _ us hl => match us, hl with | [_], _ => rfl,
       g__law_heard := W.mg_of X G a__law_heard,
       F__law_heard := l__law_heard,
       b__law_heard := l__law_heard.bindsN fun _ _ _ _ _ _ us hl => match us, hl with | [_], _ => rfl,
       g__law_is_text := W.mg_of X G a__law_is_text,
       F__law_is_text := l__law_is_text,
       b__law_is_text := l__law_is_text.bindsN fun _ _ _ _ _ _ us hl => match us, hl with | [_], _ => rfl,
       g__law_bent := W.mg_of X G a__law_bent,
       F__law_bent := l__law_bent,
       b__law_bent := l__law_bent.bindsN fun _ _ _ _ _ _ us hl => match us, hl with | [_, _], _ => rfl,
       g_law := W.mg_of X G a_law,
       F_law := l_law,
       b_law := l_law.bindsN fun _ _ _ _ _ _ us hl => match us, hl with | [_], _ => rfl,
       mk_Row := ⟨mm_Row, a_Row_init, n_Row_init, kc_Row⟩,
       F_Row_init := l_Row_init,
       b_Row_init := binds_all (ps := ["self", "letter", "tests", "deeds"]) l_Row_init 4 rfl (by simp) fun _ _ _ _ _ _ _ us its hu hi => match us, its, hu, hi with | [_, _, _, _], [_, _], _, _ => ⟨_, rfl, rfl⟩,
       b0_Row_init := l_Row_init.binds1 (ps := ["self", "letter", "tests", "deeds"]) 2 0 (by simp) rfl fun _ _ _ _ _ _ _ us its hu hi => match us, its, hu, hi with | [_, _], [_, _], _, _ => ⟨_, rfl, rfl⟩,
       b1_Row_init := l_Row_init.binds1 (ps := ["self", "letter", "tests", "deeds"]) 3 1 (by simp) rfl fun _ _ _ _ _ _ _ us its hu hi => match us, its, hu, hi with | [_, _, _], [_, _], _, _ => ⟨_, rfl, rfl⟩,
       m_Row_read := ⟨_, _, ⟨cr_Row_read, cg_Row_read⟩, ca_Row_read, ⟨_, rc_Row_read⟩, fi_Row_read⟩,
       F_Row_read := l_Row_read,
       b_Row_read := l_Row_read.bindsN fun _ _ _ _ _ _ us hl => match us, hl with | [_, _], _ => rfl,
       m_Row_eq := a_Row_eq,
       n_Row_eq := n_Row_eq,
       F_Row_eq := l_Row_eq,
       b_Row_eq := l_Row_eq.bindsN fun _ _ _ _ _ _ us hl => match us, hl with | [_, _], _ => rfl,
       m_Row_str := a_Row_str,
       n_Row_str := n_Row_str,
       F_Row_str := l_Row_str,
       b_Row_str := l_Row_str.bindsN fun _ _ _ _ _ _ us hl => match us, hl with | [_], _ => rfl,
       g_HastyError := W.mg_of X G a_HastyError,
       g_InvalidRow := W.mg_of X G a_InvalidRow,
       xf_InvalidRow := ⟨ga_InvalidRow, gg_InvalidRow, ex_InvalidRow, hd_InvalidRow⟩,
       xc_InvalidRow := ⟨ga_InvalidRow, gg_InvalidRow, ex_InvalidRow, hd_InvalidRow, ca_InvalidRow, cnn, ctt, cm_InvalidRow⟩,
       na_InvalidRow_word := na_InvalidRow_word,
       x_InvalidRow := ⟨⟨_, _, _, _, xf_ValueError, ⟨⟨_, _, _, _, _, _, _, _, _, _, _, _, _, _, _, lc_InvalidRow, rv_InvalidRow⟩, sa_InvalidRow, ex_InvalidRow, ty_InvalidRow, kc_InvalidRow⟩⟩, _, ai_InvalidRow, ti_InvalidRow, sup_InvalidRow lc_InvalidRow rv_InvalidRow sa_InvalidRow na_InvalidRow_word lf_InvalidRow ld_InvalidRow hv_InvalidRow hf_InvalidRow ci_InvalidRow lk_InvalidRow (W.mg_none_of X G zz_super) zt_super zz_any si_InvalidRow sv_InvalidRow⟩,
       g_InvalidText := W.mg_of X G a_InvalidText,
       xf_InvalidText := ⟨ga_InvalidText, gg_InvalidText, ex_InvalidText, hd_InvalidText⟩,
       xc_InvalidText := ⟨ga_InvalidText, gg_InvalidText, ex_InvalidText, hd_InvalidText, ca_InvalidText, cnn, ctt, cm_InvalidText⟩,
       na_InvalidText_at := na_InvalidText_at,
       x_InvalidText := ⟨⟨_, _, _, _, xf_ValueError, ⟨⟨_, _, _, _, _, _, _, _, _, _, _, _, _, _, _, lc_InvalidText, rv_InvalidText⟩, sa_InvalidText, ex_InvalidText, ty_InvalidText, kc_InvalidText⟩⟩, _, ai_InvalidText, ti_InvalidText, sup_InvalidText lc_InvalidText rv_InvalidText sa_InvalidText na_InvalidText_at lf_InvalidText ld_InvalidText hv_InvalidText hf_InvalidText ci_InvalidText lk_InvalidText (W.mg_none_of X G zz_super) zt_super zz_any si_InvalidText sv_InvalidText⟩,
       exm_InvalidText_InvalidText := W.exm_ref ex_InvalidText hd_InvalidText ty_InvalidText su_InvalidText_InvalidText,
       exm_InvalidRow_InvalidRow := W.exm_ref ex_InvalidRow hd_InvalidRow ty_InvalidRow su_InvalidRow_InvalidRow,
       exm_InvalidText_HastyError := W.exm_ref ex_HastyError hd_HastyError ty_HastyError su_InvalidText_HastyError,
       isx_InvalidRow_HastyError := kit_ref cl_HastyError ty_HastyError su_InvalidRow_HastyError nq_InvalidRow_HastyError,
       isx_InvalidText_HastyError := kit_ref cl_HastyError ty_HastyError su_InvalidText_HastyError nq_InvalidText_HastyError,
       z_abs := W.mg_none_of X G z_abs,
       z_all := W.mg_none_of X G z_all,
       z_int := W.mg_none_of X G z_int,
       z_isinstance := W.mg_none_of X G z_isinstance,
       z_len := W.mg_none_of X G z_len,
       z_list := W.mg_none_of X G z_list,
       z_range := W.mg_none_of X G z_range,
       z_str := W.mg_none_of X G z_str,
       z_tuple := W.mg_none_of X G z_tuple,
       g_LETTERS := W.mg_of X G a_nLETTERS,
       r_LETTERS := l_LETTERS,
       g_TESTS := W.mg_of X G a_nTESTS,
       r_TESTS := l_TESTS,
       g_DEEDS := W.mg_of X G a_nDEEDS,
       r_DEEDS := l_DEEDS,
       g_OF_ANSWERS := W.mg_of X G a_nOF_ANSWERS,
       r_OF_ANSWERS := l_OF_ANSWERS,
       re_Row_init_0 := le_Row_init_0,
       re_Row_init_1 := le_Row_init_1
     }⟩
theorem law_of (hL : ∀ {P : Program} {w : World} {K : W.Frag} {mg : Str → Option Value} {base : Heap} (T : Tp P K mg), FnG P w K mg base 12 T.f_law T.d_law ["_law_script"] lawFS) : PySem.Challenge.rw_hastypage_k12_texts_of_rows.Holds := by
  w_on; o_law
  refine HandSHeadRun.head_any (r := W.OpenLaw.row PySem.Challenge.rw_hastypage_k12_texts_of_rows) (q := W.view PySem.Challenge.pw_hastypage_k12_texts_of_rows [23]) (H := Kk.hk) (ob := Tr.obX Kk.asL Kk.chs Kk.dfs) (M := 30000) (loose := Kk.nms) (d := HandSHeadRun.topDef PySem.Challenge.pw_hastypage_k12_texts_of_rows 23) (kwd := []) (Tr.obX_eq Kk.asL Kk.chs Kk.dfs)
    (by kernel_rfl) (fun s => by kernel_rfl) Kk.run (by kernel_rfl) (by kernel_rfl) (by kernel_rfl) (by rfl) (by first | assumption | decide +kernel) (by decide +kernel) ⟨rfl, rfl, rfl, rfl, rfl, by decide +kernel⟩ ?hw ?hc
  case hw => w_witness2
  case hc =>
    refine Tr.law_walkX (l := PySem.Challenge.rw_hastypage_k12_texts_of_rows) (k := 12) (x := "_law_script") rfl (by kernel_rfl) ⟨⟨rfl, by decide, by decide⟩, rfl⟩ ?F
    intro w mg fa h K KX c G hmg0
    have hmg : mg ("law" : PySem.Str) = some (.ref fa) := by
      have e : (HandSHeadRun.topDef PySem.Challenge.pw_hastypage_k12_texts_of_rows 23).name = ("law" : PySem.Str) := by kernel_rfl
      rw [← e]
      exact hmg0
    obtain ⟨T, eT⟩ := Kk.tp_fa hmg (Kk.tp_of KX G c)
    subst eT
    exact ⟨T.d_law, Kk.law_binds T, fun base _ _ => hL T⟩
end Kk

set_option maxHeartbeats 4000000
namespace Kk
open PySem L2 PySem.Spec PyProof.Rows Tr
set_option hygiene false
local macro_rules | `(tactic| walk_at "le") => `(tactic| repeat (first | exact LeR.nil | refine LeR.keep ?_ | refine LeR.drop ?_))
section
variable {P : Program} {w : World} {K : W.Frag} {mg : Str → Option Value} {base : Heap}
def w__law_deal_a2 (T : Tp P K mg) (x_cells : D) (Qx : QX) (Q : QE) (s1 : D) : MB := mRet (eDrop (eArgs (aCons (eApp (eLc1 (iApp (eVal x_cells) pIter) (fun x_cell1 => (tBin (eVal x_cell1) (eBin (eVal (.int 10)) (eVal (.int 18)) oPow) oGe)) (fun x_cell1 => (eVal x_cell1))) pRevC) (aCons (eVal s1) aNil)) pLstC)) Q
def w__law_deal_l1 (T : Tp P K mg)  (Qx : QX) (Q : QE) (d1 : D) (s1 : D) (nx1 : (D) → MB) (bk1 : (D) → MB) : MB := mSet (eBin (eArgs (aCons (eBin (eBin (eVal s1) (eVal (.int 16807)) oMul) (eBin (eArgs (aCons (eVal d1) aNil) (on1 pInt1)) (eVal (.int 2147483629)) oMod) oAdd) aNil) (on1 pInt1)) (eVal (.int 2147483647)) oMod) fun x_blend1 => mPart (nx1 x_blend1)
def w__law_deal (T : Tp P K mg) (x_script x_base : D) (Qx : QX) (Q : QE) : MB := mSet (eLc (iApp (eSl (eVal x_script) (oSome (eVal x_base)) (oSome (eVal (.int 63)))) pIter) (fun x_cell => (eArgs (aCons (eVal x_cell) aNil) (on1 pAbs1)))) fun x_cells => mSet (eBin (eVal (.int 15485863)) (eBin (eVal (.int 11)) (eVal x_base) oMul) oAdd) fun x_blend => mFor (α := D) (iApp (eVal x_cells) pIter) (w__law_deal_l1 T Qx Q) x_blend (w__law_deal_a2 T x_cells Qx Q)
def fw__law_deal (T : Tp P K mg) : FS := fun ds C Q Qx => match ds with
  | [x_script, x_base] => w__law_deal T x_script x_base Qx Q C
  | _ => False
theorem ok__law_deal (T : Tp P K mg) : FnG P w K mg base 1 T.f__law_deal T.d__law_deal ["_law_script", "_law_base"] (fw__law_deal T) := by
  refine fnT T.F__law_deal sc__law_deal (fun ds C Q Qx h => ?_) (fun cdv A outer s H E X ds C Q hr h => ?_)
  · unfold fw__law_deal at h; split at h
    · rfl
    · exact h.elim
  · unfold fw__law_deal at h; split at h
    rotate_left
    · exact h.elim
    have hN := sc__law_deal.nd
    have hu := hu_G hr
    have hg := hr.gd
    rename_i x_script x_base
    generalize hQx : (fun cls fs C' => ∀ ρ, X.XQ cls fs ρ C' : QX) = Qx at h
    have hX : ∀ ρ cls fs C, Qx cls fs C → X.XQ cls fs ρ C := by subst hQx; exact fun ρ cls fs C h => h ρ
    clear hQx
    revert h; revert C
    show SB X _ [some x_script, some x_base, none, none, none] (w__law_deal T x_script x_base Qx Q) _
    unfold w__law_deal
    first | refine sb_setLc (r := fun x_cells => [some x_script, some x_base, some x_cells, none, none]) [("_law_cell", 4)] (.one 4) 2 rfl hN rfl rfl (sw_true rfl rfl rfl rfl) (blkOk_by rfl) (fun _ _ _ _ _ => pg_name (i := 4) hN rfl (by first | exact .inl rfl | exact .inr rfl)) (by decide) (si_iter (se_slice (se_var 0 rfl (pv 0)) (so_some (se_var 1 rfl (pv 1))) (so_some se_int))) (bd_one (r := fun x_cell => [some x_script, some x_base, none, none, some x_cell]) (fun _ => rfl) (fun x_cell _ _ _ _ _ => (se_callB (id := "abs") rfl T.z_abs (by decide +kernel) (sa_cons (se_var 4 rfl (pv 4)) sa_nil) pAbs_ok))) (fun _ => rfl) (fun x_cells => ?_) | refine sb_set (r := fun x_cells => [some x_script, some x_base, some x_cells, none, none]) 2 hN rfl (by first | exact .inl rfl | exact .inr rfl) (fun _ => rfl) (se_lc [("_law_cell", 4)] (.one 4) rfl hN (blkOk_by rfl) (fun _ _ _ _ _ => pg_name (i := 4) hN rfl (by first | exact .inl rfl | exact .inr rfl)) (by decide) (si_iter (se_slice (se_var 0 rfl (pv 0)) (so_some (se_var 1 rfl (pv 1))) (so_some se_int))) (bd_one (r := fun x_cell => [some x_script, some x_base, none, none, some x_cell]) (fun _ => rfl) (fun x_cell _ _ _ _ _ => (se_callB (id := "abs") rfl T.z_abs (by decide +kernel) (sa_cons (se_var 4 rfl (pv 4)) sa_nil) pAbs_ok)))) (fun x_cells => ?_)
    refine sb_set (r := fun x_blend => [some x_script, some x_base, some x_cells, some x_blend, none]) 3 hN rfl (by first | exact .inl rfl | exact .inr rfl) (fun _ => rfl) (se_bin se_int (se_bin se_int (se_var 1 rfl (pv 1)) oMul_ok) oAdd_ok) (fun x_blend => ?_)
    refine sb_for (α := D) (fun s1 => [some x_script, some x_base, some x_cells, some s1, none]) rfl (si_iter (se_var 2 rfl (pv 2))) (by walk_at "le") (fun d1 s1 nx1 bk1 W V hW1 hV1 => ?_) (fun s1 => ?_)
    · unfold w__law_deal_l1
      refine sg_name (r := [some x_script, some x_base, some x_cells, some s1, some d1]) 4 rfl ?_ (pg_name (i := 4) hN rfl (by first | exact .inl rfl | exact .inr rfl))
      refine sb_set (r := fun x_blend1 => [some x_script, some x_base, some x_cells, some x_blend1, some d1]) 3 hN rfl (by first | exact .inl rfl | exact .inr rfl) (fun _ => rfl) (se_bin (se_callTy (id := "int") rfl T.z_int (by decide +kernel) (sa_cons (se_bin (se_bin (se_var 3 rfl (pv 3)) se_int oMul_ok) (se_bin (se_callTy (id := "int") rfl T.z_int (by decide +kernel) (sa_cons (se_var 4 rfl (pv 4)) sa_nil) pInt_ok) se_int oMod_ok) oAdd_ok) sa_nil) pInt_ok) se_int oMod_ok) (fun x_blend1 => ?_)
      refine sb_part ?_
      exact sb_le hW1 (by walk_at "le")
    · unfold w__law_deal_a2
      exact sb_ret (se_drop (se_lstC (sa_cons (se_revC (se_lc1 [("_law_cell", 4)] (.one 4) rfl hN (blkOk_by rfl) (fun _ _ _ _ _ => pg_name (i := 4) hN rfl (by first | exact .inl rfl | exact .inr rfl)) (by decide) (si_iter (se_var 2 rfl (pv 2))) (bdT_one (r := fun x_cell1 => [some x_script, some x_base, some x_cells, some s1, some x_cell1]) (fun _ => rfl) (fun x_cell1 _ _ _ _ _ => (st_cmp (se_var 4 rfl (pv 4)) (se_bin se_int se_int oPow_ok) oGe_ok))) (bd_one (r := fun x_cell1 => [some x_script, some x_base, some x_cells, some s1, some x_cell1]) (fun _ => rfl) (fun x_cell1 _ _ _ _ _ => (se_var 4 rfl (pv 4)))))) (sa_cons (se_var 3 rfl (pv 3)) sa_nil)))) (fun _ _ h => h)
def w_is_sequence (T : Tp P K mg) (x_value : D) (Qx : QX) (Q : QE) : MB := mRet (eArgs (aCons (eVal x_value) (aCons (eArgs (aCons (eVal (.raw (.ty "list"))) (aCons (eVal (.raw (.ty "tuple"))) aNil)) pTup) aNil)) (on2 (pIsI K))) Q
def fw_is_sequence (T : Tp P K mg) : FS := fun ds C Q Qx => match ds with
  | [x_value] => w_is_sequence T x_value Qx Q C
  | _ => False
theorem ok_is_sequence (T : Tp P K mg) : FnG P w K mg base 1 T.f_is_sequence T.d_is_sequence ["value"] (fw_is_sequence T) := by
  refine fnT T.F_is_sequence sc_is_sequence (fun ds C Q Qx h => ?_) (fun cdv A outer s H E X ds C Q hr h => ?_)
  · unfold fw_is_sequence at h; split at h
    · rfl
    · exact h.elim
  · unfold fw_is_sequence at h; split at h
    rotate_left
    · exact h.elim
    have hN := sc_is_sequence.nd
    have hu := hu_G hr
    have hg := hr.gd
    rename_i x_value
    generalize hQx : (fun cls fs C' => ∀ ρ, X.XQ cls fs ρ C' : QX) = Qx at h
    have hX : ∀ ρ cls fs C, Qx cls fs C → X.XQ cls fs ρ C := by subst hQx; exact fun ρ cls fs C h => h ρ
    clear hQx
    revert h; revert C
    show SB X _ [some x_value] (w_is_sequence T x_value Qx Q) _
    unfold w_is_sequence
    exact sb_ret (se_callB (id := "isinstance") rfl T.z_isinstance (by decide +kernel) (sa_cons (se_var 0 rfl (pv 0)) (sa_cons (se_tup (sa_cons (se_ty rfl T.z_list (by decide +kernel)) (sa_cons (se_ty rfl T.z_tuple (by decide +kernel)) sa_nil))) sa_nil)) pIsI_ok) (fun _ _ h => h)
def w_fits_letter (T : Tp P K mg) (x_word x_letter : D) (Qx : QX) (Q : QE) : MB := mRet (eOr (eBin (eVal x_letter) (eVal (.str "list")) (oNe noOwn)) (eBin (eVal x_word) (eVal (.tup (cst_OF_ANSWERS.map D.str))) oNotIn)) Q
def fw_fits_letter (T : Tp P K mg) : FS := fun ds C Q Qx => match ds with
  | [x_word, x_letter] => w_fits_letter T x_word x_letter Qx Q C
  | _ => False
theorem ok_fits_letter (T : Tp P K mg) : FnG P w K mg base 1 T.f_fits_letter T.d_fits_letter ["word", "letter"] (fw_fits_letter T) := by
  refine fnT T.F_fits_letter sc_fits_letter (fun ds C Q Qx h => ?_) (fun cdv A outer s H E X ds C Q hr h => ?_)
  · unfold fw_fits_letter at h; split at h
    · rfl
    · exact h.elim
  · unfold fw_fits_letter at h; split at h
    rotate_left
    · exact h.elim
    have hN := sc_fits_letter.nd
    have hu := hu_G hr
    have hg := hr.gd
    rename_i x_word x_letter
    generalize hQx : (fun cls fs C' => ∀ ρ, X.XQ cls fs ρ C' : QX) = Qx at h
    have hX : ∀ ρ cls fs C, Qx cls fs C → X.XQ cls fs ρ C := by subst hQx; exact fun ρ cls fs C h => h ρ
    clear hQx
    revert h; revert C
    show SB X _ [some x_word, some x_letter] (w_fits_letter T x_word x_letter Qx Q) _
    unfold w_fits_letter
    exact sb_ret (se_or (se_cmp (se_var 1 rfl (pv 1)) se_str (oNe_ok hu noOwn_ok)) (se_one (se_cmp (se_var 0 rfl (pv 0)) (se_glob (d := .tup (cst_OF_ANSWERS.map D.str)) (pe_glob (v := .ref T.a_OF_ANSWERS) rfl T.g_OF_ANSWERS rfl) T.r_OF_ANSWERS) oNotIn_ok))) (fun _ _ h => h)
def w_is_test (T : Tp P K mg) (x_value x_letter : D) (Qx : QX) (Q : QE) : MB := mIf (tNot (tVal (eArgs (aCons (eVal x_value) (aCons (eVal (.raw (.ty "str"))) aNil)) (on2 (pIsI K))))) (mRet (eVal (.bl false)) Q) (mSet (eIf (tVal (eStr1 (eVal x_value) (eVal (.str "not ")) pStarts)) (eSl (eVal x_value) (oSome (eVal (.int 4))) oNone) (eVal x_value)) fun x_word => mRet (eAnd (eBin (eVal x_word) (eVal (.tup (cst_TESTS.map D.str))) oIn) (eArgs (aCons (eVal x_word) (aCons (eVal x_letter) aNil)) fun ds => callW (fw_fits_letter T) Qx (ds ++ []))) Q)
def fw_is_test (T : Tp P K mg) : FS := fun ds C Q Qx => match ds with
  | [x_value, x_letter] => w_is_test T x_value x_letter Qx Q C
  | _ => False
theorem ok_is_test (T : Tp P K mg) : FnG P w K mg base 2 T.f_is_test T.d_is_test ["value", "letter"] (fw_is_test T) := by
  refine fnT T.F_is_test sc_is_test (fun ds C Q Qx h => ?_) (fun cdv A outer s H E X ds C Q hr h => ?_)
  · unfold fw_is_test at h; split at h
    · rfl
    · exact h.elim
  · unfold fw_is_test at h; split at h
    rotate_left
    · exact h.elim
    have hN := sc_is_test.nd
    have hu := hu_G hr
    have hg := hr.gd
    rename_i x_value x_letter
    generalize hQx : (fun cls fs C' => ∀ ρ, X.XQ cls fs ρ C' : QX) = Qx at h
    have hX : ∀ ρ cls fs C, Qx cls fs C → X.XQ cls fs ρ C := by subst hQx; exact fun ρ cls fs C h => h ρ
    clear hQx
    revert h; revert C
    show SB X _ [some x_value, some x_letter, none] (w_is_test T x_value x_letter Qx Q) _
    unfold w_is_test
    refine sb_if (st_not (st_val (se_callB (id := "isinstance") rfl T.z_isinstance (by decide +kernel) (sa_cons (se_var 0 rfl (pv 0)) (sa_cons (se_ty rfl T.z_str (by decide +kernel)) sa_nil)) pIsI_ok))) ?_ ?_
    · exact sb_ret se_bl (fun _ _ h => h)
    · refine sb_more ?_
      refine sb_set (r := fun x_word => [some x_value, some x_letter, some x_word]) 2 hN rfl (by first | exact .inl rfl | exact .inr rfl) (fun _ => rfl) (se_if (st_val (se_startswith (se_var 0 rfl (pv 0)) se_str)) (se_slice (se_var 0 rfl (pv 0)) (so_some se_int) so_none) (se_var 0 rfl (pv 0))) (fun x_word => ?_)
      exact sb_ret (se_and (se_cmp (se_var 2 rfl (pv 2)) (se_glob (d := .tup (cst_TESTS.map D.str)) (pe_glob (v := .ref T.a_TESTS) rfl T.g_TESTS rfl) T.r_TESTS) oIn_ok) (se_one (se_call (dds := []) (ok_fits_letter T) (hr.mono (by omega)) rfl T.g_fits_letter T.F_fits_letter.kp T.b_fits_letter .nil (fun _ => Reps.nil) (hX _) (sa_cons (se_var 2 rfl (pv 2)) (sa_cons (se_var 1 rfl (pv 1)) sa_nil))))) (fun _ _ h => h)
def w_is_deed (T : Tp P K mg) (x_value x_letter : D) (Qx : QX) (Q : QE) : MB := mRet (eAnd (eArgs (aCons (eVal x_value) (aCons (eVal (.raw (.ty "str"))) aNil)) (on2 (pIsI K))) (eAnd (eBin (eVal x_value) (eVal (.tup (cst_DEEDS.map D.str))) oIn) (eArgs (aCons (eVal x_value) (aCons (eVal x_letter) aNil)) fun ds => callW (fw_fits_letter T) Qx (ds ++ [])))) Q
def fw_is_deed (T : Tp P K mg) : FS := fun ds C Q Qx => match ds with
  | [x_value, x_letter] => w_is_deed T x_value x_letter Qx Q C
  | _ => False
theorem ok_is_deed (T : Tp P K mg) : FnG P w K mg base 2 T.f_is_deed T.d_is_deed ["value", "letter"] (fw_is_deed T) := by
  refine fnT T.F_is_deed sc_is_deed (fun ds C Q Qx h => ?_) (fun cdv A outer s H E X ds C Q hr h => ?_)
  · unfold fw_is_deed at h; split at h
    · rfl
    · exact h.elim
  · unfold fw_is_deed at h; split at h
    rotate_left
    · exact h.elim
    have hN := sc_is_deed.nd
    have hu := hu_G hr
    have hg := hr.gd
    rename_i x_value x_letter
    generalize hQx : (fun cls fs C' => ∀ ρ, X.XQ cls fs ρ C' : QX) = Qx at h
    have hX : ∀ ρ cls fs C, Qx cls fs C → X.XQ cls fs ρ C := by subst hQx; exact fun ρ cls fs C h => h ρ
    clear hQx
    revert h; revert C
    show SB X _ [some x_value, some x_letter] (w_is_deed T x_value x_letter Qx Q) _
    unfold w_is_deed
    exact sb_ret (se_and (se_callB (id := "isinstance") rfl T.z_isinstance (by decide +kernel) (sa_cons (se_var 0 rfl (pv 0)) (sa_cons (se_ty rfl T.z_str (by decide +kernel)) sa_nil)) pIsI_ok) (se_and (se_cmp (se_var 0 rfl (pv 0)) (se_glob (d := .tup (cst_DEEDS.map D.str)) (pe_glob (v := .ref T.a_DEEDS) rfl T.g_DEEDS rfl) T.r_DEEDS) oIn_ok) (se_one (se_call (dds := []) (ok_fits_letter T) (hr.mono (by omega)) rfl T.g_fits_letter T.F_fits_letter.kp T.b_fits_letter .nil (fun _ => Reps.nil) (hX _) (sa_cons (se_var 0 rfl (pv 0)) (sa_cons (se_var 1 rfl (pv 1)) sa_nil)))))) (fun _ _ h => h)
def w_Row_init (T : Tp P K mg) (x_self x_letter x_tests x_deeds : D) (Qx : QX) (Q : QE) : MB := mIf (tOr (tNot (tVal (eArgs (aCons (eVal x_letter) (aCons (eVal (.raw (.ty "str"))) aNil)) (on2 (pIsI K))))) (tBin (eVal x_letter) (eVal (.tup (cst_LETTERS.map D.str))) oNotIn)) (mRaise (eVal (.str "letter")) T.c_InvalidRow "word" Qx) (mIf (tOr (tNot (tVal (eArgs (aCons (eVal x_tests) aNil) fun ds => callW (fw_is_sequence T) Qx (ds ++ [])))) (tNot (tVal (eArgs (aCons (eLc (iApp (eVal x_tests) pIter) (fun x_test => (eArgs (aCons (eVal x_test) (aCons (eVal x_letter) aNil)) fun ds => callW (fw_is_test T) (fun _ _ _ => False) (ds ++ [])))) aNil) (on1 pAll1))))) (mRaise (eVal (.str "tests")) T.c_InvalidRow "word" Qx) (mIf (tOr (tNot (tVal (eArgs (aCons (eVal x_deeds) aNil) fun ds => callW (fw_is_sequence T) Qx (ds ++ [])))) (tNot (tVal (eArgs (aCons (eLc (iApp (eVal x_deeds) pIter) (fun x_deed => (eArgs (aCons (eVal x_deed) (aCons (eVal x_letter) aNil)) fun ds => callW (fw_is_deed T) (fun _ _ _ => False) (ds ++ [])))) aNil) (on1 pAll1))))) (mRaise (eVal (.str "deeds")) T.c_InvalidRow "word" Qx) (mFld K (eVal x_letter) (eVal x_self) "letter" (mFld K (eArgs (aCons (eVal x_tests) aNil) (on1 pTuple1)) (eVal x_self) "tests" (mFld K (eArgs (aCons (eVal x_deeds) aNil) (on1 pTuple1)) (eVal x_self) "deeds" (mRet (eVal .non) Q))))))
def fw_Row_init (T : Tp P K mg) : FS := fun ds C Q Qx => match ds with
  | [x_self, x_letter, x_tests, x_deeds] => w_Row_init T x_self x_letter x_tests x_deeds Qx Q C
  | _ => False
theorem ok_Row_init (T : Tp P K mg) : FnG P w K mg base 3 T.f_Row_init T.d_Row_init ["self", "letter", "tests", "deeds"] (fw_Row_init T) := by
  refine fnT T.F_Row_init sc_Row_init (fun ds C Q Qx h => ?_) (fun cdv A outer s H E X ds C Q hr h => ?_)
  · unfold fw_Row_init at h; split at h
    · rfl
    · exact h.elim
  · unfold fw_Row_init at h; split at h
    rotate_left
    · exact h.elim
    have hN := sc_Row_init.nd
    have hu := hu_G hr
    have hg := hr.gd
    rename_i x_self x_letter x_tests x_deeds
    generalize hQx : (fun cls fs C' => ∀ ρ, X.XQ cls fs ρ C' : QX) = Qx at h
    have hX : ∀ ρ cls fs C, Qx cls fs C → X.XQ cls fs ρ C := by subst hQx; exact fun ρ cls fs C h => h ρ
    clear hQx
    revert h; revert C
    show SB X _ [some x_self, some x_letter, some x_tests, some x_deeds, none, none] (w_Row_init T x_self x_letter x_tests x_deeds Qx Q) _
    unfold w_Row_init
    refine sb_if (st_p (sp_or (st_not (st_val (se_callB (id := "isinstance") rfl T.z_isinstance (by decide +kernel) (sa_cons (se_var 1 rfl (pv 1)) (sa_cons (se_ty rfl T.z_str (by decide +kernel)) sa_nil)) pIsI_ok))) (sp_or1 (st_cmp (se_var 1 rfl (pv 1)) (se_glob (d := .tup (cst_LETTERS.map D.str)) (pe_glob (v := .ref T.a_LETTERS) rfl T.g_LETTERS rfl) T.r_LETTERS) oNotIn_ok)))) ?_ ?_
    · exact sb_raise (k := 0) T.x_InvalidRow (hr.mono (by omega)) rfl T.g_InvalidRow se_str (hX _)
    · refine sb_more ?_
      refine sb_if (st_p (sp_or (st_not (st_val (se_call (dds := []) (ok_is_sequence T) (hr.mono (by omega)) rfl T.g_is_sequence T.F_is_sequence.kp T.b_is_sequence .nil (fun _ => Reps.nil) (hX _) (sa_cons (se_var 2 rfl (pv 2)) sa_nil)))) (sp_or1 (st_not (st_val (se_callB (id := "all") rfl T.z_all (by decide +kernel) (sa_cons (se_lc [("test", 4)] (.one 4) rfl hN (blkOk_by rfl) (fun _ _ _ _ _ => pg_name (i := 4) hN rfl (by first | exact .inl rfl | exact .inr rfl)) (by decide) (si_iter (se_var 2 rfl (pv 2))) (bd_one (r := fun x_test => [some x_self, some x_letter, some x_tests, some x_deeds, some x_test, none]) (fun _ => rfl) (fun x_test _ _ _ _ _ => (se_call (dds := []) (ok_is_test T) (hr.mono (by omega)) rfl T.g_is_test T.F_is_test.kp T.b_is_test .nil (fun _ => Reps.nil) (fun _ _ _ h => h.elim) (sa_cons (se_var 4 rfl (pv 4)) (sa_cons (se_var 1 rfl (pv 1)) sa_nil)))))) sa_nil) (pAll_ok rfl))))))) ?_ ?_
      · exact sb_raise (k := 0) T.x_InvalidRow (hr.mono (by omega)) rfl T.g_InvalidRow se_str (hX _)
      · refine sb_more ?_
        refine sb_if (st_p (sp_or (st_not (st_val (se_call (dds := []) (ok_is_sequence T) (hr.mono (by omega)) rfl T.g_is_sequence T.F_is_sequence.kp T.b_is_sequence .nil (fun _ => Reps.nil) (hX _) (sa_cons (se_var 3 rfl (pv 3)) sa_nil)))) (sp_or1 (st_not (st_val (se_callB (id := "all") rfl T.z_all (by decide +kernel) (sa_cons (se_lc [("deed", 5)] (.one 5) rfl hN (blkOk_by rfl) (fun _ _ _ _ _ => pg_name (i := 5) hN rfl (by first | exact .inl rfl | exact .inr rfl)) (by decide) (si_iter (se_var 3 rfl (pv 3))) (bd_one (r := fun x_deed => [some x_self, some x_letter, some x_tests, some x_deeds, none, some x_deed]) (fun _ => rfl) (fun x_deed _ _ _ _ _ => (se_call (dds := []) (ok_is_deed T) (hr.mono (by omega)) rfl T.g_is_deed T.F_is_deed.kp T.b_is_deed .nil (fun _ => Reps.nil) (fun _ _ _ h => h.elim) (sa_cons (se_var 5 rfl (pv 5)) (sa_cons (se_var 1 rfl (pv 1)) sa_nil)))))) sa_nil) (pAll_ok rfl))))))) ?_ ?_
        · exact sb_raise (k := 0) T.x_InvalidRow (hr.mono (by omega)) rfl T.g_InvalidRow se_str (hX _)
        · refine sb_more ?_
          refine sb_fld (se_var 1 rfl (pv 1)) (se_var 0 rfl (pv 0)) ?_
          refine sb_fld (se_callTy (id := "tuple") rfl T.z_tuple (by decide +kernel) (sa_cons (se_var 2 rfl (pv 2)) sa_nil) pTuple_ok) (se_var 0 rfl (pv 0)) ?_
          refine sb_fld (se_callTy (id := "tuple") rfl T.z_tuple (by decide +kernel) (sa_cons (se_var 3 rfl (pv 3)) sa_nil) pTuple_ok) (se_var 0 rfl (pv 0)) ?_
          exact sb_nil (fun _ h => h)
def w_Row_read_j1 (T : Tp P K mg)  (Qx : QX) (Q : QE) (j1 : D) : MB := mRet (eVal j1) Q
def w_Row_read (T : Tp P K mg) (x_cls x_text : D) (Qx : QX) (Q : QE) : MB := mSet (eStr1 (eVal x_text) (eVal (.str " do ")) pPart) fun x_d => mUn3 x_d fun x_head x_mark x_tail => mSet (eStr1 (eVal x_head) (eVal (.str " if ")) pPart) fun x_d1 => mUn3 x_d1 fun x_letter x_sign x_rest => mSet (eIf (tBin (eVal x_sign) (eVal (.str "")) (oNe noOwn)) (eStr1 (eVal x_rest) (eVal (.str " and ")) pSplit) (eArgs aNil pLst)) fun x_tests => mTry K (.ref T.c_InvalidRow) (fun X' => mSet (eArgs (aCons (eVal x_letter) (aCons (eVal x_tests) (aCons (eIf (tBin (eVal x_mark) (eVal (.str "")) (oNe noOwn)) (eStr1 (eVal x_tail) (eVal (.str " then ")) pSplit) (eArgs aNil pLst)) aNil))) fun ds => pMkF (fw_Row_init T) X' T.c_Row (ds ++ [])) fun x_row => w_Row_read_j1 T Qx Q x_row) (fun _ cls => mRaiseF K (eVal (.int 0)) T.c_InvalidText "at" Qx cls) Qx
def fw_Row_read (T : Tp P K mg) : FS := fun ds C Q Qx => match ds with
  | [x_cls, x_text] => w_Row_read T x_cls x_text Qx Q C
  | _ => False
theorem cl_Row_read (T : Tp P K mg) {x_cls x_text : D} {Qx : QX} {C : Cells} {Q : QE} (h : w_Row_read T x_cls x_text Qx Q C) : callW (fw_Row_read T) Qx [x_cls, x_text] C Q := call_all h
theorem ok_Row_read (T : Tp P K mg) : FnG P w K mg base 5 T.f_Row_read T.d_Row_read ["cls", "text"] (fw_Row_read T) := by
  refine fnT T.F_Row_read sc_Row_read (fun ds C Q Qx h => ?_) (fun cdv A outer s H E X ds C Q hr h => ?_)
  · unfold fw_Row_read at h; split at h
    · rfl
    · exact h.elim
  · unfold fw_Row_read at h; split at h
    rotate_left
    · exact h.elim
    have hN := sc_Row_read.nd
    have hu := hu_G hr
    have hg := hr.gd
    rename_i x_cls x_text
    generalize hQx : (fun cls fs C' => ∀ ρ, X.XQ cls fs ρ C' : QX) = Qx at h
    have hX : ∀ ρ cls fs C, Qx cls fs C → X.XQ cls fs ρ C := by subst hQx; exact fun ρ cls fs C h => h ρ
    clear hQx
    revert h; revert C
    show SB X _ [some x_cls, some x_text, none, none, none, none, none, none, none, none, none] (w_Row_read T x_cls x_text Qx Q) _
    unfold w_Row_read
    refine sb_asg (se_partition (se_var 1 rfl (pv 1)) se_str) (fun x_d => ?_)
    refine sg_three (r := fun x_head x_mark x_tail => [some x_cls, some x_text, some x_head, some x_mark, some x_tail, none, none, none, none, none, none]) rfl (fun _ _ _ => (gs_cons 2 (pg_name (i := 2) hN rfl (by first | exact .inl rfl | exact .inr rfl)) (gs_cons 3 (pg_name (i := 3) hN rfl (by first | exact .inl rfl | exact .inr rfl)) (gs_cons 4 (pg_name (i := 4) hN rfl (by first | exact .inl rfl | exact .inr rfl)) gs_nil)))) (fun x_head x_mark x_tail => ?_)
    refine sb_asg (se_partition (se_var 2 rfl (pv 2)) se_str) (fun x_d1 => ?_)
    refine sg_three (r := fun x_letter x_sign x_rest => [some x_cls, some x_text, some x_head, some x_mark, some x_tail, some x_letter, some x_sign, some x_rest, none, none, none]) rfl (fun _ _ _ => (gs_cons 5 (pg_name (i := 5) hN rfl (by first | exact .inl rfl | exact .inr rfl)) (gs_cons 6 (pg_name (i := 6) hN rfl (by first | exact .inl rfl | exact .inr rfl)) (gs_cons 7 (pg_name (i := 7) hN rfl (by first | exact .inl rfl | exact .inr rfl)) gs_nil)))) (fun x_letter x_sign x_rest => ?_)
    refine sb_set (r := fun x_tests => [some x_cls, some x_text, some x_head, some x_mark, some x_tail, some x_letter, some x_sign, some x_rest, some x_tests, none, none]) 8 hN rfl (by first | exact .inl rfl | exact .inr rfl) (fun _ => rfl) (se_if (st_cmp (se_var 6 rfl (pv 6)) se_str (oNe_ok hu noOwn_ok)) (se_split (se_var 7 rfl (pv 7)) se_str) (se_lst sa_nil)) (fun x_tests => ?_)
    refine sb_tryR (k := 0) (α := D) (i := 10) (cv := (.ref T.c_InvalidRow)) (fun j1 => [some x_cls, some x_text, some x_head, some x_mark, some x_tail, some x_letter, some x_sign, some x_rest, some x_tests, some j1, none]) (w_Row_read_j1 T Qx Q) [some x_cls, some x_text, some x_head, some x_mark, some x_tail, some x_letter, some x_sign, some x_rest, some x_tests, none, none] rfl rfl hN rfl rfl ⟨rfl, by decide, .inl T.g_InvalidRow⟩ (fun ρ' cls fs C h => hX _ _ _ _ h) (fun j1 => ?_) (fun j1 d hd => by cases hd) (fun pn xe T' X' hX' W hj1 => ?_) T.x_InvalidText (hr.mono (by omega)) rfl T.g_InvalidText (fun a pl xe T' => se_int) (by show 10 < 11; decide)
    · unfold w_Row_read_j1
      exact sb_ret (se_var 9 rfl (pv 9)) (fun _ _ h => h)
    · refine sb_set (r := fun x_row => [some x_cls, some x_text, some x_head, some x_mark, some x_tail, some x_letter, some x_sign, some x_rest, some x_tests, some x_row, none]) 9 hN rfl (by first | exact .inl rfl | exact .inr rfl) (fun _ => rfl) (se_mkF (se_make (dds := []) T.mk_Row (ok_Row_init T) (hr.mono (by omega)) rfl T.g_Row T.b_Row_init .nil (fun _ => Reps.nil) (fun _ _ _ h => hX' _ (by walk_at "le") _ _ _ h) (sa_cons (se_var 5 rfl (pv 5)) (sa_cons (se_var 8 rfl (pv 8)) (sa_cons (se_if (st_cmp (se_var 3 rfl (pv 3)) se_str (oNe_ok hu noOwn_ok)) (se_split (se_var 4 rfl (pv 4)) se_str) (se_lst sa_nil)) sa_nil))))) (fun x_row => ?_)
      exact sb_le hj1 (by walk_at "le")
def w_Row_str (T : Tp P K mg) (x_self : D) (Qx : QX) (Q : QE) : MB := mSet (eIf (tBin (eArgs (aCons (eApp (eVal x_self) (pFld K "tests")) aNil) (on1 (pLen1 no1))) (eVal (.int 0)) oGt) (eJoin (jCons (eVal (.str " if ")) (jCons (eApp (eStr1 (eVal (.str " and ")) (eApp (eVal x_self) (pFld K "tests")) pJoin) pFmt) jNil))) (eVal (.str ""))) fun x_tests => mSet (eIf (tBin (eArgs (aCons (eApp (eVal x_self) (pFld K "deeds")) aNil) (on1 (pLen1 no1))) (eVal (.int 0)) oGt) (eJoin (jCons (eVal (.str " do ")) (jCons (eApp (eStr1 (eVal (.str " then ")) (eApp (eVal x_self) (pFld K "deeds")) pJoin) pFmt) jNil))) (eVal (.str ""))) fun x_deeds => mRet (eJoin (jCons (eApp (eApp (eVal x_self) (pFld K "letter")) pFmt) (jCons (eApp (eVal x_tests) pFmt) (jCons (eApp (eVal x_deeds) pFmt) jNil)))) Q
def fw_Row_str (T : Tp P K mg) : FS := fun ds C Q Qx => match ds with
  | [x_self] => w_Row_str T x_self Qx Q C
  | _ => False
theorem ok_Row_str (T : Tp P K mg) : FnG P w K mg base 1 T.f_Row_str T.d_Row_str ["self"] (fw_Row_str T) := by
  refine fnT T.F_Row_str sc_Row_str (fun ds C Q Qx h => ?_) (fun cdv A outer s H E X ds C Q hr h => ?_)
  · unfold fw_Row_str at h; split at h
    · rfl
    · exact h.elim
  · unfold fw_Row_str at h; split at h
    rotate_left
    · exact h.elim
    have hN := sc_Row_str.nd
    have hu := hu_G hr
    have hg := hr.gd
    rename_i x_self
    generalize hQx : (fun cls fs C' => ∀ ρ, X.XQ cls fs ρ C' : QX) = Qx at h
    have hX : ∀ ρ cls fs C, Qx cls fs C → X.XQ cls fs ρ C := by subst hQx; exact fun ρ cls fs C h => h ρ
    clear hQx
    revert h; revert C
    show SB X _ [some x_self, none, none] (w_Row_str T x_self Qx Q) _
    unfold w_Row_str
    refine sb_set (r := fun x_tests => [some x_self, some x_tests, none]) 1 hN rfl (by first | exact .inl rfl | exact .inr rfl) (fun _ => rfl) (se_if (st_cmp (se_callB (id := "len") rfl T.z_len (by decide +kernel) (sa_cons (se_fld (se_var 0 rfl (pv 0))) sa_nil) (pLen_ok no1_ok)) se_int oGt_ok) (se_joined (sj_cons se_str (sj_cons (se_fmt (se_join se_str (se_fld (se_var 0 rfl (pv 0))))) sj_nil))) se_str) (fun x_tests => ?_)
    refine sb_set (r := fun x_deeds => [some x_self, some x_tests, some x_deeds]) 2 hN rfl (by first | exact .inl rfl | exact .inr rfl) (fun _ => rfl) (se_if (st_cmp (se_callB (id := "len") rfl T.z_len (by decide +kernel) (sa_cons (se_fld (se_var 0 rfl (pv 0))) sa_nil) (pLen_ok no1_ok)) se_int oGt_ok) (se_joined (sj_cons se_str (sj_cons (se_fmt (se_join se_str (se_fld (se_var 0 rfl (pv 0))))) sj_nil))) se_str) (fun x_deeds => ?_)
    exact sb_ret (se_joined (sj_cons (se_fmt (se_fld (se_var 0 rfl (pv 0)))) (sj_cons (se_fmt (se_var 1 rfl (pv 1))) (sj_cons (se_fmt (se_var 2 rfl (pv 2))) sj_nil)))) (fun _ _ h => h)
def w__law_heard_j1 (T : Tp P K mg)  (Qx : QX) (Q : QE) (j1 : D) : MB := mRet (eVal j1) Q
def w__law_heard (T : Tp P K mg) (x_text : D) (Qx : QX) (Q : QE) : MB := mSet (eVal (.str "other")) fun x_found => mTry K (.ref T.c_InvalidText) (fun X' => mSet (eArgs (aCons (eArgs (aCons (eVal x_text) aNil) fun ds => callW (fw_Row_read T) X' (.raw (.ref T.c_Row) :: (ds ++ []))) aNil) (on1 (pStr1 (ownStr T.c_Row (fw_Row_str T))))) fun x_found1 => w__law_heard_j1 T Qx Q x_found1) (fun fs cls => mPart (mSet (eArgs (aCons (eVal (.str "text")) (aCons (eXf K "at" cls fs) (aCons (eIsX K cls (eVal (.raw (.ref T.c_HastyError)))) aNil))) pTup) fun x_found2 => w__law_heard_j1 T Qx Q x_found2)) Qx
def fw__law_heard (T : Tp P K mg) : FS := fun ds C Q Qx => match ds with
  | [x_text] => w__law_heard T x_text Qx Q C
  | _ => False
theorem cl__law_heard (T : Tp P K mg) {x_text : D} {Qx : QX} {C : Cells} {Q : QE} (h : w__law_heard T x_text Qx Q C) : callW (fw__law_heard T) Qx [x_text] C Q := call_all h
theorem ok__law_heard (T : Tp P K mg) : FnG P w K mg base 6 T.f__law_heard T.d__law_heard ["_law_text"] (fw__law_heard T) := by
  refine fnT T.F__law_heard sc__law_heard (fun ds C Q Qx h => ?_) (fun cdv A outer s H E X ds C Q hr h => ?_)
  · unfold fw__law_heard at h; split at h
    · rfl
    · exact h.elim
  · unfold fw__law_heard at h; split at h
    rotate_left
    · exact h.elim
    have hN := sc__law_heard.nd
    have hu := hu_G hr
    have hg := hr.gd
    rename_i x_text
    generalize hQx : (fun cls fs C' => ∀ ρ, X.XQ cls fs ρ C' : QX) = Qx at h
    have hX : ∀ ρ cls fs C, Qx cls fs C → X.XQ cls fs ρ C := by subst hQx; exact fun ρ cls fs C h => h ρ
    clear hQx
    revert h; revert C
    show SB X _ [some x_text, none, none] (w__law_heard T x_text Qx Q) _
    unfold w__law_heard
    refine sb_set (r := fun x_found => [some x_text, some x_found, none]) 1 hN rfl (by first | exact .inl rfl | exact .inr rfl) (fun _ => rfl) se_str (fun x_found => ?_)
    refine sb_try (α := D) (i := 2) (cv := (.ref T.c_InvalidText)) (fun j1 => [some x_text, some j1, none]) (w__law_heard_j1 T Qx Q) [some x_text, some x_found, none] rfl rfl hN rfl rfl ⟨rfl, by decide, .inl T.g_InvalidText⟩ (fun ρ' cls fs C h => hX _ _ _ _ h) (fun j1 => ?_) (fun j1 d hd => by cases hd) (fun pn xe T' X' hX' W hj1 => ?_) (fun cls fs a oe dd pn T' hz hfl hA W V B hj1 => ?_)
    · unfold w__law_heard_j1
      exact sb_ret (se_var 1 rfl (pv 1)) (fun _ _ h => h)
    · refine sb_set (r := fun x_found1 => [some x_text, some x_found1, none]) 1 hN rfl (by first | exact .inl rfl | exact .inr rfl) (fun _ => rfl) (se_callTy (id := "str") rfl T.z_str (by decide +kernel) (sa_cons (se_cmeth (dds := []) T.m_Row_read (ok_Row_read T) (hr.mono (by omega)) T.b_Row_read .nil (fun _ => Reps.nil) (fun _ _ _ h => hX' _ (by walk_at "le") _ _ _ h) (se_glob (d := .raw (.ref T.c_Row)) (pe_glob (v := .ref T.c_Row) rfl T.g_Row rfl) (fun _ => rfl)) (sa_cons (se_var 0 rfl (pv 0)) sa_nil)) sa_nil) (pStr_ok (ownStr_ok T.m_Row_str T.n_Row_str (ok_Row_str T) (hr.mono (by omega)) T.b_Row_str))) (fun x_found1 => ?_)
      exact sb_le hj1 (by walk_at "le")
    · refine sb_part ?_
      refine sb_set (r := fun x_found2 => [some x_text, some x_found2, some ((.raw (.ref a)))]) 1 hN rfl (by first | exact .inl rfl | exact .inr rfl) (fun _ => rfl) (se_tup (sa_cons se_str (sa_cons (se_xf hz hfl hA (se_var 2 rfl (pv 2))) (sa_cons (se_isX hz hfl hA rfl T.z_isinstance (se_var 2 rfl (pv 2)) (se_glob (d := .raw (.ref T.c_HastyError)) (pe_glob (v := .ref T.c_HastyError) rfl T.g_HastyError rfl) (fun _ => rfl))) sa_nil)))) (fun x_found2 => ?_)
      exact sb_le hj1 (by walk_at "le")
def w__law_draw_t1 (T : Tp P K mg) (x_deal_here : D) (Qx : QX) (Q : QE) (s1 : Unit) : MT := (tAnd (tBin (eBin (eVal x_deal_here) (eVal (.int 0)) pIx) (eArgs aNil pLst) (oNe noOwn)) (tBin (eBin (eBin (eVal x_deal_here) (eVal (.int 0)) pIx) (eApp (eVal (.int 1)) pNeg) pIx) (eVal (.int 0)) (oEq noOwn)))
def w__law_draw_a3 (T : Tp P K mg) (x_deal_here : D) (x_amount : D) (Qx : QX) (Q : QE) (s1 : Unit) : MB := mIf (tBin (eBin (eVal x_deal_here) (eVal (.int 0)) pIx) (eArgs aNil pLst) (oNe noOwn)) (mSet (eApp (eBin (eVal x_deal_here) (eVal (.int 0)) pIx) pPop) fun x_left => mExp (eL1 (eBin (eVal x_deal_here) (eVal (.int 0)) pIx) (eBin (eVal x_left) (eVal x_amount) oFdiv) pApp) (mRet (eBin (eArgs (aCons (eVal x_left) aNil) (on1 pInt1)) (eVal x_amount) oMod) Q)) (mSet (eBin (eArgs (aCons (eBin (eBin (eBin (eVal x_deal_here) (eVal (.int 1)) pIx) (eVal (.int 48271)) oMul) (eVal (.int 11)) oAdd) aNil) (on1 pInt1)) (eVal (.int 2147483647)) oMod) fun x_d => mSub (eVal x_deal_here) (eVal (.int 1)) x_d (mRet (eBin (eArgs (aCons (eBin (eBin (eVal x_deal_here) (eVal (.int 1)) pIx) (eVal (.int 8)) oFdiv) aNil) (on1 pInt1)) (eVal x_amount) oMod) Q))
def w__law_draw_l2 (T : Tp P K mg) (x_deal_here : D) (Qx : QX) (Q : QE) (s1 : Unit) (nx1 : (Unit) → MB) (bk1 : (Unit) → MB) : MB := mExp (eApp (eBin (eVal x_deal_here) (eVal (.int 0)) pIx) pPop) (mPart (nx1 ()))
def w__law_draw (T : Tp P K mg) (x_deal_here x_amount : D) (Qx : QX) (Q : QE) : MB := mWhile (α := Unit) (w__law_draw_t1 T x_deal_here Qx Q) (w__law_draw_l2 T x_deal_here Qx Q) () (w__law_draw_a3 T x_deal_here x_amount Qx Q)
def fw__law_draw (T : Tp P K mg) : FS := fun ds C Q Qx => match ds with
  | [x_deal_here, x_amount] => w__law_draw T x_deal_here x_amount Qx Q C
  | _ => False
theorem ok__law_draw (T : Tp P K mg) : FnG P w K mg base 1 T.f__law_draw T.d__law_draw ["_law_deal_here", "_law_amount"] (fw__law_draw T) := by
  refine fnT T.F__law_draw sc__law_draw (fun ds C Q Qx h => ?_) (fun cdv A outer s H E X ds C Q hr h => ?_)
  · unfold fw__law_draw at h; split at h
    · rfl
    · exact h.elim
  · unfold fw__law_draw at h; split at h
    rotate_left
    · exact h.elim
    have hN := sc__law_draw.nd
    have hu := hu_G hr
    have hg := hr.gd
    rename_i x_deal_here x_amount
    generalize hQx : (fun cls fs C' => ∀ ρ, X.XQ cls fs ρ C' : QX) = Qx at h
    have hX : ∀ ρ cls fs C, Qx cls fs C → X.XQ cls fs ρ C := by subst hQx; exact fun ρ cls fs C h => h ρ
    clear hQx
    revert h; revert C
    show SB X _ [some x_deal_here, some x_amount, none] (w__law_draw T x_deal_here x_amount Qx Q) _
    unfold w__law_draw
    refine sb_while (α := Unit) (fun s1 => [some x_deal_here, some x_amount, none]) (by walk_at "le") (fun s1 => ?_) (fun s1 nx1 bk1 W V hW1 hV1 => ?_) (fun s1 => ?_)
    · unfold w__law_draw_t1
      exact (st_p (sp_and (st_cmp (se_ix (se_var 0 rfl (pv 0)) se_int) (se_lst sa_nil) (oNe_ok hu noOwn_ok)) (sp_and1 (st_cmp (se_ix (se_ix (se_var 0 rfl (pv 0)) se_int) (se_neg se_int)) se_int (oEq_ok hu noOwn_ok)))))
    · unfold w__law_draw_l2
      refine sb_exp (se_pop (se_ix (se_var 0 rfl (pv 0)) se_int)) ?_
      refine sb_part ?_
      exact sb_le hW1 (by walk_at "le")
    · unfold w__law_draw_a3
      refine sb_if (st_cmp (se_ix (se_var 0 rfl (pv 0)) se_int) (se_lst sa_nil) (oNe_ok hu noOwn_ok)) ?_ ?_
      · refine sb_set (r := fun x_left => [some x_deal_here, some x_amount, some x_left]) 2 hN rfl (by first | exact .inl rfl | exact .inr rfl) (fun _ => rfl) (se_pop (se_ix (se_var 0 rfl (pv 0)) se_int)) (fun x_left => ?_)
        refine sb_exp (se_append (se_ix (se_var 0 rfl (pv 0)) se_int) (se_bin (se_var 2 rfl (pv 2)) (se_var 1 rfl (pv 1)) oFdiv_ok)) ?_
        exact sb_ret (se_bin (se_callTy (id := "int") rfl T.z_int (by decide +kernel) (sa_cons (se_var 2 rfl (pv 2)) sa_nil) pInt_ok) (se_var 1 rfl (pv 1)) oMod_ok) (fun _ _ h => h)
      · refine sb_more ?_
        refine sb_asg (se_bin (se_callTy (id := "int") rfl T.z_int (by decide +kernel) (sa_cons (se_bin (se_bin (se_ix (se_var 0 rfl (pv 0)) se_int) se_int oMul_ok) se_int oAdd_ok) sa_nil) pInt_ok) se_int oMod_ok) (fun x_d => ?_)
        refine sg_sub (se_var 0 rfl (pv 0)) se_int ?_
        exact sb_ret (se_bin (se_callTy (id := "int") rfl T.z_int (by decide +kernel) (sa_cons (se_bin (se_ix (se_var 0 rfl (pv 0)) se_int) se_int oFdiv_ok) sa_nil) pInt_ok) (se_var 1 rfl (pv 1)) oMod_ok) (fun _ _ h => h)
def w__law_row_j1 (T : Tp P K mg) (x_deal_here : D) (x_letter : D) (Qx : QX) (Q : QE) (j1 : D × D) : MB := mSet (eLc (iApp (eArgs (aCons (eVal x_deal_here) (aCons (eVal (.int 5)) aNil)) fun ds => callW (fw__law_draw T) Qx (ds ++ [])) pRange1) (fun x_turn => (eBin (eVal j1.1) (eArgs (aCons (eVal x_deal_here) (aCons (eArgs (aCons (eVal j1.1) aNil) (on1 (pLen1 no1))) aNil)) fun ds => callW (fw__law_draw T) (fun _ _ _ => False) (ds ++ [])) pIx))) fun x_some => mSet (eLc (iApp (eVal x_some) pIter) (fun x_test => (eIf (tBin (eArgs (aCons (eVal x_deal_here) (aCons (eVal (.int 3)) aNil)) fun ds => callW (fw__law_draw T) (fun _ _ _ => False) (ds ++ [])) (eVal (.int 0)) (oEq noOwn)) (eBin (eVal (.str "not ")) (eVal x_test) oAdd) (eVal x_test)))) fun x_some1 => mRet (eArgs (aCons (eVal x_letter) (aCons (eVal x_some1) (aCons (eLc (iApp (eArgs (aCons (eVal x_deal_here) (aCons (eVal (.int 5)) aNil)) fun ds => callW (fw__law_draw T) Qx (ds ++ [])) pRange1) (fun x_turn1 => (eBin (eVal j1.2) (eArgs (aCons (eVal x_deal_here) (aCons (eArgs (aCons (eVal j1.2) aNil) (on1 (pLen1 no1))) aNil)) fun ds => callW (fw__law_draw T) (fun _ _ _ => False) (ds ++ [])) pIx))) aNil))) pTup) Q
def w__law_row (T : Tp P K mg) (x_deal_here : D) (Qx : QX) (Q : QE) : MB := mSet (eBin (eArgs (aCons (eVal (.str "yes")) (aCons (eVal (.str "no")) (aCons (eVal (.str "list")) aNil))) pLst) (eArgs (aCons (eVal x_deal_here) (aCons (eVal (.int 3)) aNil)) fun ds => callW (fw__law_draw T) Qx (ds ++ [])) pIx) fun x_letter => mSet (eArgs (aCons (eArgs (aCons (eVal (.str "old")) (aCons (eVal (.str "all")) (aCons (eVal (.str "open")) (aCons (eVal (.str "same")) aNil)))) pLst) (aCons (eArgs (aCons (eVal (.str "take")) (aCons (eVal (.str "sweep")) (aCons (eVal (.str "clear")) aNil))) pLst) aNil)) pTup) fun x_d => mUn2 x_d fun x_tests x_deeds => mIf (tBin (eVal x_letter) (eVal (.str "list")) (oNe noOwn)) (mSet (eArgs (aCons (eBin (eVal x_tests) (eArgs (aCons (eVal (.str "first")) (aCons (eVal (.str "gone")) aNil)) pLst) oAdd) (aCons (eBin (eVal x_deeds) (eArgs (aCons (eVal (.str "do")) (aCons (eVal (.str "drop")) aNil)) pLst) oAdd) aNil)) pTup) fun x_d1 => mUn2 x_d1 fun x_tests1 x_deeds1 => w__law_row_j1 T x_deal_here x_letter Qx Q (x_tests1, x_deeds1)) (w__law_row_j1 T x_deal_here x_letter Qx Q (x_tests, x_deeds))
def fw__law_row (T : Tp P K mg) : FS := fun ds C Q Qx => match ds with
  | [x_deal_here] => w__law_row T x_deal_here Qx Q C
  | _ => False
theorem ok__law_row (T : Tp P K mg) : FnG P w K mg base 2 T.f__law_row T.d__law_row ["_law_deal_here"] (fw__law_row T) := by
  refine fnT T.F__law_row sc__law_row (fun ds C Q Qx h => ?_) (fun cdv A outer s H E X ds C Q hr h => ?_)
  · unfold fw__law_row at h; split at h
    · rfl
    · exact h.elim
  · unfold fw__law_row at h; split at h
    rotate_left
    · exact h.elim
    have hN := sc__law_row.nd
    have hu := hu_G hr
    have hg := hr.gd
    rename_i x_deal_here
    generalize hQx : (fun cls fs C' => ∀ ρ, X.XQ cls fs ρ C' : QX) = Qx at h
    have hX : ∀ ρ cls fs C, Qx cls fs C → X.XQ cls fs ρ C := by subst hQx; exact fun ρ cls fs C h => h ρ
    clear hQx
    revert h; revert C
    show SB X _ [some x_deal_here, none, none, none, none, none, none] (w__law_row T x_deal_here Qx Q) _
    unfold w__law_row
    refine sb_set (r := fun x_letter => [some x_deal_here, some x_letter, none, none, none, none, none]) 1 hN rfl (by first | exact .inl rfl | exact .inr rfl) (fun _ => rfl) (se_ix (se_lst (sa_cons se_str (sa_cons se_str (sa_cons se_str sa_nil)))) (se_call (dds := []) (ok__law_draw T) (hr.mono (by omega)) rfl T.g__law_draw T.F__law_draw.kp T.b__law_draw .nil (fun _ => Reps.nil) (hX _) (sa_cons (se_var 0 rfl (pv 0)) (sa_cons se_int sa_nil)))) (fun x_letter => ?_)
    refine sb_asg (se_tup (sa_cons (se_lst (sa_cons se_str (sa_cons se_str (sa_cons se_str (sa_cons se_str sa_nil))))) (sa_cons (se_lst (sa_cons se_str (sa_cons se_str (sa_cons se_str sa_nil)))) sa_nil))) (fun x_d => ?_)
    refine sg_two (r := fun x_tests x_deeds => [some x_deal_here, some x_letter, some x_tests, some x_deeds, none, none, none]) rfl (fun _ _ => (gs_cons 2 (pg_name (i := 2) hN rfl (by first | exact .inl rfl | exact .inr rfl)) (gs_cons 3 (pg_name (i := 3) hN rfl (by first | exact .inl rfl | exact .inr rfl)) gs_nil))) (fun x_tests x_deeds => ?_)
    refine sb_ifJ (α := D × D) (fun j1 => [some x_deal_here, some x_letter, some j1.1, some j1.2, none, none, none]) (w__law_row_j1 T x_deal_here x_letter Qx Q) (st_cmp (se_var 1 rfl (pv 1)) se_str (oNe_ok hu noOwn_ok)) (fun j1 => ?_) (fun W hj1 => ?_) (fun W hj1 => ?_)
    · unfold w__law_row_j1
      first | refine sb_setLc (r := fun x_some => [some x_deal_here, some x_letter, some j1.1, some j1.2, some x_some, none, none]) [("_law_turn", 5)] (.one 5) 4 rfl hN rfl rfl (sw_true rfl rfl rfl rfl) (blkOk_by rfl) (fun _ _ _ _ _ => pg_name (i := 5) hN rfl (by first | exact .inl rfl | exact .inr rfl)) (by decide) (si_range1 rfl T.z_range (se_call (dds := []) (ok__law_draw T) (hr.mono (by omega)) rfl T.g__law_draw T.F__law_draw.kp T.b__law_draw .nil (fun _ => Reps.nil) (hX _) (sa_cons (se_var 0 rfl (pv 0)) (sa_cons se_int sa_nil)))) (bd_one (r := fun x_turn => [some x_deal_here, some x_letter, some j1.1, some j1.2, none, some x_turn, none]) (fun _ => rfl) (fun x_turn _ _ _ _ _ => (se_ix (se_var 2 rfl (pv 2)) (se_call (dds := []) (ok__law_draw T) (hr.mono (by omega)) rfl T.g__law_draw T.F__law_draw.kp T.b__law_draw .nil (fun _ => Reps.nil) (fun _ _ _ h => h.elim) (sa_cons (se_var 0 rfl (pv 0)) (sa_cons (se_callB (id := "len") rfl T.z_len (by decide +kernel) (sa_cons (se_var 2 rfl (pv 2)) sa_nil) (pLen_ok no1_ok)) sa_nil)))))) (fun _ => rfl) (fun x_some => ?_) | refine sb_set (r := fun x_some => [some x_deal_here, some x_letter, some j1.1, some j1.2, some x_some, none, none]) 4 hN rfl (by first | exact .inl rfl | exact .inr rfl) (fun _ => rfl) (se_lc [("_law_turn", 5)] (.one 5) rfl hN (blkOk_by rfl) (fun _ _ _ _ _ => pg_name (i := 5) hN rfl (by first | exact .inl rfl | exact .inr rfl)) (by decide) (si_range1 rfl T.z_range (se_call (dds := []) (ok__law_draw T) (hr.mono (by omega)) rfl T.g__law_draw T.F__law_draw.kp T.b__law_draw .nil (fun _ => Reps.nil) (hX _) (sa_cons (se_var 0 rfl (pv 0)) (sa_cons se_int sa_nil)))) (bd_one (r := fun x_turn => [some x_deal_here, some x_letter, some j1.1, some j1.2, none, some x_turn, none]) (fun _ => rfl) (fun x_turn _ _ _ _ _ => (se_ix (se_var 2 rfl (pv 2)) (se_call (dds := []) (ok__law_draw T) (hr.mono (by omega)) rfl T.g__law_draw T.F__law_draw.kp T.b__law_draw .nil (fun _ => Reps.nil) (fun _ _ _ h => h.elim) (sa_cons (se_var 0 rfl (pv 0)) (sa_cons (se_callB (id := "len") rfl T.z_len (by decide +kernel) (sa_cons (se_var 2 rfl (pv 2)) sa_nil) (pLen_ok no1_ok)) sa_nil))))))) (fun x_some => ?_)
      first | refine sb_setLc (r := fun x_some1 => [some x_deal_here, some x_letter, some j1.1, some j1.2, some x_some1, none, none]) [("_law_test", 6)] (.one 6) 4 rfl hN rfl rfl (sw_true rfl rfl rfl rfl) (blkOk_by rfl) (fun _ _ _ _ _ => pg_name (i := 6) hN rfl (by first | exact .inl rfl | exact .inr rfl)) (by decide) (si_iter (se_var 4 rfl (pv 4))) (bd_one (r := fun x_test => [some x_deal_here, some x_letter, some j1.1, some j1.2, some x_some, none, some x_test]) (fun _ => rfl) (fun x_test _ _ _ _ _ => (se_if (st_cmp (se_call (dds := []) (ok__law_draw T) (hr.mono (by omega)) rfl T.g__law_draw T.F__law_draw.kp T.b__law_draw .nil (fun _ => Reps.nil) (fun _ _ _ h => h.elim) (sa_cons (se_var 0 rfl (pv 0)) (sa_cons se_int sa_nil))) se_int (oEq_ok hu noOwn_ok)) (se_bin se_str (se_var 6 rfl (pv 6)) oAdd_ok) (se_var 6 rfl (pv 6))))) (fun _ => rfl) (fun x_some1 => ?_) | refine sb_set (r := fun x_some1 => [some x_deal_here, some x_letter, some j1.1, some j1.2, some x_some1, none, none]) 4 hN rfl (by first | exact .inl rfl | exact .inr rfl) (fun _ => rfl) (se_lc [("_law_test", 6)] (.one 6) rfl hN (blkOk_by rfl) (fun _ _ _ _ _ => pg_name (i := 6) hN rfl (by first | exact .inl rfl | exact .inr rfl)) (by decide) (si_iter (se_var 4 rfl (pv 4))) (bd_one (r := fun x_test => [some x_deal_here, some x_letter, some j1.1, some j1.2, some x_some, none, some x_test]) (fun _ => rfl) (fun x_test _ _ _ _ _ => (se_if (st_cmp (se_call (dds := []) (ok__law_draw T) (hr.mono (by omega)) rfl T.g__law_draw T.F__law_draw.kp T.b__law_draw .nil (fun _ => Reps.nil) (fun _ _ _ h => h.elim) (sa_cons (se_var 0 rfl (pv 0)) (sa_cons se_int sa_nil))) se_int (oEq_ok hu noOwn_ok)) (se_bin se_str (se_var 6 rfl (pv 6)) oAdd_ok) (se_var 6 rfl (pv 6)))))) (fun x_some1 => ?_)
      exact sb_ret (se_tup (sa_cons (se_var 1 rfl (pv 1)) (sa_cons (se_var 4 rfl (pv 4)) (sa_cons (se_lc [("_law_turn", 5)] (.one 5) rfl hN (blkOk_by rfl) (fun _ _ _ _ _ => pg_name (i := 5) hN rfl (by first | exact .inl rfl | exact .inr rfl)) (by decide) (si_range1 rfl T.z_range (se_call (dds := []) (ok__law_draw T) (hr.mono (by omega)) rfl T.g__law_draw T.F__law_draw.kp T.b__law_draw .nil (fun _ => Reps.nil) (hX _) (sa_cons (se_var 0 rfl (pv 0)) (sa_cons se_int sa_nil)))) (bd_one (r := fun x_turn1 => [some x_deal_here, some x_letter, some j1.1, some j1.2, some x_some1, some x_turn1, none]) (fun _ => rfl) (fun x_turn1 _ _ _ _ _ => (se_ix (se_var 3 rfl (pv 3)) (se_call (dds := []) (ok__law_draw T) (hr.mono (by omega)) rfl T.g__law_draw T.F__law_draw.kp T.b__law_draw .nil (fun _ => Reps.nil) (fun _ _ _ h => h.elim) (sa_cons (se_var 0 rfl (pv 0)) (sa_cons (se_callB (id := "len") rfl T.z_len (by decide +kernel) (sa_cons (se_var 3 rfl (pv 3)) sa_nil) (pLen_ok no1_ok)) sa_nil))))))) sa_nil)))) (fun _ _ h => h)
    · refine sb_asg (se_tup (sa_cons (se_bin (se_var 2 rfl (pv 2)) (se_lst (sa_cons se_str (sa_cons se_str sa_nil))) oAdd_ok) (sa_cons (se_bin (se_var 3 rfl (pv 3)) (se_lst (sa_cons se_str (sa_cons se_str sa_nil))) oAdd_ok) sa_nil))) (fun x_d1 => ?_)
      refine sg_two (r := fun x_tests1 x_deeds1 => [some x_deal_here, some x_letter, some x_tests1, some x_deeds1, none, none, none]) rfl (fun _ _ => (gs_cons 2 (pg_name (i := 2) hN rfl (by first | exact .inl rfl | exact .inr rfl)) (gs_cons 3 (pg_name (i := 3) hN rfl (by first | exact .inl rfl | exact .inr rfl)) gs_nil))) (fun x_tests1 x_deeds1 => ?_)
      exact sb_le hj1 (by walk_at "le")
    · exact sb_le hj1 (by walk_at "le")
def w__law_row_text_j2 (T : Tp P K mg) (x_words : D) (Qx : QX) (Q : QE) (j2 : Unit) : MB := mRet (eDrop (eStr1 (eVal (.str " ")) (eVal x_words) pJoin)) Q
def w__law_row_text_j1 (T : Tp P K mg) (x_deeds : D) (x_words : D) (Qx : QX) (Q : QE) (j1 : Unit) : MB := mIf (tBin (eVal x_deeds) (eArgs aNil pLst) (oNe noOwn)) (mExp (eL1 (eVal x_words) (eBin (eVal (.str "do ")) (eStr1 (eVal (.str " then ")) (eVal x_deeds) pJoin) oAdd) pApp) (w__law_row_text_j2 T x_words Qx Q ())) (w__law_row_text_j2 T x_words Qx Q ())
def w__law_row_text (T : Tp P K mg) (x_row_here : D) (Qx : QX) (Q : QE) : MB := mSet (eVal x_row_here) fun x_d => mUn3 x_d fun x_letter x_tests x_deeds => mSet (eArgs (aCons (eVal x_letter) aNil) pLstC) fun x_words => mIf (tBin (eVal x_tests) (eArgs aNil pLst) (oNe noOwn)) (mExp (eL1 (eVal x_words) (eBin (eVal (.str "if ")) (eStr1 (eVal (.str " and ")) (eVal x_tests) pJoin) oAdd) pApp) (w__law_row_text_j1 T x_deeds x_words Qx Q ())) (w__law_row_text_j1 T x_deeds x_words Qx Q ())
def fw__law_row_text (T : Tp P K mg) : FS := fun ds C Q Qx => match ds with
  | [x_row_here] => w__law_row_text T x_row_here Qx Q C
  | _ => False
theorem cl__law_row_text (T : Tp P K mg) {x_row_here : D} {Qx : QX} {C : Cells} {Q : QE} (h : w__law_row_text T x_row_here Qx Q C) : callW (fw__law_row_text T) Qx [x_row_here] C Q := call_all h
theorem ok__law_row_text (T : Tp P K mg) : FnG P w K mg base 1 T.f__law_row_text T.d__law_row_text ["_law_row_here"] (fw__law_row_text T) := by
  refine fnT T.F__law_row_text sc__law_row_text (fun ds C Q Qx h => ?_) (fun cdv A outer s H E X ds C Q hr h => ?_)
  · unfold fw__law_row_text at h; split at h
    · rfl
    · exact h.elim
  · unfold fw__law_row_text at h; split at h
    rotate_left
    · exact h.elim
    have hN := sc__law_row_text.nd
    have hu := hu_G hr
    have hg := hr.gd
    rename_i x_row_here
    generalize hQx : (fun cls fs C' => ∀ ρ, X.XQ cls fs ρ C' : QX) = Qx at h
    have hX : ∀ ρ cls fs C, Qx cls fs C → X.XQ cls fs ρ C := by subst hQx; exact fun ρ cls fs C h => h ρ
    clear hQx
    revert h; revert C
    show SB X _ [some x_row_here, none, none, none, none] (w__law_row_text T x_row_here Qx Q) _
    unfold w__law_row_text
    refine sb_asg (se_var 0 rfl (pv 0)) (fun x_d => ?_)
    refine sg_three (r := fun x_letter x_tests x_deeds => [some x_row_here, some x_letter, some x_tests, some x_deeds, none]) rfl (fun _ _ _ => (gs_cons 1 (pg_name (i := 1) hN rfl (by first | exact .inl rfl | exact .inr rfl)) (gs_cons 2 (pg_name (i := 2) hN rfl (by first | exact .inl rfl | exact .inr rfl)) (gs_cons 3 (pg_name (i := 3) hN rfl (by first | exact .inl rfl | exact .inr rfl)) gs_nil)))) (fun x_letter x_tests x_deeds => ?_)
    refine sb_set (r := fun x_words => [some x_row_here, some x_letter, some x_tests, some x_deeds, some x_words]) 4 hN rfl (by first | exact .inl rfl | exact .inr rfl) (fun _ => rfl) (se_lstC (sa_cons (se_var 1 rfl (pv 1)) sa_nil)) (fun x_words => ?_)
    refine sb_ifJ (α := Unit) (fun j1 => [some x_row_here, some x_letter, some x_tests, some x_deeds, some x_words]) (w__law_row_text_j1 T x_deeds x_words Qx Q) (st_cmp (se_var 2 rfl (pv 2)) (se_lst sa_nil) (oNe_ok hu noOwn_ok)) (fun j1 => ?_) (fun W hj1 => ?_) (fun W hj1 => ?_)
    · unfold w__law_row_text_j1
      refine sb_ifJ (α := Unit) (fun j2 => [some x_row_here, some x_letter, some x_tests, some x_deeds, some x_words]) (w__law_row_text_j2 T x_words Qx Q) (st_cmp (se_var 3 rfl (pv 3)) (se_lst sa_nil) (oNe_ok hu noOwn_ok)) (fun j2 => ?_) (fun W hj2 => ?_) (fun W hj2 => ?_)
      · unfold w__law_row_text_j2
        exact sb_ret (se_drop (se_join se_str (se_var 4 rfl (pv 4)))) (fun _ _ h => h)
      · refine sb_exp (se_append (se_var 4 rfl (pv 4)) (se_bin se_str (se_join se_str (se_var 3 rfl (pv 3))) oAdd_ok)) ?_
        exact sb_le hj2 (by walk_at "le")
      · exact sb_le hj2 (by walk_at "le")
    · refine sb_exp (se_append (se_var 4 rfl (pv 4)) (se_bin se_str (se_join se_str (se_var 2 rfl (pv 2))) oAdd_ok)) ?_
      exact sb_le hj1 (by walk_at "le")
    · exact sb_le hj1 (by walk_at "le")
def w__law_is_text_j3 (T : Tp P K mg) (x_words : D) (Qx : QX) (Q : QE) (j3 : D) : MB := mRet (eBin (eVal j3) (eArgs (aCons (eVal x_words) aNil) (on1 (pLen1 no1))) (oEq noOwn)) Q
def w__law_is_text_t4 (T : Tp P K mg)  (Qx : QX) (Q : QE) (s4 : D × D) : MT := (tVal (eVal s4.2))
def w__law_is_text_a6 (T : Tp P K mg) (x_words : D) (Qx : QX) (Q : QE) (s4 : D × D) : MB := w__law_is_text_j3 T x_words Qx Q s4.1
def w__law_is_text_l5 (T : Tp P K mg) (x_words : D) (j1 : D × D) (Qx : QX) (Q : QE) (s4 : D × D) (nx4 : (D × D) → MB) (bk4 : (D × D) → MB) : MB := mSet (eBin (eVal s4.1) (eVal (.int 1)) oAdd) fun x_at1 => mIf (tOr (tBin (eVal x_at1) (eArgs (aCons (eVal x_words) aNil) (on1 (pLen1 no1))) oGe) (tBin (eBin (eVal x_words) (eVal x_at1) pIx) (eVal j1.2) oNotIn)) (mRet (eVal (.bl false)) Q) (mSet (eBin (eVal x_at1) (eVal (.int 1)) oAdd) fun x_at2 => mSet (eBin (eSl (eVal x_words) (oSome (eBin (eVal x_at1) (eVal (.int 1)) oAdd)) (oSome (eBin (eVal x_at1) (eVal (.int 2)) oAdd))) (eArgs (aCons (eVal (.str "then")) aNil) pLst) (oEq noOwn)) fun x_going1 => mPart (nx4 (x_at2, x_going1)))
def w__law_is_text_j2 (T : Tp P K mg) (x_words : D) (j1 : D × D) (Qx : QX) (Q : QE) (j2 : D) : MB := mIf (tBin (eSl (eVal x_words) (oSome (eVal j2)) (oSome (eBin (eVal j2) (eVal (.int 1)) oAdd))) (eArgs (aCons (eVal (.str "do")) aNil) pLst) (oEq noOwn)) (mSet (eVal (.bl true)) fun x_going => mWhile (α := D × D) (w__law_is_text_t4 T Qx Q) (w__law_is_text_l5 T x_words j1 Qx Q) (j2, x_going) (w__law_is_text_a6 T x_words Qx Q)) (w__law_is_text_j3 T x_words Qx Q j2)
def w__law_is_text_t7 (T : Tp P K mg)  (Qx : QX) (Q : QE) (s7 : D × D) : MT := (tVal (eVal s7.2))
def w__law_is_text_a9 (T : Tp P K mg) (x_words : D) (j1 : D × D) (Qx : QX) (Q : QE) (s7 : D × D) : MB := w__law_is_text_j2 T x_words j1 Qx Q s7.1
def w__law_is_text_l8 (T : Tp P K mg) (x_words : D) (j1 : D × D) (Qx : QX) (Q : QE) (s7 : D × D) (nx7 : (D × D) → MB) (bk7 : (D × D) → MB) : MB := mSet (eIf (tBin (eSl (eVal x_words) (oSome (eBin (eVal s7.1) (eVal (.int 1)) oAdd)) (oSome (eBin (eVal s7.1) (eVal (.int 2)) oAdd))) (eArgs (aCons (eVal (.str "not")) aNil) pLst) (oEq noOwn)) (eBin (eVal s7.1) (eVal (.int 2)) oAdd) (eBin (eVal s7.1) (eVal (.int 1)) oAdd)) fun x_at3 => mIf (tOr (tBin (eVal x_at3) (eArgs (aCons (eVal x_words) aNil) (on1 (pLen1 no1))) oGe) (tBin (eBin (eVal x_words) (eVal x_at3) pIx) (eVal j1.1) oNotIn)) (mRet (eVal (.bl false)) Q) (mSet (eBin (eVal x_at3) (eVal (.int 1)) oAdd) fun x_at4 => mSet (eBin (eSl (eVal x_words) (oSome (eBin (eVal x_at3) (eVal (.int 1)) oAdd)) (oSome (eBin (eVal x_at3) (eVal (.int 2)) oAdd))) (eArgs (aCons (eVal (.str "and")) aNil) pLst) (oEq noOwn)) fun x_going3 => mPart (nx7 (x_at4, x_going3)))
def w__law_is_text_j1 (T : Tp P K mg) (x_words : D) (Qx : QX) (Q : QE) (j1 : D × D) : MB := mSet (eVal (.int 1)) fun x_at => mIf (tBin (eSl (eVal x_words) (oSome (eVal x_at)) (oSome (eBin (eVal x_at) (eVal (.int 1)) oAdd))) (eArgs (aCons (eVal (.str "if")) aNil) pLst) (oEq noOwn)) (mSet (eVal (.bl true)) fun x_going2 => mWhile (α := D × D) (w__law_is_text_t7 T Qx Q) (w__law_is_text_l8 T x_words j1 Qx Q) (x_at, x_going2) (w__law_is_text_a9 T x_words j1 Qx Q)) (w__law_is_text_j2 T x_words j1 Qx Q x_at)
def w__law_is_text (T : Tp P K mg) (x_text : D) (Qx : QX) (Q : QE) : MB := mSet (eStr1 (eVal x_text) (eVal (.str " ")) pSplit) fun x_words => mIf (tBin (eBin (eVal x_words) (eVal (.int 0)) pIx) (eArgs (aCons (eVal (.str "yes")) (aCons (eVal (.str "no")) (aCons (eVal (.str "list")) aNil))) pTup) oNotIn) (mRet (eVal (.bl false)) Q) (mSet (eArgs (aCons (eVal (.str "old")) (aCons (eVal (.str "all")) (aCons (eVal (.str "open")) (aCons (eVal (.str "same")) aNil)))) pLst) fun x_tests => mSet (eArgs (aCons (eVal (.str "take")) (aCons (eVal (.str "sweep")) (aCons (eVal (.str "clear")) aNil))) pLst) fun x_deeds => mIf (tBin (eBin (eVal x_words) (eVal (.int 0)) pIx) (eVal (.str "list")) (oNe noOwn)) (mSet (eBin (eVal x_tests) (eArgs (aCons (eVal (.str "first")) (aCons (eVal (.str "gone")) aNil)) pLst) oAdd) fun x_tests1 => mSet (eBin (eVal x_deeds) (eArgs (aCons (eVal (.str "do")) (aCons (eVal (.str "drop")) aNil)) pLst) oAdd) fun x_deeds1 => w__law_is_text_j1 T x_words Qx Q (x_tests1, x_deeds1)) (w__law_is_text_j1 T x_words Qx Q (x_tests, x_deeds)))
def fw__law_is_text (T : Tp P K mg) : FS := fun ds C Q Qx => match ds with
  | [x_text] => w__law_is_text T x_text Qx Q C
  | _ => False
theorem cl__law_is_text (T : Tp P K mg) {x_text : D} {Qx : QX} {C : Cells} {Q : QE} (h : w__law_is_text T x_text Qx Q C) : callW (fw__law_is_text T) Qx [x_text] C Q := call_all h
theorem ok__law_is_text (T : Tp P K mg) : FnG P w K mg base 1 T.f__law_is_text T.d__law_is_text ["_law_text"] (fw__law_is_text T) := by
  refine fnT T.F__law_is_text sc__law_is_text (fun ds C Q Qx h => ?_) (fun cdv A outer s H E X ds C Q hr h => ?_)
  · unfold fw__law_is_text at h; split at h
    · rfl
    · exact h.elim
  · unfold fw__law_is_text at h; split at h
    rotate_left
    · exact h.elim
    have hN := sc__law_is_text.nd
    have hu := hu_G hr
    have hg := hr.gd
    rename_i x_text
    generalize hQx : (fun cls fs C' => ∀ ρ, X.XQ cls fs ρ C' : QX) = Qx at h
    have hX : ∀ ρ cls fs C, Qx cls fs C → X.XQ cls fs ρ C := by subst hQx; exact fun ρ cls fs C h => h ρ
    clear hQx
    revert h; revert C
    show SB X _ [some x_text, none, none, none, none, none] (w__law_is_text T x_text Qx Q) _
    unfold w__law_is_text
    refine sb_set (r := fun x_words => [some x_text, some x_words, none, none, none, none]) 1 hN rfl (by first | exact .inl rfl | exact .inr rfl) (fun _ => rfl) (se_split (se_var 0 rfl (pv 0)) se_str) (fun x_words => ?_)
    refine sb_if (st_cmp (se_ix (se_var 1 rfl (pv 1)) se_int) (se_tup (sa_cons se_str (sa_cons se_str (sa_cons se_str sa_nil)))) oNotIn_ok) ?_ ?_
    · exact sb_ret se_bl (fun _ _ h => h)
    · refine sb_more ?_
      refine sb_par (r := fun x_tests x_deeds => [some x_text, some x_words, some x_tests, some x_deeds, none, none]) 2 3 hN rfl rfl (by decide) rfl rfl rfl (se_lst (sa_cons se_str (sa_cons se_str (sa_cons se_str (sa_cons se_str sa_nil))))) (se_lst (sa_cons se_str (sa_cons se_str (sa_cons se_str sa_nil)))) (fun _ _ => rfl) (fun x_tests x_deeds => ?_)
      refine sb_ifJ (α := D × D) (fun j1 => [some x_text, some x_words, some j1.1, some j1.2, none, none]) (w__law_is_text_j1 T x_words Qx Q) (st_cmp (se_ix (se_var 1 rfl (pv 1)) se_int) se_str (oNe_ok hu noOwn_ok)) (fun j1 => ?_) (fun W hj1 => ?_) (fun W hj1 => ?_)
      · unfold w__law_is_text_j1
        refine sb_set (r := fun x_at => [some x_text, some x_words, some j1.1, some j1.2, some x_at, none]) 4 hN rfl (by first | exact .inl rfl | exact .inr rfl) (fun _ => rfl) se_int (fun x_at => ?_)
        refine sb_ifJ (α := D) (fun j2 => [some x_text, some x_words, some j1.1, some j1.2, some j2, none]) (w__law_is_text_j2 T x_words j1 Qx Q) (st_cmp (se_slice (se_var 1 rfl (pv 1)) (so_some (se_var 4 rfl (pv 4))) (so_some (se_bin (se_var 4 rfl (pv 4)) se_int oAdd_ok))) (se_lst (sa_cons se_str sa_nil)) (oEq_ok hu noOwn_ok)) (fun j2 => ?_) (fun W hj2 => ?_) (fun W hj2 => ?_)
        · unfold w__law_is_text_j2
          refine sb_ifJ (α := D) (fun j3 => [some x_text, some x_words, some j1.1, some j1.2, some j3, none]) (w__law_is_text_j3 T x_words Qx Q) (st_cmp (se_slice (se_var 1 rfl (pv 1)) (so_some (se_var 4 rfl (pv 4))) (so_some (se_bin (se_var 4 rfl (pv 4)) se_int oAdd_ok))) (se_lst (sa_cons se_str sa_nil)) (oEq_ok hu noOwn_ok)) (fun j3 => ?_) (fun W hj3 => ?_) (fun W hj3 => ?_)
          · unfold w__law_is_text_j3
            exact sb_ret (se_cmp (se_var 4 rfl (pv 4)) (se_callB (id := "len") rfl T.z_len (by decide +kernel) (sa_cons (se_var 1 rfl (pv 1)) sa_nil) (pLen_ok no1_ok)) (oEq_ok hu noOwn_ok)) (fun _ _ h => h)
          · refine sb_set (r := fun x_going => [some x_text, some x_words, some j1.1, some j1.2, some j2, some x_going]) 5 hN rfl (by first | exact .inl rfl | exact .inr rfl) (fun _ => rfl) se_bl (fun x_going => ?_)
            refine sb_while (α := D × D) (fun s4 => [some x_text, some x_words, some j1.1, some j1.2, some s4.1, some s4.2]) (by walk_at "le") (fun s4 => ?_) (fun s4 nx4 bk4 W V hW4 hV4 => ?_) (fun s4 => ?_)
            · unfold w__law_is_text_t4
              exact (st_val (se_var 5 rfl (pv 5)))
            · unfold w__law_is_text_l5
              refine sb_set (r := fun x_at1 => [some x_text, some x_words, some j1.1, some j1.2, some x_at1, some s4.2]) 4 hN rfl (by first | exact .inl rfl | exact .inr rfl) (fun _ => rfl) (se_bin (se_var 4 rfl (pv 4)) se_int oAdd_ok) (fun x_at1 => ?_)
              refine sb_if (st_p (sp_or (st_cmp (se_var 4 rfl (pv 4)) (se_callB (id := "len") rfl T.z_len (by decide +kernel) (sa_cons (se_var 1 rfl (pv 1)) sa_nil) (pLen_ok no1_ok)) oGe_ok) (sp_or1 (st_cmp (se_ix (se_var 1 rfl (pv 1)) (se_var 4 rfl (pv 4))) (se_var 3 rfl (pv 3)) oNotIn_ok)))) ?_ ?_
              · exact sb_ret se_bl (fun _ _ h => h)
              · refine sb_more ?_
                refine sb_par (r := fun x_at2 x_going1 => [some x_text, some x_words, some j1.1, some j1.2, some x_at2, some x_going1]) 4 5 hN rfl rfl (by decide) rfl rfl rfl (se_bin (se_var 4 rfl (pv 4)) se_int oAdd_ok) (se_cmp (se_slice (se_var 1 rfl (pv 1)) (so_some (se_bin (se_var 4 rfl (pv 4)) se_int oAdd_ok)) (so_some (se_bin (se_var 4 rfl (pv 4)) se_int oAdd_ok))) (se_lst (sa_cons se_str sa_nil)) (oEq_ok hu noOwn_ok)) (fun _ _ => rfl) (fun x_at2 x_going1 => ?_)
                refine sb_part ?_
                exact sb_le hW4 (by walk_at "le")
            · unfold w__law_is_text_a6
              exact sb_le hj3 (by walk_at "le")
          · exact sb_le hj3 (by walk_at "le")
        · refine sb_set (r := fun x_going2 => [some x_text, some x_words, some j1.1, some j1.2, some x_at, some x_going2]) 5 hN rfl (by first | exact .inl rfl | exact .inr rfl) (fun _ => rfl) se_bl (fun x_going2 => ?_)
          refine sb_while (α := D × D) (fun s7 => [some x_text, some x_words, some j1.1, some j1.2, some s7.1, some s7.2]) (by walk_at "le") (fun s7 => ?_) (fun s7 nx7 bk7 W V hW7 hV7 => ?_) (fun s7 => ?_)
          · unfold w__law_is_text_t7
            exact (st_val (se_var 5 rfl (pv 5)))
          · unfold w__law_is_text_l8
            refine sb_set (r := fun x_at3 => [some x_text, some x_words, some j1.1, some j1.2, some x_at3, some s7.2]) 4 hN rfl (by first | exact .inl rfl | exact .inr rfl) (fun _ => rfl) (se_if (st_cmp (se_slice (se_var 1 rfl (pv 1)) (so_some (se_bin (se_var 4 rfl (pv 4)) se_int oAdd_ok)) (so_some (se_bin (se_var 4 rfl (pv 4)) se_int oAdd_ok))) (se_lst (sa_cons se_str sa_nil)) (oEq_ok hu noOwn_ok)) (se_bin (se_var 4 rfl (pv 4)) se_int oAdd_ok) (se_bin (se_var 4 rfl (pv 4)) se_int oAdd_ok)) (fun x_at3 => ?_)
            refine sb_if (st_p (sp_or (st_cmp (se_var 4 rfl (pv 4)) (se_callB (id := "len") rfl T.z_len (by decide +kernel) (sa_cons (se_var 1 rfl (pv 1)) sa_nil) (pLen_ok no1_ok)) oGe_ok) (sp_or1 (st_cmp (se_ix (se_var 1 rfl (pv 1)) (se_var 4 rfl (pv 4))) (se_var 2 rfl (pv 2)) oNotIn_ok)))) ?_ ?_
            · exact sb_ret se_bl (fun _ _ h => h)
            · refine sb_more ?_
              refine sb_par (r := fun x_at4 x_going3 => [some x_text, some x_words, some j1.1, some j1.2, some x_at4, some x_going3]) 4 5 hN rfl rfl (by decide) rfl rfl rfl (se_bin (se_var 4 rfl (pv 4)) se_int oAdd_ok) (se_cmp (se_slice (se_var 1 rfl (pv 1)) (so_some (se_bin (se_var 4 rfl (pv 4)) se_int oAdd_ok)) (so_some (se_bin (se_var 4 rfl (pv 4)) se_int oAdd_ok))) (se_lst (sa_cons se_str sa_nil)) (oEq_ok hu noOwn_ok)) (fun _ _ => rfl) (fun x_at4 x_going3 => ?_)
              refine sb_part ?_
              exact sb_le hW7 (by walk_at "le")
          · unfold w__law_is_text_a9
            exact sb_le hj2 (by walk_at "le")
        · exact sb_le hj2 (by walk_at "le")
      · refine sb_par (r := fun x_tests1 x_deeds1 => [some x_text, some x_words, some x_tests1, some x_deeds1, none, none]) 2 3 hN rfl rfl (by decide) rfl rfl rfl (se_bin (se_var 2 rfl (pv 2)) (se_lst (sa_cons se_str (sa_cons se_str sa_nil))) oAdd_ok) (se_bin (se_var 3 rfl (pv 3)) (se_lst (sa_cons se_str (sa_cons se_str sa_nil))) oAdd_ok) (fun _ _ => rfl) (fun x_tests1 x_deeds1 => ?_)
        exact sb_le hj1 (by walk_at "le")
      · exact sb_le hj1 (by walk_at "le")
def w__law_bent_j1 (T : Tp P K mg)  (Qx : QX) (Q : QE) (j1 : D) : MB := mRet (eDrop (eStr1 (eVal (.str " ")) (eVal j1) pJoin)) Q
def w__law_bent (T : Tp P K mg) (x_deal_here x_text : D) (Qx : QX) (Q : QE) : MB := mSet (eStr1 (eVal x_text) (eVal (.str " ")) pSplitC) fun x_words => mSet (eArgs (aCons (eVal x_deal_here) (aCons (eVal (.int 5)) aNil)) fun ds => callW (fw__law_draw T) Qx (ds ++ [])) fun x_form => mSet (eArgs (aCons (eVal x_deal_here) (aCons (eArgs (aCons (eVal x_words) aNil) (on1 (pLen1 no1))) aNil)) fun ds => callW (fw__law_draw T) Qx (ds ++ [])) fun x_at => mSet (eArgs (aCons (eVal (.str "")) (aCons (eVal (.str "if")) (aCons (eVal (.str "do")) (aCons (eVal (.str "and")) (aCons (eVal (.str "then")) (aCons (eVal (.str "not")) (aCons (eVal (.str "old")) (aCons (eVal (.str "take")) (aCons (eVal (.str "first")) (aCons (eVal (.str "drop")) (aCons (eVal (.str "list")) (aCons (eVal (.str "yes")) (aCons (eVal (.str "Take")) aNil))))))))))))) pLst) fun x_odd => mSet (eBin (eVal x_odd) (eArgs (aCons (eVal x_deal_here) (aCons (eVal (.int 13)) aNil)) fun ds => callW (fw__law_draw T) Qx (ds ++ [])) pIx) fun x_one => mIf (tBin (eVal x_form) (eVal (.int 0)) (oEq noOwn)) (mSet (eBin (eSl (eVal x_words) oNone (oSome (eVal x_at))) (eSl (eVal x_words) (oSome (eBin (eVal x_at) (eVal (.int 1)) oAdd)) oNone) oAddC) fun x_words1 => w__law_bent_j1 T Qx Q x_words1) (mIf (tBin (eVal x_form) (eVal (.int 1)) (oEq noOwn)) (mExp (eL2 (eVal x_words) (eVal x_at) (eBin (eVal x_words) (eVal x_at) pIx) pInsert) (w__law_bent_j1 T Qx Q x_words)) (mIf (tBin (eVal x_form) (eVal (.int 2)) (oEq noOwn)) (mSet (eBin (eBin (eSl (eVal x_words) oNone (oSome (eVal x_at))) (eArgs (aCons (eVal x_one) aNil) pLst) oAdd) (eSl (eVal x_words) (oSome (eBin (eVal x_at) (eVal (.int 1)) oAdd)) oNone) oAddC) fun x_words2 => w__law_bent_j1 T Qx Q x_words2) (mSet (eBin (eBin (eSl (eVal x_words) oNone (oSome (eVal x_at))) (eArgs (aCons (eVal x_one) aNil) pLst) oAdd) (eSl (eVal x_words) (oSome (eVal x_at)) oNone) oAddC) fun x_words3 => w__law_bent_j1 T Qx Q x_words3)))
def fw__law_bent (T : Tp P K mg) : FS := fun ds C Q Qx => match ds with
  | [x_deal_here, x_text] => w__law_bent T x_deal_here x_text Qx Q C
  | _ => False
theorem cl__law_bent (T : Tp P K mg) {x_deal_here x_text : D} {Qx : QX} {C : Cells} {Q : QE} (h : w__law_bent T x_deal_here x_text Qx Q C) : callW (fw__law_bent T) Qx [x_deal_here, x_text] C Q := call_all h
theorem ok__law_bent (T : Tp P K mg) : FnG P w K mg base 2 T.f__law_bent T.d__law_bent ["_law_deal_here", "_law_text"] (fw__law_bent T) := by
  refine fnT T.F__law_bent sc__law_bent (fun ds C Q Qx h => ?_) (fun cdv A outer s H E X ds C Q hr h => ?_)
  · unfold fw__law_bent at h; split at h
    · rfl
    · exact h.elim
  · unfold fw__law_bent at h; split at h
    rotate_left
    · exact h.elim
    have hN := sc__law_bent.nd
    have hu := hu_G hr
    have hg := hr.gd
    rename_i x_deal_here x_text
    generalize hQx : (fun cls fs C' => ∀ ρ, X.XQ cls fs ρ C' : QX) = Qx at h
    have hX : ∀ ρ cls fs C, Qx cls fs C → X.XQ cls fs ρ C := by subst hQx; exact fun ρ cls fs C h => h ρ
    clear hQx
    revert h; revert C
    show SB X _ [some x_deal_here, some x_text, none, none, none, none, none] (w__law_bent T x_deal_here x_text Qx Q) _
    unfold w__law_bent
    refine sb_par (r := fun x_words x_form => [some x_deal_here, some x_text, some x_words, some x_form, none, none, none]) 2 3 hN rfl rfl (by decide) rfl rfl rfl (se_splitC (se_var 1 rfl (pv 1)) se_str) (se_call (dds := []) (ok__law_draw T) (hr.mono (by omega)) rfl T.g__law_draw T.F__law_draw.kp T.b__law_draw .nil (fun _ => Reps.nil) (hX _) (sa_cons (se_var 0 rfl (pv 0)) (sa_cons se_int sa_nil))) (fun _ _ => rfl) (fun x_words x_form => ?_)
    refine sb_set (r := fun x_at => [some x_deal_here, some x_text, some x_words, some x_form, some x_at, none, none]) 4 hN rfl (by first | exact .inl rfl | exact .inr rfl) (fun _ => rfl) (se_call (dds := []) (ok__law_draw T) (hr.mono (by omega)) rfl T.g__law_draw T.F__law_draw.kp T.b__law_draw .nil (fun _ => Reps.nil) (hX _) (sa_cons (se_var 0 rfl (pv 0)) (sa_cons (se_callB (id := "len") rfl T.z_len (by decide +kernel) (sa_cons (se_var 2 rfl (pv 2)) sa_nil) (pLen_ok no1_ok)) sa_nil))) (fun x_at => ?_)
    refine sb_set (r := fun x_odd => [some x_deal_here, some x_text, some x_words, some x_form, some x_at, some x_odd, none]) 5 hN rfl (by first | exact .inl rfl | exact .inr rfl) (fun _ => rfl) (se_lst (sa_cons se_str (sa_cons se_str (sa_cons se_str (sa_cons se_str (sa_cons se_str (sa_cons se_str (sa_cons se_str (sa_cons se_str (sa_cons se_str (sa_cons se_str (sa_cons se_str (sa_cons se_str (sa_cons se_str sa_nil)))))))))))))) (fun x_odd => ?_)
    refine sb_set (r := fun x_one => [some x_deal_here, some x_text, some x_words, some x_form, some x_at, some x_odd, some x_one]) 6 hN rfl (by first | exact .inl rfl | exact .inr rfl) (fun _ => rfl) (se_ix (se_var 5 rfl (pv 5)) (se_call (dds := []) (ok__law_draw T) (hr.mono (by omega)) rfl T.g__law_draw T.F__law_draw.kp T.b__law_draw .nil (fun _ => Reps.nil) (hX _) (sa_cons (se_var 0 rfl (pv 0)) (sa_cons se_int sa_nil)))) (fun x_one => ?_)
    refine sb_ifJ (α := D) (fun j1 => [some x_deal_here, some x_text, some j1, some x_form, some x_at, some x_odd, some x_one]) (w__law_bent_j1 T Qx Q) (st_cmp (se_var 3 rfl (pv 3)) se_int (oEq_ok hu noOwn_ok)) (fun j1 => ?_) (fun W hj1 => ?_) (fun W hj1 => ?_)
    · unfold w__law_bent_j1
      exact sb_ret (se_drop (se_join se_str (se_var 2 rfl (pv 2)))) (fun _ _ h => h)
    · refine sb_set (r := fun x_words1 => [some x_deal_here, some x_text, some x_words1, some x_form, some x_at, some x_odd, some x_one]) 2 hN rfl (by first | exact .inl rfl | exact .inr rfl) (fun _ => rfl) (se_bin (se_slice (se_var 2 rfl (pv 2)) so_none (so_some (se_var 4 rfl (pv 4)))) (se_slice (se_var 2 rfl (pv 2)) (so_some (se_bin (se_var 4 rfl (pv 4)) se_int oAdd_ok)) so_none) oAddC_ok) (fun x_words1 => ?_)
      exact sb_le hj1 (by walk_at "le")
    · refine sb_if (st_cmp (se_var 3 rfl (pv 3)) se_int (oEq_ok hu noOwn_ok)) ?_ ?_
      · refine sb_exp (se_insert (se_var 2 rfl (pv 2)) (se_var 4 rfl (pv 4)) (se_ix (se_var 2 rfl (pv 2)) (se_var 4 rfl (pv 4)))) ?_
        refine sb_more ?_
        exact sb_le hj1 (by walk_at "le")
      · refine sb_if (st_cmp (se_var 3 rfl (pv 3)) se_int (oEq_ok hu noOwn_ok)) ?_ ?_
        · refine sb_set (r := fun x_words2 => [some x_deal_here, some x_text, some x_words2, some x_form, some x_at, some x_odd, some x_one]) 2 hN rfl (by first | exact .inl rfl | exact .inr rfl) (fun _ => rfl) (se_bin (se_bin (se_slice (se_var 2 rfl (pv 2)) so_none (so_some (se_var 4 rfl (pv 4)))) (se_lst (sa_cons (se_var 6 rfl (pv 6)) sa_nil)) oAdd_ok) (se_slice (se_var 2 rfl (pv 2)) (so_some (se_bin (se_var 4 rfl (pv 4)) se_int oAdd_ok)) so_none) oAddC_ok) (fun x_words2 => ?_)
          refine sb_more ?_
          refine sb_more ?_
          exact sb_le hj1 (by walk_at "le")
        · refine sb_set (r := fun x_words3 => [some x_deal_here, some x_text, some x_words3, some x_form, some x_at, some x_odd, some x_one]) 2 hN rfl (by first | exact .inl rfl | exact .inr rfl) (fun _ => rfl) (se_bin (se_bin (se_slice (se_var 2 rfl (pv 2)) so_none (so_some (se_var 4 rfl (pv 4)))) (se_lst (sa_cons (se_var 6 rfl (pv 6)) sa_nil)) oAdd_ok) (se_slice (se_var 2 rfl (pv 2)) (so_some (se_var 4 rfl (pv 4))) so_none) oAddC_ok) (fun x_words3 => ?_)
          refine sb_more ?_
          refine sb_more ?_
          exact sb_le hj1 (by walk_at "le")
def w_law_a2 (T : Tp P K mg)  (Qx : QX) (Q : QE) (s1 : Unit) : MB := mSet (eArgs (aCons (eVal (.str "")) (aCons (eVal (.str " yes")) (aCons (eVal (.str "yes ")) (aCons (eVal (.str "yes\n")) (aCons (eVal (.str "yes if")) (aCons (eVal (.str "yes do")) (aCons (eVal (.str "yes if do take")) (aCons (eVal (.str "yes do then")) (aCons (eVal (.str "list if first")) aNil))))))))) pLstC) fun x_odd => mExp (eL1 (eVal x_odd) (eVal (.str "list do do")) pApp) (mRet (eDrop (eBin (eLc1 (iApp (eVal x_odd) pIter) (fun x_text => (tBin (eArgs (aCons (eVal x_text) aNil) fun ds => callW (fw__law_heard T) (fun _ _ _ => False) (ds ++ [])) (eArgs (aCons (eVal (.str "text")) (aCons (eVal (.int 0)) (aCons (eVal (.bl true)) aNil))) pTup) (oNe noOwn))) (fun x_text => (eVal x_text))) (eArgs aNil pLst) (oEq noOwn))) Q)
def w_law_j3 (T : Tp P K mg) (nx1 : (Unit) → MB) (Qx : QX) (Q : QE) (j3 : D) : MB := mIf (tBin (eArgs (aCons (eVal j3) aNil) fun ds => callW (fw__law_heard T) Qx (ds ++ [])) (eIf (tVal (eArgs (aCons (eVal j3) aNil) fun ds => callW (fw__law_is_text T) Qx (ds ++ []))) (eVal j3) (eArgs (aCons (eVal (.str "text")) (aCons (eVal (.int 0)) (aCons (eVal (.bl true)) aNil))) pTup)) (oNe noOwn)) (mRet (eDrop (eVal (.bl false))) Q) (mPart (nx1 ()))
def w_law_l1 (T : Tp P K mg) (x_deal_here : D) (Qx : QX) (Q : QE) (d1 : D) (s1 : Unit) (nx1 : (Unit) → MB) (bk1 : (Unit) → MB) : MB := mSet (eArgs (aCons (eVal x_deal_here) aNil) fun ds => callW (fw__law_row T) Qx (ds ++ [])) fun x_d => mUn3 x_d fun x_letter x_tests x_deeds => mSet (eArgs (aCons (eArgs (aCons (eVal x_letter) (aCons (eSl (eVal x_tests) oNone (oSome (eVal (.int 3)))) (aCons (eSl (eVal x_deeds) oNone (oSome (eVal (.int 3)))) aNil))) pTup) aNil) fun ds => callW (fw__law_row_text T) Qx (ds ++ [])) fun x_text1 => mIf (tOr (tBin (eArgs (aCons (eVal x_text1) aNil) fun ds => callW (fw__law_heard T) Qx (ds ++ [])) (eVal x_text1) (oNe noOwn)) (tNot (tVal (eArgs (aCons (eVal x_text1) aNil) fun ds => callW (fw__law_is_text T) Qx (ds ++ []))))) (mRet (eDrop (eVal (.bl false))) Q) (mSet (eArgs (aCons (eVal x_deal_here) (aCons (eVal x_text1) aNil)) fun ds => callW (fw__law_bent T) Qx (ds ++ [])) fun x_text2 => mIf (tBin (eArgs (aCons (eVal x_deal_here) (aCons (eVal (.int 3)) aNil)) fun ds => callW (fw__law_draw T) Qx (ds ++ [])) (eVal (.int 0)) (oEq noOwn)) (mSet (eArgs (aCons (eVal x_deal_here) (aCons (eVal x_text2) aNil)) fun ds => callW (fw__law_bent T) Qx (ds ++ [])) fun x_text3 => w_law_j3 T nx1 Qx Q x_text3) (w_law_j3 T nx1 Qx Q x_text2))
def w_law (T : Tp P K mg) (x_script : D) (Qx : QX) (Q : QE) : MB := mSet (eArgs (aCons (eVal x_script) (aCons (eVal (.int 0)) aNil)) fun ds => callW (fw__law_deal T) Qx (ds ++ [])) fun x_deal_here => mFor (α := Unit) (iApp (eVal (.int 16)) pRange1) (w_law_l1 T x_deal_here Qx Q) () (w_law_a2 T Qx Q)
def fw_law (T : Tp P K mg) : FS := fun ds C Q Qx => match ds with
  | [x_script] => w_law T x_script Qx Q C
  | _ => False
theorem ok_law (T : Tp P K mg) : FnG P w K mg base 7 T.f_law T.d_law ["_law_script"] (fw_law T) := by
  refine fnT T.F_law sc_law (fun ds C Q Qx h => ?_) (fun cdv A outer s H E X ds C Q hr h => ?_)
  · unfold fw_law at h; split at h
    · rfl
    · exact h.elim
  · unfold fw_law at h; split at h
    rotate_left
    · exact h.elim
    have hN := sc_law.nd
    have hu := hu_G hr
    have hg := hr.gd
    rename_i x_script
    generalize hQx : (fun cls fs C' => ∀ ρ, X.XQ cls fs ρ C' : QX) = Qx at h
    have hX : ∀ ρ cls fs C, Qx cls fs C → X.XQ cls fs ρ C := by subst hQx; exact fun ρ cls fs C h => h ρ
    clear hQx
    revert h; revert C
    show SB X _ [some x_script, none, none, none, none, none, none, none] (w_law T x_script Qx Q) _
    unfold w_law
    refine sb_set (r := fun x_deal_here => [some x_script, some x_deal_here, none, none, none, none, none, none]) 1 hN rfl (by first | exact .inl rfl | exact .inr rfl) (fun _ => rfl) (se_call (dds := []) (ok__law_deal T) (hr.mono (by omega)) rfl T.g__law_deal T.F__law_deal.kp T.b__law_deal .nil (fun _ => Reps.nil) (hX _) (sa_cons (se_var 0 rfl (pv 0)) (sa_cons se_int sa_nil))) (fun x_deal_here => ?_)
    refine sb_for (α := Unit) (fun s1 => [some x_script, some x_deal_here, none, none, none, none, none, none]) rfl (si_range1 rfl T.z_range se_int) (by walk_at "le") (fun d1 s1 nx1 bk1 W V hW1 hV1 => ?_) (fun s1 => ?_)
    · unfold w_law_l1
      refine sg_name (r := [some x_script, some x_deal_here, some d1, none, none, none, none, none]) 2 rfl ?_ (pg_name (i := 2) hN rfl (by first | exact .inl rfl | exact .inr rfl))
      refine sb_asg (se_call (dds := []) (ok__law_row T) (hr.mono (by omega)) rfl T.g__law_row T.F__law_row.kp T.b__law_row .nil (fun _ => Reps.nil) (hX _) (sa_cons (se_var 1 rfl (pv 1)) sa_nil)) (fun x_d => ?_)
      refine sg_three (r := fun x_letter x_tests x_deeds => [some x_script, some x_deal_here, some d1, some x_letter, some x_tests, some x_deeds, none, none]) rfl (fun _ _ _ => (gs_cons 3 (pg_name (i := 3) hN rfl (by first | exact .inl rfl | exact .inr rfl)) (gs_cons 4 (pg_name (i := 4) hN rfl (by first | exact .inl rfl | exact .inr rfl)) (gs_cons 5 (pg_name (i := 5) hN rfl (by first | exact .inl rfl | exact .inr rfl)) gs_nil)))) (fun x_letter x_tests x_deeds => ?_)
      refine sb_set (r := fun x_text1 => [some x_script, some x_deal_here, some d1, some x_letter, some x_tests, some x_deeds, some x_text1, none]) 6 hN rfl (by first | exact .inl rfl | exact .inr rfl) (fun _ => rfl) (se_call (dds := []) (ok__law_row_text T) (hr.mono (by omega)) rfl T.g__law_row_text T.F__law_row_text.kp T.b__law_row_text .nil (fun _ => Reps.nil) (hX _) (sa_cons (se_tup (sa_cons (se_var 3 rfl (pv 3)) (sa_cons (se_slice (se_var 4 rfl (pv 4)) so_none (so_some se_int)) (sa_cons (se_slice (se_var 5 rfl (pv 5)) so_none (so_some se_int)) sa_nil)))) sa_nil)) (fun x_text1 => ?_)
      refine sb_if (st_p (sp_or (st_cmp (se_call (dds := []) (ok__law_heard T) (hr.mono (by omega)) rfl T.g__law_heard T.F__law_heard.kp T.b__law_heard .nil (fun _ => Reps.nil) (hX _) (sa_cons (se_var 6 rfl (pv 6)) sa_nil)) (se_var 6 rfl (pv 6)) (oNe_ok hu noOwn_ok)) (sp_or1 (st_not (st_val (se_call (dds := []) (ok__law_is_text T) (hr.mono (by omega)) rfl T.g__law_is_text T.F__law_is_text.kp T.b__law_is_text .nil (fun _ => Reps.nil) (hX _) (sa_cons (se_var 6 rfl (pv 6)) sa_nil))))))) ?_ ?_
      · exact sb_ret (se_drop se_bl) (fun _ _ h => h)
      · refine sb_more ?_
        refine sb_set (r := fun x_text2 => [some x_script, some x_deal_here, some d1, some x_letter, some x_tests, some x_deeds, some x_text2, none]) 6 hN rfl (by first | exact .inl rfl | exact .inr rfl) (fun _ => rfl) (se_call (dds := []) (ok__law_bent T) (hr.mono (by omega)) rfl T.g__law_bent T.F__law_bent.kp T.b__law_bent .nil (fun _ => Reps.nil) (hX _) (sa_cons (se_var 1 rfl (pv 1)) (sa_cons (se_var 6 rfl (pv 6)) sa_nil))) (fun x_text2 => ?_)
        refine sb_ifJ (α := D) (fun j3 => [some x_script, some x_deal_here, some d1, some x_letter, some x_tests, some x_deeds, some j3, none]) (w_law_j3 T nx1 Qx Q) (st_cmp (se_call (dds := []) (ok__law_draw T) (hr.mono (by omega)) rfl T.g__law_draw T.F__law_draw.kp T.b__law_draw .nil (fun _ => Reps.nil) (hX _) (sa_cons (se_var 1 rfl (pv 1)) (sa_cons se_int sa_nil))) se_int (oEq_ok hu noOwn_ok)) (fun j3 => ?_) (fun W hj3 => ?_) (fun W hj3 => ?_)
        · unfold w_law_j3
          refine sb_if (st_cmp (se_call (dds := []) (ok__law_heard T) (hr.mono (by omega)) rfl T.g__law_heard T.F__law_heard.kp T.b__law_heard .nil (fun _ => Reps.nil) (hX _) (sa_cons (se_var 6 rfl (pv 6)) sa_nil)) (se_if (st_val (se_call (dds := []) (ok__law_is_text T) (hr.mono (by omega)) rfl T.g__law_is_text T.F__law_is_text.kp T.b__law_is_text .nil (fun _ => Reps.nil) (hX _) (sa_cons (se_var 6 rfl (pv 6)) sa_nil))) (se_var 6 rfl (pv 6)) (se_tup (sa_cons se_str (sa_cons se_int (sa_cons se_bl sa_nil))))) (oNe_ok hu noOwn_ok)) ?_ ?_
          · exact sb_ret (se_drop se_bl) (fun _ _ h => h)
          · refine sb_more ?_
            refine sb_part ?_
            exact sb_le hW1 (by walk_at "le")
        · refine sb_set (r := fun x_text3 => [some x_script, some x_deal_here, some d1, some x_letter, some x_tests, some x_deeds, some x_text3, none]) 6 hN rfl (by first | exact .inl rfl | exact .inr rfl) (fun _ => rfl) (se_call (dds := []) (ok__law_bent T) (hr.mono (by omega)) rfl T.g__law_bent T.F__law_bent.kp T.b__law_bent .nil (fun _ => Reps.nil) (hX _) (sa_cons (se_var 1 rfl (pv 1)) (sa_cons (se_var 6 rfl (pv 6)) sa_nil))) (fun x_text3 => ?_)
          exact sb_le hj3 (by walk_at "le")
        · exact sb_le hj3 (by walk_at "le")
    · unfold w_law_a2
      refine sb_set (r := fun x_odd => [some x_script, some x_deal_here, none, none, none, none, none, some x_odd]) 7 hN rfl (by first | exact .inl rfl | exact .inr rfl) (fun _ => rfl) (se_lstC (sa_cons se_str (sa_cons se_str (sa_cons se_str (sa_cons se_str (sa_cons se_str (sa_cons se_str (sa_cons se_str (sa_cons se_str (sa_cons se_str sa_nil)))))))))) (fun x_odd => ?_)
      refine sb_exp (se_append (se_var 7 rfl (pv 7)) se_str) ?_
      exact sb_ret (se_drop (se_cmp (se_lc1 [("_law_text", 6)] (.one 6) rfl hN (blkOk_by rfl) (fun _ _ _ _ _ => pg_name (i := 6) hN rfl (by first | exact .inl rfl | exact .inr rfl)) (by decide) (si_iter (se_var 7 rfl (pv 7))) (bdT_one (r := fun x_text => [some x_script, some x_deal_here, none, none, none, none, some x_text, some x_odd]) (fun _ => rfl) (fun x_text _ _ _ _ _ => (st_cmp (se_call (dds := []) (ok__law_heard T) (hr.mono (by omega)) rfl T.g__law_heard T.F__law_heard.kp T.b__law_heard .nil (fun _ => Reps.nil) (fun _ _ _ h => h.elim) (sa_cons (se_var 6 rfl (pv 6)) sa_nil)) (se_tup (sa_cons se_str (sa_cons se_int (sa_cons se_bl sa_nil)))) (oNe_ok hu noOwn_ok)))) (bd_one (r := fun x_text => [some x_script, some x_deal_here, none, none, none, none, some x_text, some x_odd]) (fun _ => rfl) (fun x_text _ _ _ _ _ => (se_var 6 rfl (pv 6))))) (se_lst sa_nil) (oEq_ok hu noOwn_ok))) (fun _ _ h => h)
end
end Kk

namespace Kk
open PySem L2 PySem.Spec PyProof.Rows Tr
set_option hygiene false
local macro_rules | `(tactic| walk_at "cell") => `(tactic| first | exact LstD.l | exact LstD.c (i := 0) rfl | exact LstD.c (i := 1) rfl | exact LstD.c (i := 2) rfl | exact LstD.c (i := 3) rfl | exact LstD.c (i := 4) rfl | exact LstD.c (i := 5) rfl | exact LstD.c (i := 6) rfl | exact LstD.c (i := 7) rfl | with_reducible assumption | walk_at "cellx")
local macro_rules | `(tactic| walk_at "sq") => `(tactic| first | exact SeqD.l | exact SeqD.t | exact SeqD.c (i := 0) rfl | exact SeqD.c (i := 1) rfl | exact SeqD.c (i := 2) rfl | exact SeqD.c (i := 3) rfl | exact SeqD.c (i := 4) rfl | exact SeqD.c (i := 5) rfl | exact SeqD.c (i := 6) rfl | exact SeqD.c (i := 7) rfl | with_reducible assumption | exact .inl (by walk_at "cellx"))
local macro_rules | `(tactic| walk_at "n") => `(tactic| first | with_reducible assumption | omega | (simp only [List.length_cons, List.length_nil, List.length_map, List.length_append, rangeD_len]; omega) | decide | (simp; done) | (simp; omega) | (simp at *; omega) | exact Or.inl ⟨by decide, by decide⟩ | exact Or.inr ⟨by decide, by decide⟩ | exact ⟨by decide, by decide⟩ | exact ⟨by decide, by decide, by decide⟩)
local macro_rules | `(tactic| walk_at "nm") => `(tactic| first | exact Or.inl (by decide) | exact Or.inr (by decide) | exact Or.inl (by omega) | exact Or.inr (by omega))
local macro_rules | `(tactic| walk_at "p") => `(tactic| first
  | ((with_reducible show oAdd _ _ _ _); first | with_reducible refine s_add_int ?_ | with_reducible refine s_add_str ?_ | with_reducible refine s_add_tup ?_ | with_reducible refine s_add_lst ?_ | refine s_add_cell (by walk_at "cell") (by walk_at "cell") ?_)
  | ((with_reducible show oAddO _ _ _ _ _); first | refine s_addO rfl ?_ | refine s_addOI ?_)
  | ((with_reducible show pIxO _ _ _ _ _ _ _); refine s_ixO rfl ?_)
  | ((with_reducible show oSub _ _ _ _); first | with_reducible refine s_sub ?_)
  | ((with_reducible show oMul _ _ _ _); first | with_reducible refine s_mul ?_)
  | ((with_reducible show oFdiv _ _ _ _); first | with_reducible refine s_fdiv ?_)
  | ((with_reducible show oMod _ _ _ _); first | with_reducible refine s_mod ?_)
  | ((with_reducible show oPow _ _ _ _); first | with_reducible refine s_pow ?_)
  | ((with_reducible show oLt _ _ _ _); first | with_reducible refine s_lt ?_ | with_reducible refine s_lt_str ?_)
  | ((with_reducible show oLe _ _ _ _); first | with_reducible refine s_le ?_ | with_reducible refine s_le_str ?_)
  | ((with_reducible show oGt _ _ _ _); first | with_reducible refine s_gt ?_)
  | ((with_reducible show oGe _ _ _ _); first | with_reducible refine s_ge ?_)
  | ((with_reducible show pII _ _ _ _ _); first | with_reducible refine s_ii ?_)
  | ((with_reducible show oEq _ _ _ _ _); first | with_reducible refine s_eq_int ?_ | with_reducible refine s_eq_str ?_ | with_reducible refine s_eq_bl ?_ | walk_at "eq")
  | ((with_reducible show oNe _ _ _ _ _); first | with_reducible refine s_ne_int ?_ | with_reducible refine s_ne_str ?_ | with_reducible refine s_ne_bl ?_ | walk_at "ne")
  | ((with_reducible show oIs _ _ _ _); first | with_reducible refine s_is_bl ?_ | with_reducible refine s_isN_ref ?_ | refine s_isN rfl ?_)
  | ((with_reducible show oIsNot _ _ _ _); first | with_reducible refine s_isnot_bl ?_ | with_reducible refine s_isNotN_ref ?_ | refine s_isNotN rfl ?_)
  | ((with_reducible show oIn (.str _) (.tup (_ :: _)) _ _); first | refine s_inS (xs := [_]) .t ?_ | refine s_inS (xs := [_, _]) .t ?_ | refine s_inS (xs := [_, _, _]) .t ?_ | refine s_inS (xs := [_, _, _, _]) .t ?_ | refine s_inS (xs := [_, _, _, _, _]) .t ?_ | refine s_inS (xs := [_, _, _, _, _, _]) .t ?_ | refine s_inS (xs := [_, _, _, _, _, _, _]) .t ?_ | refine s_inS (xs := [_, _, _, _, _, _, _, _]) .t ?_ | refine s_inS (xs := [_, _, _, _, _, _, _, _, _]) .t ?_ | refine s_inS (xs := [_, _, _, _, _, _, _, _, _, _]) .t ?_ | refine s_inS (xs := [_, _, _, _, _, _, _, _, _, _, _]) .t ?_ | refine s_inS (xs := [_, _, _, _, _, _, _, _, _, _, _, _]) .t ?_ | refine s_inS (xs := [_, _, _, _, _, _, _, _, _, _, _, _, _]) .t ?_)
  | ((with_reducible show oIn (.str _) (.lst (_ :: _)) _ _); first | refine s_inS (xs := [_]) .l ?_ | refine s_inS (xs := [_, _]) .l ?_ | refine s_inS (xs := [_, _, _]) .l ?_ | refine s_inS (xs := [_, _, _, _]) .l ?_ | refine s_inS (xs := [_, _, _, _, _]) .l ?_ | refine s_inS (xs := [_, _, _, _, _, _]) .l ?_ | refine s_inS (xs := [_, _, _, _, _, _, _]) .l ?_ | refine s_inS (xs := [_, _, _, _, _, _, _, _]) .l ?_ | refine s_inS (xs := [_, _, _, _, _, _, _, _, _]) .l ?_ | refine s_inS (xs := [_, _, _, _, _, _, _, _, _, _]) .l ?_ | refine s_inS (xs := [_, _, _, _, _, _, _, _, _, _, _]) .l ?_ | refine s_inS (xs := [_, _, _, _, _, _, _, _, _, _, _, _]) .l ?_ | refine s_inS (xs := [_, _, _, _, _, _, _, _, _, _, _, _, _]) .l ?_)
  | ((with_reducible show oNotIn (.str _) (.tup (_ :: _)) _ _); first | refine s_notInS (xs := [_]) .t ?_ | refine s_notInS (xs := [_, _]) .t ?_ | refine s_notInS (xs := [_, _, _]) .t ?_ | refine s_notInS (xs := [_, _, _, _]) .t ?_ | refine s_notInS (xs := [_, _, _, _, _]) .t ?_ | refine s_notInS (xs := [_, _, _, _, _, _]) .t ?_ | refine s_notInS (xs := [_, _, _, _, _, _, _]) .t ?_ | refine s_notInS (xs := [_, _, _, _, _, _, _, _]) .t ?_ | refine s_notInS (xs := [_, _, _, _, _, _, _, _, _]) .t ?_ | refine s_notInS (xs := [_, _, _, _, _, _, _, _, _, _]) .t ?_ | refine s_notInS (xs := [_, _, _, _, _, _, _, _, _, _, _]) .t ?_ | refine s_notInS (xs := [_, _, _, _, _, _, _, _, _, _, _, _]) .t ?_ | refine s_notInS (xs := [_, _, _, _, _, _, _, _, _, _, _, _, _]) .t ?_)
  | ((with_reducible show oNotIn (.str _) (.lst (_ :: _)) _ _); first | refine s_notInS (xs := [_]) .l ?_ | refine s_notInS (xs := [_, _]) .l ?_ | refine s_notInS (xs := [_, _, _]) .l ?_ | refine s_notInS (xs := [_, _, _, _]) .l ?_ | refine s_notInS (xs := [_, _, _, _, _]) .l ?_ | refine s_notInS (xs := [_, _, _, _, _, _]) .l ?_ | refine s_notInS (xs := [_, _, _, _, _, _, _]) .l ?_ | refine s_notInS (xs := [_, _, _, _, _, _, _, _]) .l ?_ | refine s_notInS (xs := [_, _, _, _, _, _, _, _, _]) .l ?_ | refine s_notInS (xs := [_, _, _, _, _, _, _, _, _, _]) .l ?_ | refine s_notInS (xs := [_, _, _, _, _, _, _, _, _, _, _]) .l ?_ | refine s_notInS (xs := [_, _, _, _, _, _, _, _, _, _, _, _]) .l ?_ | refine s_notInS (xs := [_, _, _, _, _, _, _, _, _, _, _, _, _]) .l ?_)
  | ((with_reducible show oIn _ _ _ _); first | with_reducible refine s_inSign ?_ | refine s_inS (by walk_at "sq") ?_)
  | ((with_reducible show oNotIn _ _ _ _); refine s_notInS (by walk_at "sq") ?_)
  | ((with_reducible show oNotInS _ _ _ _); refine s_notInSign ?_)
  | ((with_reducible show pTup _ _ _); first | with_reducible refine s_tup ?_)
  | ((with_reducible show pLst _ _ _); first | with_reducible refine s_lst ?_)
  | ((with_reducible show pLstC _ _ _); first | with_reducible refine s_lstC ?_)
  | ((with_reducible show pTru _ _ _); first | with_reducible refine s_tru ?_)
  | ((with_reducible show pNeg _ _ _); first | with_reducible refine s_neg ?_)
  | ((with_reducible show pFld _ _ _ _ _); walk_at "fld")
  | ((with_reducible show pIx _ _ _ _); first | refine s_ix_tup (by rfl) ?_ | refine s_ix_lst (by rfl) ?_ | refine s_ix_cell (by walk_at "cell") (by rfl) ?_ | walk_at "ix")
  | ((with_reducible show pOI _ _ _); first | with_reducible refine s_oi ?_)
  | ((with_reducible show pSl _ _ _ _ _); first | with_reducible refine s_sl_tup ?_ | with_reducible refine s_sl_lst ?_ | with_reducible refine s_sl_str ?_ | refine s_sl_cell (by walk_at "cell") ?_)
  | ((with_reducible show pRev _ _ _); refine s_rev (by walk_at "cell") ?_)
  | ((with_reducible show pRevC _ _ _); refine s_revC (by walk_at "cell") ?_)
  | ((with_reducible show pIter _ _ _); first | with_reducible refine s_it_lst ?_ | with_reducible refine s_it_tup ?_ | refine s_it_cell (by walk_at "sq") ?_)
  | ((with_reducible show pIterS _ _ _); first | with_reducible refine s_itS ?_)
  | ((with_reducible show pRange1 _ _ _); first | with_reducible refine s_rg1 ?_)
  | ((with_reducible show pRange2 _ _ _ _); first | with_reducible refine s_rg2 ?_)
  | ((with_reducible show pEnum _ _ _); first | with_reducible refine s_en_lst ?_ | with_reducible refine s_en_tup ?_ | refine s_en_cell (by walk_at "sq") ?_)
  | ((with_reducible show un2 _ _ _ _); first | with_reducible refine s_un2 ?_)
  | ((with_reducible show un3 _ _ _ _); first | with_reducible refine s_un3 ?_)
  | ((with_reducible show mUn2 _ _ _); first | with_reducible refine s_mun2 ?_)
  | ((with_reducible show mUn3 _ _ _); first | with_reducible refine s_mun3 ?_)
  | ((with_reducible show mUn4 _ _ _); first | with_reducible refine s_mun4 ?_)
  | ((with_reducible show mUn5 _ _ _); first | with_reducible refine s_mun5 ?_)
  | ((with_reducible show mUn6 _ _ _); first | with_reducible refine s_mun6 ?_)
  | ((with_reducible show on1 _ _ _ _); first | ((with_reducible show on1 (pLen1 _) _ _ _); first | with_reducible refine s_len_lst ?_ | with_reducible refine s_len_tup ?_ | with_reducible refine s_len_str ?_ | with_reducible refine s_len_own ?_ | refine s_len_cell (by walk_at "cell") ?_) | ((with_reducible show on1 (pStr1 _) _ _ _); first | with_reducible refine s_str_str ?_ | with_reducible refine s_str_int ?_ | with_reducible refine s_str_own ?_ | with_reducible refine s_str_ownC ?_) | ((with_reducible show on1 pInt1 _ _ _); first | with_reducible refine s_int_int ?_ | with_reducible refine s_int_bl ?_ | with_reducible refine s_int_str ?_) | ((with_reducible show on1 pList1 _ _ _); first | with_reducible refine s_list_lst ?_ | with_reducible refine s_list_tup ?_ | refine s_list_cell (by walk_at "sq") ?_ | refine s_list_seq (by with_reducible assumption) ?_) | ((with_reducible show on1 pListC1 _ _ _); first | with_reducible refine s_listC_lst ?_ | with_reducible refine s_listC_tup ?_ | refine s_listC_cell (by walk_at "sq") ?_) | ((with_reducible show on1 pTuple1 _ _ _); first | with_reducible refine s_tuple_lst ?_ | with_reducible refine s_tuple_tup ?_ | refine s_tuple_seq (by walk_at "sq") ?_) | ((with_reducible show on1 pAbs1 _ _ _); first | with_reducible refine s_abs ?_) | ((with_reducible show on1 pAll1 _ _ _); refine s_allM ?_) | ((with_reducible show on1 pAny1 _ _ _); refine s_anyM ?_))
  | ((with_reducible show on2 pMax2 _ _ _); first | with_reducible refine s_max ?_)
  | ((with_reducible show on2 pMin2 _ _ _); first | with_reducible refine s_min ?_)
  | ((with_reducible show on2 (pIsI _) _ _ _); walk_at "isi")
  | ((with_reducible show onStr _ _ _ _); first | with_reducible refine s_onStr ?_)
  | ((with_reducible show pSplit _ _ _ _); first | with_reducible refine s_split ?_)
  | ((with_reducible show pPart _ _ _ _); first | with_reducible refine s_part ?_)
  | ((with_reducible show pStarts _ _ _ _); first | with_reducible refine s_starts ?_)
  | ((with_reducible show pJoin _ _ _ _); refine s_join (by walk_at "sq") ?_)
  | ((with_reducible show pFmt _ _ _); first | with_reducible refine s_fmt_str ?_ | with_reducible refine s_fmt_int ?_)
  | ((with_reducible show pApp _ _ _ _); first | refine s_app 0 rfl ?_ | refine s_app 1 rfl ?_ | refine s_app 2 rfl ?_ | refine s_app 3 rfl ?_ | refine s_app 4 rfl ?_)
  | ((with_reducible show mFrz _ _ _); first | refine s_frz 0 rfl ?_ | refine s_frz 1 rfl ?_ | refine s_frz 2 rfl ?_ | refine s_frz 3 rfl ?_ | refine s_frz 4 rfl ?_)
  | ((with_reducible show if true = true then _ else _); first | with_reducible refine ifT ?_)
  | ((with_reducible show if false = true then _ else _); first | with_reducible refine ifF ?_)
  | ((with_reducible show if (!false) = true then _ else _); refine ifT ?_)
  | ((with_reducible show if (!true) = true then _ else _); refine ifF ?_)
  | ((with_reducible show if Tr.isNon .non = true then _ else _); refine ifT ?_)
  | ((with_reducible show if (!Tr.isNon .non) = true then _ else _); refine ifF ?_)
  | ((with_reducible show if Tr.isNon (.str _) = true then _ else _); refine ifF ?_)
  | ((with_reducible show if (!Tr.isNon (.str _)) = true then _ else _); refine ifT ?_)
  | ((with_reducible show if Tr.isNon (.int _) = true then _ else _); refine ifF ?_)
  | ((with_reducible show if (!Tr.isNon (.int _)) = true then _ else _); refine ifT ?_)
  | ((with_reducible show if Tr.isNon (.bl _) = true then _ else _); refine ifF ?_)
  | ((with_reducible show if (!Tr.isNon (.bl _)) = true then _ else _); refine ifT ?_)
  | ((with_reducible show if Tr.isNon (.lst _) = true then _ else _); refine ifF ?_)
  | ((with_reducible show if (!Tr.isNon (.lst _)) = true then _ else _); refine ifT ?_)
  | ((with_reducible show if Tr.isNon (.tup _) = true then _ else _); refine ifF ?_)
  | ((with_reducible show if (!Tr.isNon (.tup _)) = true then _ else _); refine ifT ?_)
  | ((with_reducible show if Tr.isNon (.ins _ _ _) = true then _ else _); refine ifF ?_)
  | ((with_reducible show if (!Tr.isNon (.ins _ _ _)) = true then _ else _); refine ifT ?_)
  | ((with_reducible show if Tr.isNon (oN none) = true then _ else _); refine ifT ?_)
  | ((with_reducible show if (!Tr.isNon (oN none)) = true then _ else _); refine ifF ?_)
  | ((with_reducible show if Tr.isNon (oN (some _)) = true then _ else _); refine ifF ?_)
  | ((with_reducible show if (!Tr.isNon (oN (some _))) = true then _ else _); refine ifT ?_)
  | ((with_reducible show if Tr.isNon (oD none) = true then _ else _); refine ifT ?_)
  | ((with_reducible show if (!Tr.isNon (oD none)) = true then _ else _); refine ifF ?_)
  | ((with_reducible show if Tr.isNon (oD (some _)) = true then _ else _); refine ifF ?_)
  | ((with_reducible show if (!Tr.isNon (oD (some _))) = true then _ else _); refine ifT ?_)
  | ((with_reducible show if (decide (true = true)) = true then _ else _); refine ifT ?_)
  | ((with_reducible show if (!decide (true = true)) = true then _ else _); refine ifF ?_)
  | ((with_reducible show if ((true == true)) = true then _ else _); refine ifT ?_)
  | ((with_reducible show if (!(true == true)) = true then _ else _); refine ifF ?_)
  | ((with_reducible show if ((true != true)) = true then _ else _); refine ifF ?_)
  | ((with_reducible show if (decide (true = false)) = true then _ else _); refine ifF ?_)
  | ((with_reducible show if (!decide (true = false)) = true then _ else _); refine ifT ?_)
  | ((with_reducible show if ((true == false)) = true then _ else _); refine ifF ?_)
  | ((with_reducible show if (!(true == false)) = true then _ else _); refine ifT ?_)
  | ((with_reducible show if ((true != false)) = true then _ else _); refine ifT ?_)
  | ((with_reducible show if (decide (false = true)) = true then _ else _); refine ifF ?_)
  | ((with_reducible show if (!decide (false = true)) = true then _ else _); refine ifT ?_)
  | ((with_reducible show if ((false == true)) = true then _ else _); refine ifF ?_)
  | ((with_reducible show if (!(false == true)) = true then _ else _); refine ifT ?_)
  | ((with_reducible show if ((false != true)) = true then _ else _); refine ifT ?_)
  | ((with_reducible show if (decide (false = false)) = true then _ else _); refine ifT ?_)
  | ((with_reducible show if (!decide (false = false)) = true then _ else _); refine ifF ?_)
  | ((with_reducible show if ((false == false)) = true then _ else _); refine ifT ?_)
  | ((with_reducible show if (!(false == false)) = true then _ else _); refine ifF ?_)
  | ((with_reducible show if ((false != false)) = true then _ else _); refine ifF ?_)
  | ((with_reducible show if decide ((_ : Int) < _) = true then _ else _); first | refine ifPos (decide_eq_true (by walk_at "om")) ?_ | refine ifNeg (decide_eq_false (by walk_at "om")) ?_)
  | ((with_reducible show if (!decide ((_ : Int) < _)) = true then _ else _); first | refine ifPosN (decide_eq_false (by walk_at "om")) ?_ | refine ifNegN (decide_eq_true (by walk_at "om")) ?_)
  | ((with_reducible show if decide ((_ : Int) ≤ _) = true then _ else _); first | refine ifPos (decide_eq_true (by walk_at "om")) ?_ | refine ifNeg (decide_eq_false (by walk_at "om")) ?_)
  | ((with_reducible show if (!decide ((_ : Int) ≤ _)) = true then _ else _); first | refine ifPosN (decide_eq_false (by walk_at "om")) ?_ | refine ifNegN (decide_eq_true (by walk_at "om")) ?_)
  | ((with_reducible show if decide ((_ : Int) = _) = true then _ else _); first | refine ifPos (decide_eq_true (by walk_at "om")) ?_ | refine ifNeg (decide_eq_false (by walk_at "om")) ?_)
  | ((with_reducible show if (!decide ((_ : Int) = _)) = true then _ else _); first | refine ifPosN (decide_eq_false (by walk_at "om")) ?_ | refine ifNegN (decide_eq_true (by walk_at "om")) ?_)
  | ((with_reducible show lcB _ _ _ (List.map _ _) [] _); walk_at "L")
  | ((with_reducible show lcB _ _ _ (signsD _) [] _); (unfold signsD; walk_at "L"))
  | ((with_reducible show (∃ (ns : List Str) (fds : List D), InsD _ _ _ ns fds ∧ ns.contains _ = false) ∧ _); refine ⟨⟨_, _, .inl rfl, by decide⟩, ?_⟩)
  | ((with_reducible show True ∧ _); refine ⟨trivial, ?_⟩)
  | ((with_reducible show isL _ _ ∧ _); refine ⟨s_isL (by walk_at "cell"), ?_⟩)
  | ((with_reducible show CMul _ _ ∧ _); refine ⟨by walk_at "nm", ?_⟩)
  | ((with_reducible show CPow _ _ ∧ _); refine ⟨⟨by decide, by decide, by decide⟩, ?_⟩)
  | ((with_reducible show _ ∧ _); refine ⟨by walk_at "n", ?_⟩)
  | ((with_reducible show ∃ (i : Nat) (z Cl : Addr) (ns : List Str) (ds : List D), _ = D.raw (V.ref z) ∧ _ ∧ Cls _ Cl ∧ _ ∧ _ ∧ _); walk_at "sfld"))
local macro_rules | `(tactic| walk_at "sfld") => `(tactic| first
  | fail)
local macro_rules | `(tactic| walk_at "few") => `(tactic| first | decide | exact (show (1 : Nat) < 1000 by decide) | exact (show (2 : Nat) < 1000 by decide) | exact (show (3 : Nat) < 1000 by decide) | exact (show (4 : Nat) < 1000 by decide) | exact (show (5 : Nat) < 1000 by decide) | exact (show (6 : Nat) < 1000 by decide) | exact (show (7 : Nat) < 1000 by decide) | exact (show (8 : Nat) < 1000 by decide) | exact (show (9 : Nat) < 1000 by decide) | exact (show (10 : Nat) < 1000 by decide) | exact (show (11 : Nat) < 1000 by decide) | exact (show (12 : Nat) < 1000 by decide))
local macro_rules | `(tactic| walk_at "eq") => `(tactic| first
  | fail)
local macro_rules | `(tactic| walk_at "ne") => `(tactic| first
  | fail)
local macro_rules | `(tactic| walk_at "fld") => `(tactic| first
  | fail)
local macro_rules | `(tactic| walk_at "ix") => `(tactic| first
  | fail)
local macro_rules | `(tactic| walk_at "isi") => `(tactic| first
  | refine s_isi (.ty _) (.str _) (by rfl) ?_)
local macro_rules | `(tactic| walk_at "h") => `(tactic| with_reducible (conv => whnf))
local macro_rules | `(tactic| walk_at "c") => `(tactic| fail)
local macro_rules | `(tactic| walk_at "pm2") => `(tactic| first | walk_at "pm" | exact List.Perm.trans (List.Perm.trans (by with_reducible assumption) q213) q213 | exact List.Perm.trans (List.Perm.trans (by with_reducible assumption) q213) q312 | exact List.Perm.trans (List.Perm.trans (by with_reducible assumption) q213) q4123 | exact List.Perm.trans (List.Perm.trans (by with_reducible assumption) q213) q51234 | exact List.Perm.trans (List.Perm.trans (by with_reducible assumption) q312) q213 | exact List.Perm.trans (List.Perm.trans (by with_reducible assumption) q312) q312 | exact List.Perm.trans (List.Perm.trans (by with_reducible assumption) q312) q4123 | exact List.Perm.trans (List.Perm.trans (by with_reducible assumption) q312) q51234 | exact List.Perm.trans (List.Perm.trans (by with_reducible assumption) q4123) q213 | exact List.Perm.trans (List.Perm.trans (by with_reducible assumption) q4123) q312 | exact List.Perm.trans (List.Perm.trans (by with_reducible assumption) q4123) q4123 | exact List.Perm.trans (List.Perm.trans (by with_reducible assumption) q4123) q51234 | exact List.Perm.trans (List.Perm.trans (by with_reducible assumption) q51234) q213 | exact List.Perm.trans (List.Perm.trans (by with_reducible assumption) q51234) q312 | exact List.Perm.trans (List.Perm.trans (by with_reducible assumption) q51234) q4123 | exact List.Perm.trans (List.Perm.trans (by with_reducible assumption) q51234) q51234 | exact List.Perm.trans (List.Perm.trans (List.Perm.trans (by with_reducible assumption) q213) q213) q213 | exact List.Perm.trans (List.Perm.trans (List.Perm.trans (by with_reducible assumption) q213) q213) q312 | exact List.Perm.trans (List.Perm.trans (List.Perm.trans (by with_reducible assumption) q213) q213) q4123 | exact List.Perm.trans (List.Perm.trans (List.Perm.trans (by with_reducible assumption) q213) q312) q213 | exact List.Perm.trans (List.Perm.trans (List.Perm.trans (by with_reducible assumption) q213) q312) q312 | exact List.Perm.trans (List.Perm.trans (List.Perm.trans (by with_reducible assumption) q213) q312) q4123 | exact List.Perm.trans (List.Perm.trans (List.Perm.trans (by with_reducible assumption) q213) q4123) q213 | exact List.Perm.trans (List.Perm.trans (List.Perm.trans (by with_reducible assumption) q213) q4123) q312 | exact List.Perm.trans (List.Perm.trans (List.Perm.trans (by with_reducible assumption) q213) q4123) q4123 | exact List.Perm.trans (List.Perm.trans (List.Perm.trans (by with_reducible assumption) q312) q213) q213 | exact List.Perm.trans (List.Perm.trans (List.Perm.trans (by with_reducible assumption) q312) q213) q312 | exact List.Perm.trans (List.Perm.trans (List.Perm.trans (by with_reducible assumption) q312) q213) q4123 | exact List.Perm.trans (List.Perm.trans (List.Perm.trans (by with_reducible assumption) q312) q312) q213 | exact List.Perm.trans (List.Perm.trans (List.Perm.trans (by with_reducible assumption) q312) q312) q312 | exact List.Perm.trans (List.Perm.trans (List.Perm.trans (by with_reducible assumption) q312) q312) q4123 | exact List.Perm.trans (List.Perm.trans (List.Perm.trans (by with_reducible assumption) q312) q4123) q213 | exact List.Perm.trans (List.Perm.trans (List.Perm.trans (by with_reducible assumption) q312) q4123) q312 | exact List.Perm.trans (List.Perm.trans (List.Perm.trans (by with_reducible assumption) q312) q4123) q4123 | exact List.Perm.trans (List.Perm.trans (List.Perm.trans (by with_reducible assumption) q4123) q213) q213 | exact List.Perm.trans (List.Perm.trans (List.Perm.trans (by with_reducible assumption) q4123) q213) q312 | exact List.Perm.trans (List.Perm.trans (List.Perm.trans (by with_reducible assumption) q4123) q213) q4123 | exact List.Perm.trans (List.Perm.trans (List.Perm.trans (by with_reducible assumption) q4123) q312) q213 | exact List.Perm.trans (List.Perm.trans (List.Perm.trans (by with_reducible assumption) q4123) q312) q312 | exact List.Perm.trans (List.Perm.trans (List.Perm.trans (by with_reducible assumption) q4123) q312) q4123 | exact List.Perm.trans (List.Perm.trans (List.Perm.trans (by with_reducible assumption) q4123) q4123) q213 | exact List.Perm.trans (List.Perm.trans (List.Perm.trans (by with_reducible assumption) q4123) q4123) q312 | exact List.Perm.trans (List.Perm.trans (List.Perm.trans (by with_reducible assumption) q4123) q4123) q4123)
local macro_rules | `(tactic| walk_at "cellx") => `(tactic| fail)
local macro_rules | `(tactic| walk_at "pm") => `(tactic| first | with_reducible assumption | exact List.Perm.refl _ | exact q213 | exact q312 | exact q4123 | exact q0 | exact List.Perm.trans (by with_reducible assumption) q213 | exact List.Perm.trans (by with_reducible assumption) q312 | exact List.Perm.trans (by with_reducible assumption) q4123 | exact List.Perm.trans (by with_reducible assumption) q51234 | exact List.Perm.trans (by with_reducible assumption) q0)
local macro_rules | `(tactic| walk_at "g") => `(tactic| ((repeat (first | walk_at "p" | walk_at "c" | (walk_at "h"; first | walk_at "p" | walk_at "c"))); try walk_at "h"))
local macro_rules | `(tactic| walk_at "S") => `(tactic| (walk_at "g"; try ((with_reducible show if _ then _ else _); refine ite2M (fun h => ?_) (fun h => ?_) <;> walk_at "S")))
local macro_rules | `(tactic| walk_at "om") => `(tactic| first | omega | (simp only [List.length_cons, List.length_nil, List.length_map, List.length_append, rangeD_len]; omega))
local macro_rules | `(tactic| walk_at "P0") => `(tactic| first | trivial | walk_at "sq" | with_reducible assumption)
local macro_rules | `(tactic| walk_at "ln") => `(tactic| first | with_reducible assumption | omega | (simp only [List.length_map, List.length_append, List.length_filter, rangeD_len]; omega) | (rw [Array.length_toList]; first | assumption | (show Str.length _ ≤ _; omega)) | (simp; omega))
local macro_rules | `(tactic| walk_at "L") => `(tactic| (refine lcB_map _ ?hh (by walk_at "P0") ?el (by walk_at "ln") ?rest; (case el => (intro a ha k hk; walk_at "g"; exact hk))))
local macro_rules | `(tactic| walk_at "d") => `(tactic| (refine c_draw0 T (by with_reducible assumption) (by walk_at "n") (by walk_at "n") fun k qs m k0 k1 hd => ?_))
local macro_rules | `(tactic| walk_at "fld") => `(tactic| first
  | ((with_reducible show pFld _ "letter" (.ins T.c_Row _ _) _ _); refine s_fld (.inl rfl) T.i_Row.c T.na_Row_letter (by rfl) ?_)
  | ((with_reducible show pFld _ "tests" (.ins T.c_Row _ _) _ _); refine s_fld (.inl rfl) T.i_Row.c T.na_Row_tests (by rfl) ?_)
  | ((with_reducible show pFld _ "deeds" (.ins T.c_Row _ _) _ _); refine s_fld (.inl rfl) T.i_Row.c T.na_Row_deeds (by rfl) ?_))
local macro_rules | `(tactic| walk_at "isi") => `(tactic| first
  | ((with_reducible show on2 (pIsI _) [.ins T.c_Row _ _, .raw (.ref T.c_Row)] _ _); refine s_isi (.own _) (.ins T.i_Row) kit_self ?_))
local macro_rules | `(tactic| walk_at "sfld") => `(tactic| first
  | refine ⟨0, _, _, _, _, rfl, rfl, T.i_Row.c, T.na_Row_letter, by walk_at "few", ?_⟩
  | refine ⟨1, _, _, _, _, rfl, rfl, T.i_Row.c, T.na_Row_letter, by walk_at "few", ?_⟩
  | refine ⟨0, _, _, _, _, rfl, rfl, T.i_Row.c, T.na_Row_tests, by walk_at "few", ?_⟩
  | refine ⟨1, _, _, _, _, rfl, rfl, T.i_Row.c, T.na_Row_tests, by walk_at "few", ?_⟩
  | refine ⟨0, _, _, _, _, rfl, rfl, T.i_Row.c, T.na_Row_deeds, by walk_at "few", ?_⟩
  | refine ⟨1, _, _, _, _, rfl, rfl, T.i_Row.c, T.na_Row_deeds, by walk_at "few", ?_⟩)
section
variable {P : Program} {w : World} {K : W.Frag} {mg : Str → Option Value} {base : Heap}
def dealC (p q : Addr) (qs : List Int) (m : Int) : Cells := [(p, .lst [.raw (.ref q), .int m]), (q, .lst (qs.map D.int))]
def absI (i : Int) : Int := if i < 0 then -i else i
structure DealOk (qs : List Int) (m : Int) : Prop where
  l : qs.length ≤ 63
  a : 0 ≤ m
  b : m < 2147483647
theorem p_deal (T : Tp P K mg) {ns : List Int} {b : Int} {Qx : QX} {Q : QE} (hl : ns.length ≤ 63) (hb : 0 ≤ b) (hb2 : b ≤ 63) (h : ∀ p q qs m, DealOk qs m → Q (.raw (.ref p)) (dealC p q qs m)) :
    w__law_deal T (.lst (ns.map .int)) (.int b) Qx Q [] := by
  unfold w__law_deal
  walk_at "h"
  walk_at "g"
  rw [cutD_map]
  have hl2 : (cutL ns (some b) (some 63)).length ≤ 63 := by
    have := ((List.take_sublist (HT.sIx ns.length ns.length (some 63) - HT.sIx ns.length 0 (some b)) (ns.drop (HT.sIx ns.length 0 (some b)))).trans (List.drop_sublist _ _)).length_le
    exact Nat.le_trans this hl
  generalize cutL ns (some b) (some 63) = cs at hl2
  refine lcB_map (l := cs) D.int (fun i => .int (absI i)) trivial (fun i _ k q => ?_) (by omega) ?_
  · walk_at "g"
    exact q
  walk_at "g"
  refine loop_inv (fun _ s C => ∃ m : Int, s = .int m ∧ 0 ≤ m ∧ m < 2147483647 ∧ C = []) ⟨_, rfl, by omega, by omega, rfl⟩ ?_ ?_
  · rintro i d s C nx hi ⟨m, rfl, h0, h1, rfl⟩ hn
    refine ⟨trivial, ?_⟩
    rw [List.getElem?_map] at hi
    obtain ⟨v, rfl⟩ : ∃ v, d = .int v := by
      cases e : cs[i]? with
      | none => rw [e] at hi; cases hi
      | some v => rw [e] at hi; cases hi; exact ⟨_, rfl⟩
    unfold w__law_deal_l1
    walk_at "g"
    exact part_id (hn _ _ ⟨_, rfl, Int.emod_nonneg _ (by decide), Int.emod_lt_of_pos _ (by decide), rfl⟩)
  · rintro s C ⟨m, rfl, h0, h1, rfl⟩
    refine ⟨trivial, ?_⟩
    unfold w__law_deal_a2
    walk_at "g"
    refine lcB1_map (l := cs) (fun i => .int (absI i)) (fun i => .int (absI i)) (fun i => decide ((10 : Int) ^ 18 ≤ absI i)) trivial (fun i _ k q => ?_) (fun i _ _ k q => ?_) (by omega) ?_
    · walk_at "g"
      exact q
    · exact q
    walk_at "g"
    intro q
    walk_at "g"
    intro p
    refine drop_id ?_
    have := h p q ((cs.filter fun i => decide ((10 : Int) ^ 18 ≤ absI i)).map absI).reverse m ⟨by rw [List.length_reverse, List.length_map]; exact Nat.le_trans (List.length_filter_le _ _) hl2, h0, h1⟩
    unfold dealC at this
    rw [List.map_reverse, List.map_map] at this
    exact this
theorem p_draw (T : Tp P K mg) {p q : Addr} {qs : List Int} {m n : Int} {Qx : QX} {Q : QE} (hd : DealOk qs m) (hn : 0 < n) (hn2 : n < 1073741824) (h : ∀ k qs' m', 0 ≤ k → k < n → DealOk qs' m' → Q (.int k) (dealC p q qs' m')) :
    w__law_draw T (.raw (.ref p)) (.int n) Qx Q (dealC p q qs m) := by
  unfold w__law_draw
  refine ⟨fun j _ C => ∃ qs : List Int, qs.length ≤ 63 ∧ j = qs.length ∧ C = dealC p q qs m, ⟨_, qs, hd.l, rfl, rfl⟩, ?_⟩
  rintro j _ C ⟨qs, hq, rfl, rfl⟩
  unfold w__law_draw_t1
  walk_at "h"
  walk_at "g"
  refine s_neD (.inl rfl) (eqd_lstI (xs := qs) (ys := []) (by walk_at "cell") .l) ?_
  walk_at "g"
  refine ite2M (fun h1 => ?_) (fun h1 => ?_)
  · have hne : qs ≠ [] := fun z => by subst z; cases h1
    obtain ⟨ys, y, rfl⟩ : ∃ ys y, qs = ys ++ [y] := ⟨_, _, (List.dropLast_concat_getLast hne).symm⟩
    have hq1 : (dealC p q (ys ++ [y]) m)[1]? = some (q, Cell.lst (ys.map .int ++ [.int y])) := by
      show some (q, Cell.lst ((ys ++ [y]).map D.int)) = _
      rw [List.map_append]; rfl
    walk_at "g"
    refine s_ix_cell (.c hq1) atI_last ?_
    walk_at "g"
    have fin : decide (y = 0) = false → w__law_draw_a3 T (.raw (.ref p)) (.int n) Qx Q () (dealC p q (ys ++ [y]) m) := fun _ => by
      unfold w__law_draw_a3
      walk_at "g"
      refine s_neD (.inl rfl) (eqd_lstI (xs := ys ++ [y]) (ys := []) (by walk_at "cell") .l) ?_
      walk_at "g"
      rw [if_pos (show (!decide (ys ++ [y] = [])) = true by simp)]
      walk_at "g"
      refine s_pop (d := .int y) 1 hq1 ?_
      walk_at "g"
      have := h (y % n) (ys ++ [y / n]) m (Int.emod_nonneg _ (by omega)) (Int.emod_lt_of_pos _ hn) ⟨by simp at hq ⊢; omega, hd.a, hd.b⟩
      unfold dealC at this
      rw [List.map_append] at this
      exact this
    refine ite2M (fun h2 => ?_) (fun h2 => fin (by simpa using h2))
    unfold w__law_draw_l2
    walk_at "g"
    refine s_pop (d := .int y) 1 hq1 ?_
    exact part_id ⟨ys.length, by simp, ys, by simp at hq; omega, rfl, rfl⟩
  · walk_at "g"
    unfold w__law_draw_a3
    walk_at "g"
    refine s_neD (.inl rfl) (eqd_lstI (xs := qs) (ys := []) (by walk_at "cell") .l) ?_
    walk_at "g"
    rw [if_neg h1]
    walk_at "g"
    refine ⟨0, p, _, 1, 1, rfl, rfl, rfl, rfl, ?_⟩
    walk_at "g"
    exact h _ qs _ (Int.emod_nonneg _ (by omega)) (Int.emod_lt_of_pos _ hn) ⟨hq, Int.emod_nonneg _ (by decide), Int.emod_lt_of_pos _ (by decide)⟩



def fitsS (w l : Str) : Bool := !decide (l = "list") || !decide (w ∈ cst_OF_ANSWERS)
def kNot : Str := "not "
def bareS (s : Str) : Str := if Txt.startswith s kNot = true then cutS s (some 4) none else s
def isTestS (s l : Str) : Bool := decide (bareS s ∈ cst_TESTS) && fitsS (bareS s) l
def isDeedS (s l : Str) : Bool := decide (s ∈ cst_DEEDS) && fitsS s l
def isTestD (l : Str) (d : D) : Bool := isStr d && isTestS (strOf d) l
def isDeedD (l : Str) (d : D) : Bool := isStr d && isDeedS (strOf d) l
def SqV (K : W.Frag) (C : Cells) (d : D) (o : Option (List D)) : Prop := (o = none ∧ SqA K C d false) ∨ ∃ xs, o = some xs ∧ SeqD C d xs ∧ xs.length ≤ 100000 ∧ ∀ x ∈ xs, AnyD K C x
def rowErr (d1 : D) (o2 o3 : Option (List D)) : Option Str :=
  if (isStr d1 && decide (strOf d1 ∈ cst_LETTERS)) = false then some "letter"
  else if (o2.any fun xs => xs.all (isTestD (strOf d1))) = false then some "tests"
  else if (o3.any fun xs => xs.all (isDeedD (strOf d1))) = false then some "deeds" else none

def rowD (c : Addr) (l : Str) (ts ds : List Str) : D := .ins c ["letter", "tests", "deeds"] [.str l, .tup (ts.map D.str), .tup (ds.map D.str)]
def kIf : Str := " if "
def kDo : Str := " do "
def kAnd : Str := " and "
def kThen : Str := " then "
def noS : Str := ""
def partT (k s : Str) (ts : List Str) : Str := if ts = [] then noS else Str.empty ++ k ++ Txt.join s ts
def rowT (l : Str) (ts ds : List Str) : Str := Str.empty ++ l ++ partT kIf kAnd ts ++ partT kDo kThen ds
structure RowOk (l : Str) (ts dd : List Str) : Prop where
  l : l.length ≤ 10
  t : (ts.map (·.length)).sum ≤ 1000
  t2 : ts.length ≤ 1000
  d : (dd.map (·.length)).sum ≤ 1000
  d2 : dd.length ≤ 1000
theorem partT_len (k s : Str) (ts : List Str) (h : (ts.map (·.length)).sum ≤ 1000) (h2 : ts.length ≤ 1000) (hs : s.length ≤ 6) (hk : k.length ≤ 6) : (partT k s ts).length ≤ 8000 := by
  unfold partT
  split
  · decide
  · have h3 := txt_join_len s ts
    have h4 : ts.length * s.length ≤ 1000 * 6 := Nat.mul_le_mul h2 hs
    rw [Str.length_append, Str.length_append, str_len0]
    omega



def rdP (s : Str) := Txt.partition s kDo
def rdQ (s : Str) := Txt.partition (rdP s).1 kIf
def rdL (s : Str) : Str := (rdQ s).1
def rdT (s : Str) : List Str := if (!decide ((rdQ s).2.1 = noS)) = true then Txt.split (rdQ s).2.2 kAnd else []
def rdD (s : Str) : List Str := if (!decide ((rdP s).2.1 = noS)) = true then Txt.split (rdP s).2.2 kThen else []
theorem rd_len (s : Str) : (rdP s).1.length ≤ s.length ∧ (rdP s).2.2.length ≤ s.length ∧ (rdQ s).1.length ≤ s.length ∧ (rdQ s).2.2.length ≤ s.length := by
  have h1 := PyProof.Rows.fact_partition s kDo
  have h2 := PyProof.Rows.fact_partition (rdP s).1 kIf
  exact ⟨h1.1, h1.2.2, Nat.le_trans h2.1 h1.1, Nat.le_trans h2.2.2 h1.1⟩
open TL in
def wdsT (t : Str) : List Wd := TL.spl [32] 0 [] (TL.tl t)
def wDo : Wd := [100, 111]
def wIf : Wd := [105, 102]
def wAnd : Wd := [97, 110, 100]
def wThen : Wd := [116, 104, 101, 110]
def allT : List Str := cst_TESTS ++ cst_TESTS.map fun t => kNot ++ t
structure WordsOk (t : Str) (bad : Wd) (bad2 : Wd) : Prop where
  tl : TL.tl t = jn (wdsT t)
  nb : ∀ q ∈ wdsT t, NoBl q
  b1 : bad ∉ wdsT t
  b2 : bad2 ∉ wdsT t
  ne : wdsT t ≠ []
  ln : t.length ≤ 9
theorem allT_ok : ∀ t ∈ allT, WordsOk t wDo wAnd := by
  have all : ∀ t ∈ allT, TL.tl t = jn (wdsT t) ∧ (∀ q ∈ wdsT t, (32 : Nat) ∉ q) ∧ wDo ∉ wdsT t ∧ wAnd ∉ wdsT t ∧ wdsT t ≠ [] ∧ t.length ≤ 9 := by decide +kernel
  exact fun t ht => let ⟨a, b, c, d, e, f⟩ := all t ht; ⟨a, b, c, d, e, f⟩
theorem allD_ok : ∀ t ∈ cst_DEEDS, WordsOk t wThen wThen := by
  have all : ∀ t ∈ cst_DEEDS, TL.tl t = jn (wdsT t) ∧ (∀ q ∈ wdsT t, (32 : Nat) ∉ q) ∧ wThen ∉ wdsT t ∧ wThen ∉ wdsT t ∧ wdsT t ≠ [] ∧ t.length ≤ 9 := by decide +kernel
  exact fun t ht => let ⟨a, b, c, d, e, f⟩ := all t ht; ⟨a, b, c, d, e, f⟩
theorem let_ok : ∀ l ∈ cst_LETTERS, NoBl (TL.tl l) ∧ l.length ≤ 4 := by
  have all : ∀ l ∈ cst_LETTERS, (32 : Nat) ∉ TL.tl l ∧ l.length ≤ 4 := by decide +kernel
  exact all
theorem tl_kDo : TL.tl kDo = sepW wDo := by decide +kernel
theorem tl_kIf : TL.tl kIf = sepW wIf := by decide +kernel
theorem tl_kAnd : TL.tl kAnd = sepW wAnd := by decide +kernel
theorem tl_kThen : TL.tl kThen = sepW wThen := by decide +kernel
def partW (k s : Wd) (ts : List Str) : List Wd := if ts = [] then [] else k :: inter s (ts.map wdsT)
theorem tl_join_words {w : Wd} {s : Str} {ts : List Str} (hs : TL.tl s = sepW w) (h : ∀ t ∈ ts, TL.tl t = jn (wdsT t) ∧ wdsT t ≠ []) : TL.tl (Txt.join s ts) = jn (inter w (ts.map wdsT)) := by
  rw [TL.join_eq, TL.tl_join, hs, jn_inter (by
    intro p hp
    obtain ⟨t, ht, rfl⟩ := List.mem_map.mp hp
    exact (h t ht).2), List.map_map]
  congr 1
  exact List.map_congr_left fun t ht => (h t ht).1
theorem tl_partT {k s : Str} {wk w : Wd} {ts : List Str} (hk : TL.tl k = sepW wk) (hs : TL.tl s = sepW w) (h : ∀ t ∈ ts, TL.tl t = jn (wdsT t) ∧ wdsT t ≠ []) (p : List Wd) (hp : p ≠ []) :
    jn p ++ TL.tl (partT k s ts) = jn (p ++ partW wk w ts) := by
  unfold partT partW
  by_cases e : ts = []
  · rw [if_pos e, if_pos e]
    show jn p ++ [] = jn (p ++ [])
    simp
  · rw [if_neg e, if_neg e, TL.tl_append, TL.tl_append, tl_join_words hs h, hk]
    have hn : inter w (ts.map wdsT) ≠ [] := inter_ne (by simpa using e) (by
      intro p hp
      obtain ⟨t, ht, rfl⟩ := List.mem_map.mp hp
      exact (h t ht).2)
    rw [jn_app hp (by simp)]
    cases e2 : inter w (ts.map wdsT) with
    | nil => exact absurd e2 hn
    | cons a b =>
      rw [jn_cons]
      show jn p ++ (([] ++ sepW wk) ++ jn (a :: b)) = _
      simp [sepW]



theorem wd_bits : NoBl wDo ∧ NoBl wIf ∧ NoBl wAnd ∧ NoBl wThen := by
  have : (32 : Nat) ∉ wDo ∧ (32 : Nat) ∉ wIf ∧ (32 : Nat) ∉ wAnd ∧ (32 : Nat) ∉ wThen := by decide +kernel
  exact this
theorem partW_nb {k s : Wd} {ts : List Str} (hk : NoBl k) (hs : NoBl s) (h : ∀ t ∈ ts, ∀ q ∈ wdsT t, NoBl q) : ∀ q ∈ partW k s ts, NoBl q := by
  intro q hq
  unfold partW at hq
  split at hq
  · cases hq
  · rcases List.mem_cons.mp hq with h1 | h1
    · rw [h1]; exact hk
    · rcases mem_inter h1 with h2 | ⟨p, h2, h3⟩
      · rw [h2]; exact hs
      · obtain ⟨t, ht, rfl⟩ := List.mem_map.mp h2
        exact h t ht q h3
theorem back_list {ts : List Str} (h : ∀ t ∈ ts, TL.tl t = jn (wdsT t)) : (ts.map wdsT).map (fun p => ofL (jn p)) = ts := by
  rw [List.map_map]
  conv => rhs; rw [← List.map_id ts]
  exact List.map_congr_left fun t ht => by show ofL (jn (wdsT t)) = t; rw [← h t ht, ofL_tl]
theorem row_back {l : Str} {ts dd : List Str} (hl : l ∈ cst_LETTERS) (ht : ∀ t ∈ ts, t ∈ allT) (hd : ∀ d ∈ dd, d ∈ cst_DEEDS) :
    rdL (rowT l ts dd) = l ∧ rdT (rowT l ts dd) = ts ∧ rdD (rowT l ts dd) = dd := by
  have kt := fun t h => allT_ok t (ht t h)
  have kd := fun t h => allD_ok t (hd t h)
  have nl := (let_ok l hl).1
  obtain ⟨n1, n2, n3, n4⟩ := wd_bits
  have hx : TL.tl (rowT l ts dd) = jn ((TL.tl l :: partW wIf wAnd ts) ++ partW wDo wThen dd) := by
    unfold rowT
    rw [TL.tl_append, TL.tl_append, TL.tl_append]
    rw [show (TL.tl Str.empty ++ TL.tl l) = jn [TL.tl l] from rfl]
    rw [tl_partT tl_kIf tl_kAnd (fun t h => ⟨(kt t h).tl, (kt t h).ne⟩) [TL.tl l] (by simp)]
    rw [tl_partT tl_kDo tl_kThen (fun t h => ⟨(kd t h).tl, (kd t h).ne⟩) _ (by simp)]
    rfl
  have hA : ∀ q ∈ partW wIf wAnd ts, NoBl q := partW_nb n2 n3 fun t h => (kt t h).nb
  have hAdo : wDo ∉ partW wIf wAnd ts := by
    intro hq
    unfold partW at hq
    split at hq
    · cases hq
    · rcases List.mem_cons.mp hq with h1 | h1
      · exact absurd h1 (by decide)
      · rcases mem_inter h1 with h2 | ⟨p, h2, h3⟩
        · exact absurd h2 (by decide)
        · obtain ⟨t, ht, rfl⟩ := List.mem_map.mp h2
          exact (kt t ht).b1 h3
  -- the deeds
  have hP : TL.tl (rdP (rowT l ts dd)).1 = jn (TL.tl l :: partW wIf wAnd ts) ∧ rdD (rowT l ts dd) = dd := by
    by_cases e : dd = []
    · subst e
      rw [show partW wDo wThen [] = [] from rfl, List.append_nil] at hx
      have hp : rdP (rowT l ts []) = (rowT l ts [], Str.empty, Str.empty) := part_not tl_kDo n1 hx nl hA hAdo
      unfold rdD
      rw [hp]
      exact ⟨hx, by rw [if_neg (show ¬ (!decide (Str.empty = noS)) = true by decide)]⟩
    · rw [show partW wDo wThen dd = wDo :: inter wThen (dd.map wdsT) by unfold partW; rw [if_neg e]] at hx
      have hn : inter wThen (dd.map wdsT) ≠ [] := inter_ne (by simpa using e) (by
        intro p hp
        obtain ⟨t, ht, rfl⟩ := List.mem_map.mp hp
        exact (kd t ht).ne)
      have hB : ∀ q ∈ inter wThen (dd.map wdsT), NoBl q := fun q hq => by
        rcases mem_inter hq with h2 | ⟨p, h2, h3⟩
        · rw [h2]; exact n4
        · obtain ⟨t, ht, rfl⟩ := List.mem_map.mp h2
          exact (kd t ht).nb q h3
      have hp : rdP (rowT l ts dd) = (ofL (jn (TL.tl l :: partW wIf wAnd ts)), kDo, ofL (jn (inter wThen (dd.map wdsT)))) := part_found tl_kDo n1 hx nl hA hB hAdo hn
      unfold rdD
      rw [hp]
      refine ⟨tl_ofL _, ?_⟩
      rw [if_pos (show (!decide (kDo = noS)) = true by decide)]
      rw [split_words tl_kThen n4 (by decide +kernel) (tl_ofL _) (by simpa using e) (by
        intro p hp
        obtain ⟨t, ht, rfl⟩ := List.mem_map.mp hp
        exact ⟨(kd t ht).ne, (kd t ht).b1, (kd t ht).nb⟩)]
      exact back_list fun t h => (kd t h).tl
  refine ⟨?_, ?_, hP.2⟩
  all_goals
    have hx2 := hP.1
    by_cases e : ts = []
    · subst e
      rw [show partW wIf wAnd [] = [] from rfl] at hx2
      have hq : rdQ (rowT l [] dd) = ((rdP (rowT l [] dd)).1, Str.empty, Str.empty) := part_not tl_kIf n2 hx2 nl (by simp) (by simp)
      first
      | (unfold rdL; rw [hq]; exact TL.ext_tl hx2)
      | (unfold rdT; rw [hq, if_neg (show ¬ (!decide (Str.empty = noS)) = true by decide)])
    · rw [show partW wIf wAnd ts = [] ++ wIf :: inter wAnd (ts.map wdsT) by unfold partW; rw [if_neg e]; rfl] at hx2
      have hn : inter wAnd (ts.map wdsT) ≠ [] := inter_ne (by simpa using e) (by
        intro p hp
        obtain ⟨t, ht, rfl⟩ := List.mem_map.mp hp
        exact (kt t ht).ne)
      have hB : ∀ q ∈ inter wAnd (ts.map wdsT), NoBl q := fun q hq => by
        rcases mem_inter hq with h2 | ⟨p, h2, h3⟩
        · rw [h2]; exact n3
        · obtain ⟨t, ht, rfl⟩ := List.mem_map.mp h2
          exact (kt t ht).nb q h3
      have hq : rdQ (rowT l ts dd) = (ofL (jn [TL.tl l]), kIf, ofL (jn (inter wAnd (ts.map wdsT)))) := part_found tl_kIf n2 hx2 nl (by simp) hB (by simp) hn
      first
      | (unfold rdL; rw [hq]; exact ofL_tl l)
      | (unfold rdT
         rw [hq, if_pos (show (!decide (kIf = noS)) = true by decide)]
         rw [split_words tl_kAnd n3 (by decide +kernel) (tl_ofL _) (by simpa using e) (by
          intro p hp
          obtain ⟨t, ht, rfl⟩ := List.mem_map.mp hp
          exact ⟨(kt t ht).ne, (kt t ht).b2, (kt t ht).nb⟩)]
         exact back_list fun t h => (kt t h).tl)
structure GoodRow (l : Str) (ts dd : List Str) : Prop where
  le : l ∈ cst_LETTERS
  t : ∀ t ∈ ts, t ∈ allT ∧ isTestS t l = true
  d : ∀ d ∈ dd, d ∈ cst_DEEDS ∧ isDeedS d l = true
  tl : ts.length ≤ 4
  dl : dd.length ≤ 4
theorem sum_le {l : List Str} {k : Nat} (h : ∀ t ∈ l, t.length ≤ k) : (l.map (·.length)).sum ≤ l.length * k := by
  induction l with
  | nil => simp
  | cons a l ih =>
    have h1 := h a List.mem_cons_self
    have h2 := ih fun t ht => h t (List.mem_cons_of_mem _ ht)
    simp only [List.map_cons, List.sum_cons, List.length_cons, Nat.add_mul, Nat.one_mul]
    omega
theorem GoodRow.ok {l : Str} {ts dd : List Str} (h : GoodRow l ts dd) : RowOk l ts dd := by
  have s1 := sum_le (l := ts) (k := 9) fun t ht => (allT_ok t (h.t t ht).1).ln
  have s2 := sum_le (l := dd) (k := 9) fun t ht => (allD_ok t (h.d t ht).1).ln
  have h1 := h.tl
  have h2 := h.dl
  have h3 := (let_ok l h.le).2
  exact ⟨by omega, by omega, by omega, by omega, by omega⟩
theorem GoodRow.err {l : Str} {ts dd : List Str} (h : GoodRow l ts dd) : rowErr (.str l) (some (ts.map D.str)) (some (dd.map D.str)) = none := by
  have e1 : (isStr (D.str l) && decide (strOf (D.str l) ∈ cst_LETTERS)) = true := by
    show decide (l ∈ cst_LETTERS) = true
    exact decide_eq_true h.le
  have e2 : (ts.map D.str).all (isTestD l) = true := by
    rw [List.all_eq_true]
    intro x hx
    obtain ⟨t, ht, rfl⟩ := List.mem_map.mp hx
    exact (h.t t ht).2
  have e3 : (dd.map D.str).all (isDeedD l) = true := by
    rw [List.all_eq_true]
    intro x hx
    obtain ⟨t, ht, rfl⟩ := List.mem_map.mp hx
    exact (h.d t ht).2
  unfold rowErr
  rw [if_neg (by rw [e1]; decide), if_neg (by show ¬ (ts.map D.str).all (isTestD l) = false; rw [e2]; decide), if_neg (by show ¬ (dd.map D.str).all (isDeedD l) = false; rw [e3]; decide)]



theorem allT_str : ∀ t ∈ allT, PyData.strOk t = true := by decide +kernel
theorem allD_str : ∀ t ∈ cst_DEEDS, PyData.strOk t = true := by decide +kernel
def pieceW (k s : Str) (ts : List Str) : List Str := if ts = [] then [] else [k ++ Txt.join s ts]
theorem tl_bits : TL.tl kIf = TL.tl (Str.ofString " ") ++ TL.tl (Str.ofString "if ") ∧ TL.tl kDo = TL.tl (Str.ofString " ") ++ TL.tl (Str.ofString "do ") := by decide +kernel
theorem rowT_join (l : Str) (ts dd : List Str) : Txt.join (Str.ofString " ") (l :: (pieceW (Str.ofString "if ") kAnd ts ++ pieceW (Str.ofString "do ") kThen dd)) = rowT l ts dd := by
  obtain ⟨b1, b2⟩ := tl_bits
  apply TL.ext_tl
  unfold rowT partT pieceW
  have e0 : TL.tl Str.empty = [] := rfl
  have e1 : TL.tl noS = [] := rfl
  rw [TL.join_eq, TL.tl_append, TL.tl_append, TL.tl_append, e0]
  by_cases h1 : ts = [] <;> by_cases h2 : dd = [] <;> simp [h1, h2, Str.join, TL.tl_append, e0, e1, b1, b2]
def moreT : List Str := ["first", "gone"]
def moreD : List Str := ["do", "drop"]
def testsOf (l : Str) : List Str := (["old", "all", "open", "same"] : List Str) ++ (if l = "list" then [] else moreT)
def deedsOf (l : Str) : List Str := (["take", "sweep", "clear"] : List Str) ++ (if l = "list" then [] else moreD)
theorem drawn_ok : ∀ l ∈ cst_LETTERS, (∀ t ∈ testsOf l, (t ∈ allT ∧ isTestS t l = true) ∧ (kNot ++ t ∈ allT ∧ isTestS (kNot ++ t) l = true) ∧ t.length ≤ 9) ∧
    (∀ d ∈ deedsOf l, d ∈ cst_DEEDS ∧ isDeedS d l = true) ∧ (testsOf l).length ≤ 6 ∧ 0 < (testsOf l).length ∧ (deedsOf l).length ≤ 6 ∧ 0 < (deedsOf l).length := by decide +kernel



theorem p_is_sequence (T : Tp P K mg) {d : D} {b : Bool} {C : Cells} {Q : QE} {Qx : QX} (h : SqA K C d b) (q : Q (.bl b) C) : callW (fw_is_sequence T) Qx [d] C Q := by
  refine call_all (show w_is_sequence T d Qx Q C from ?_)
  unfold w_is_sequence
  walk_at "g"
  refine s_isSq h ?_
  exact q
theorem p_fits (T : Tp P K mg) {x l : Str} {C : Cells} {Q : QE} {Qx : QX} (q : Q (.bl (fitsS x l)) C) : callW (fw_fits_letter T) Qx [.str x, .str l] C Q := by
  refine call_all (show w_fits_letter T (.str x) (.str l) Qx Q C from ?_)
  unfold w_fits_letter
  walk_at "g"
  unfold fitsS at q
  refine ite2M (fun h1 => ?_) (fun h1 => ?_)
  · rw [h1] at q; exact q
  · rw [eq_false_of_ne_true h1] at q
    walk_at "g"
    exact q
theorem p_is_test (T : Tp P K mg) {d : D} {l : Str} {C : Cells} {Q : QE} {Qx : QX} (ha : AnyD K C d) (q : Q (.bl (isTestD l d)) C) : callW (fw_is_test T) Qx [d, .str l] C Q := by
  refine call_all (show w_is_test T d (.str l) Qx Q C from ?_)
  unfold w_is_test
  walk_at "g"
  refine s_isStr ha ?_
  walk_at "g"
  have hl := ha.ln
  unfold isTestD at q
  by_cases hd : isStr d = true
  · obtain ⟨s, rfl⟩ : ∃ s, d = .str s := by cases d <;> first | exact ⟨_, rfl⟩ | cases hd
    refine ifF ?_
    have hl' : s.length ≤ 100000 := hl
    walk_at "g"
    refine if_val (.str (bareS s)) (fun h1 Q q => ?_) (fun h1 Q q => ?_) ?_
    · unfold bareS at q
      rw [if_pos (show Txt.startswith s kNot = true from h1)] at q
      walk_at "g"
      exact q
    · unfold bareS at q
      rw [if_neg (show ¬ Txt.startswith s kNot = true by rw [show Txt.startswith s kNot = false from h1]; decide)] at q
      exact q
    walk_at "g"
    have q' : Q (.bl (isTestS s l)) C := q
    unfold isTestS at q'
    refine ite2M (fun h2 => ?_) (fun h2 => ?_)
    · rw [show decide (bareS s ∈ cst_TESTS) = true from h2] at q'
      walk_at "g"
      exact p_fits T q'
    · rw [show decide (bareS s ∈ cst_TESTS) = false from eq_false_of_ne_true h2] at q'
      exact q'
  · have e : isStr d = false := by simpa using hd
    rw [e] at q ⊢
    refine ifT ?_
    walk_at "g"
    exact q
theorem p_is_deed (T : Tp P K mg) {d : D} {l : Str} {C : Cells} {Q : QE} {Qx : QX} (ha : AnyD K C d) (q : Q (.bl (isDeedD l d)) C) : callW (fw_is_deed T) Qx [d, .str l] C Q := by
  refine call_all (show w_is_deed T d (.str l) Qx Q C from ?_)
  unfold w_is_deed
  walk_at "g"
  refine s_isStr ha ?_
  walk_at "g"
  unfold isDeedD at q
  by_cases hd : isStr d = true
  · obtain ⟨s, rfl⟩ : ∃ s, d = .str s := by cases d <;> first | exact ⟨_, rfl⟩ | cases hd
    refine ifT ?_
    walk_at "g"
    have q' : Q (.bl (isDeedS s l)) C := q
    unfold isDeedS at q'
    refine ite2M (fun h2 => ?_) (fun h2 => ?_)
    · rw [show decide (s ∈ cst_DEEDS) = true from h2] at q'
      walk_at "g"
      exact p_fits T q'
    · rw [show decide (s ∈ cst_DEEDS) = false from eq_false_of_ne_true h2] at q'
      exact q'
  · have e : isStr d = false := by simpa using hd
    rw [e] at q ⊢
    refine ifF ?_
    exact q
theorem p_Row_init (T : Tp P K mg) {z : Addr} {d1 d2 d3 : D} {o2 o3 : Option (List D)} {C' : Cells} {Q : QE} {Qx : QX} (h1 : AnyD K ((z, .ins T.c_Row [] []) :: C') d1) (h2 : SqV K ((z, .ins T.c_Row [] []) :: C') d2 o2) (h3 : SqV K ((z, .ins T.c_Row [] []) :: C') d3 o3)
    (hb : ∀ w, rowErr d1 o2 o3 = some w → Qx (.ref T.c_InvalidRow) (some (["word"], [.str w])) ((z, .ins T.c_Row [] []) :: C'))
    (hg : rowErr d1 o2 o3 = none → Q .non ((z, .ins T.c_Row ["letter", "tests", "deeds"] [d1, .tup (o2.getD []), .tup (o3.getD [])]) :: C')) :
    w_Row_init T (.raw (.ref z)) d1 d2 d3 Qx Q ((z, .ins T.c_Row [] []) :: C') := by
  unfold w_Row_init
  walk_at "g"
  refine s_isStr h1 ?_
  walk_at "g"
  by_cases hd : isStr d1 = true
  · obtain ⟨s, rfl⟩ : ∃ s, d1 = .str s := by cases d1 <;> first | exact ⟨_, rfl⟩ | cases hd
    refine ifF ?_
    walk_at "g"
    refine ite2M (fun hL => ?_) (fun hL => ?_)
    · walk_at "g"
      refine hb _ ?_
      have : decide (s ∈ cst_LETTERS) = false := by simpa using hL
      unfold rowErr
      rw [if_pos (by show (true && decide (s ∈ cst_LETTERS)) = false; rw [this]; rfl)]
    have hL' : decide (s ∈ cst_LETTERS) = true := by simpa using hL
    have e1 : (isStr (D.str s) && decide (strOf (D.str s) ∈ cst_LETTERS)) = true := hL'
    walk_at "g"
    rcases h2 with ⟨rfl, hs2⟩ | ⟨xs, rfl, hs2, hxl, hxa⟩
    · refine p_is_sequence T hs2 ?_
      walk_at "g"
      refine hb _ ?_
      unfold rowErr
      rw [if_neg (by rw [e1]; decide), if_pos (by rfl)]
    refine p_is_sequence T (sq_seq hs2) ?_
    walk_at "g"
    refine s_it_seq hs2 fun P hP => ?_
    refine lcB_mapD (fun d => .bl (isTestD s d)) (hP _ hs2) (fun d hd k q => ?_) hxl ?_
    · walk_at "g"
      exact p_is_test T (hxa d hd) q
    walk_at "g"
    refine ite2M (fun hT => ?_) (fun hT => ?_)
    · walk_at "g"
      refine hb _ ?_
      have : xs.all (isTestD s) = false := by simpa using hT
      unfold rowErr
      rw [if_neg (by rw [e1]; decide), if_pos (by exact this)]
    have hT' : xs.all (isTestD s) = true := by simpa using hT
    walk_at "g"
    rcases h3 with ⟨rfl, hs3⟩ | ⟨ys, rfl, hs3, hyl, hya⟩
    · refine p_is_sequence T hs3 ?_
      walk_at "g"
      refine hb _ ?_
      unfold rowErr
      rw [if_neg (by rw [e1]; decide), if_neg (by show ¬ xs.all (isTestD s) = false; rw [hT']; decide), if_pos (by rfl)]
    refine p_is_sequence T (sq_seq hs3) ?_
    walk_at "g"
    refine s_it_seq hs3 fun P hP => ?_
    refine lcB_mapD (fun d => .bl (isDeedD s d)) (hP _ hs3) (fun d hd k q => ?_) hyl ?_
    · walk_at "g"
      exact p_is_deed T (hya d hd) q
    walk_at "g"
    refine ite2M (fun hD => ?_) (fun hD => ?_)
    · walk_at "g"
      refine hb _ ?_
      have : ys.all (isDeedD s) = false := by simpa using hD
      unfold rowErr
      rw [if_neg (by rw [e1]; decide), if_neg (by show ¬ xs.all (isTestD s) = false; rw [hT']; decide), if_pos (by exact this)]
    have hD' : ys.all (isDeedD s) = true := by simpa using hD
    have hn : rowErr (.str s) (some xs) (some ys) = none := by
      unfold rowErr
      rw [if_neg (by rw [e1]; decide), if_neg (by show ¬ xs.all (isTestD s) = false; rw [hT']; decide), if_neg (by show ¬ ys.all (isDeedD s) = false; rw [hD']; decide)]
    walk_at "g"
    refine s_tuple_seq (seqD_ins hs2) ?_
    walk_at "g"
    refine s_tuple_seq (seqD_ins hs3) ?_
    walk_at "g"
    exact hg hn
  · have e : isStr d1 = false := by simpa using hd
    rw [e]
    refine ifT ?_
    walk_at "g"
    refine hb _ ?_
    unfold rowErr
    rw [e]
    rfl



theorem p_Row_str (T : Tp P K mg) {l : Str} {ts dd : List Str} {C : Cells} {Q : QE} {Qx : QX} (h : RowOk l ts dd) (q : Q (.str (rowT l ts dd)) C) : w_Row_str T (rowD T.c_Row l ts dd) Qx Q C := by
  have p1 := partT_len kIf kAnd ts h.t h.t2 (by decide) (by decide)
  have p2 := partT_len kDo kThen dd h.d h.d2 (by decide) (by decide)
  have j1 := txt_join_len kAnd ts
  have j2 := txt_join_len kThen dd
  have m1 : ts.length * kAnd.length ≤ 1000 * 5 := Nat.mul_le_mul h.t2 (by decide)
  have m2 : dd.length * kThen.length ≤ 1000 * 6 := Nat.mul_le_mul h.d2 (by decide)
  have e1 : (Str.ofString " if ").length = 4 := by decide
  have e2 : (Str.ofString " do ").length = 4 := by decide
  have e3 : (Str.ofString " and ").length = 5 := by decide
  have e4 : (Str.ofString " then ").length = 6 := by decide
  have ht := h.t; have ht2 := h.t2; have hd := h.d; have hd2 := h.d2; have hl := h.l
  have j1 : (Txt.join (Str.ofString " and ") ts).length ≤ 10000 := by show (Txt.join kAnd ts).length ≤ _; omega
  have j2 : (Txt.join (Str.ofString " then ") dd).length ≤ 10000 := by show (Txt.join kThen dd).length ≤ _; omega
  unfold w_Row_str rowD
  walk_at "g"
  refine if_val (.str (partT kIf kAnd ts)) (fun h1 Q q => ?_) (fun h1 Q q => ?_) ?_
  · have e : ¬ ts = [] := by rintro rfl; simp at h1
    unfold partT at q
    rw [if_neg e] at q
    walk_at "g"
    refine ⟨by rw [e3]; omega, ?_⟩
    walk_at "g"
    exact ⟨by rw [Str.length_append, Str.length_append, e1, str_len0]; omega, q⟩
  · have e : ts = [] := by
      cases ts with
      | nil => rfl
      | cons => simp at h1
    unfold partT at q
    rw [if_pos e] at q
    exact q
  walk_at "g"
  refine if_val (.str (partT kDo kThen dd)) (fun h1 Q q => ?_) (fun h1 Q q => ?_) ?_
  · have e : ¬ dd = [] := by rintro rfl; simp at h1
    unfold partT at q
    rw [if_neg e] at q
    walk_at "g"
    refine ⟨by rw [e4]; omega, ?_⟩
    walk_at "g"
    exact ⟨by rw [Str.length_append, Str.length_append, e2, str_len0]; omega, q⟩
  · have e : dd = [] := by
      cases dd with
      | nil => rfl
      | cons => simp at h1
    unfold partT at q
    rw [if_pos e] at q
    exact q
  have a1 : (Str.empty ++ l).length ≤ 20 := by rw [Str.length_append, str_len0]; omega
  have a2 : (Str.empty ++ l ++ partT kIf kAnd ts).length ≤ 8100 := by rw [Str.length_append]; omega
  have a3 : (Str.empty ++ l ++ partT kIf kAnd ts ++ partT kDo kThen dd).length ≤ 18000 := by rw [Str.length_append]; omega
  walk_at "g"
  exact q
theorem o_Row_str (T : Tp P K mg) {l : Str} {ts dd : List Str} {C : Cells} {Q : QE} (h : RowOk l ts dd) (q : ∀ r, r = rowT l ts dd → Q (.str r) C) : ownStr T.c_Row (fw_Row_str T) (rowD T.c_Row l ts dd) C Q :=
  ⟨_, _, .inl rfl, callN_all (p_Row_str T (Qx := fun _ _ _ => False) h ⟨_, rfl, q _ rfl⟩)⟩


theorem c_deal (T : Tp P K mg) {ns : List Int} {b : Int} {Xq : QX} {Q : QE} {C : Cells} (hl : ns.length ≤ 63) (hb : 0 ≤ b) (hb2 : b ≤ 63) (h : ∀ p q qs m, DealOk qs m → Q (.raw (.ref p)) (dealC p q qs m ++ C)) :
    callW (fw__law_deal T) Xq [.lst (ns.map .int), .int b] C Q := call_none (p_deal T hl hb hb2 h)
theorem c_draw0 (T : Tp P K mg) {p q : Addr} {qs : List Int} {m n : Int} {Xq : QX} {Q : QE} (hd : DealOk qs m) (hn : 0 < n) (hn2 : n < 1073741824) (h : ∀ k qs' m', 0 ≤ k → k < n → DealOk qs' m' → Q (.int k) (dealC p q qs' m')) :
    callW (fw__law_draw T) Xq [.raw (.ref p), .int n] (dealC p q qs m) Q := call_all (p_draw T hd hn hn2 h)



theorem c_drawP (T : Tp P K mg) {p q : Addr} {qs : List Int} {m n : Int} {Xq : QX} {Q : QE} {C r : Cells} (pm : C.Perm (dealC p q qs m ++ r)) (hd : DealOk qs m) (hn : 0 < n) (hn2 : n < 1073741824) (h : ∀ k qs' m', 0 ≤ k → k < n → DealOk qs' m' → Q (.int k) (dealC p q qs' m' ++ r)) :
    callW (fw__law_draw T) Xq [.raw (.ref p), .int n] C Q := ⟨dealC p q qs m, r, pm, p_draw T hd hn hn2 h⟩
theorem eqd_rfl {C : Cells} {d : D} (h1 : plainD d = true) (h2 : (toPy d).canLay0 = true) (h3 : (toPy d).depth ≤ 30) : EqD C d d true := by
  have hs : SeqAt.shaped (toPy d) = true := by
    unfold SeqAt.shaped
    rw [h2, Bool.true_and]
    exact decide_eq_true (by omega)
  exact ⟨_, _, .inl ⟨h1, rfl⟩, .inl ⟨h1, rfl⟩, hs, hs, SeqAt.eqv_refl _ h2⟩



theorem p_lrow (T : Tp P K mg) {p q : Addr} {qs : List Int} {m : Int} {Qx : QX} {Q : QE} (hd : DealOk qs m) (k : ∀ l ts dd qs' m', GoodRow l ts dd → DealOk qs' m' → Q (.tup [.str l, .lst (ts.map D.str), .lst (dd.map D.str)]) (dealC p q qs' m')) :
    w__law_row T (.raw (.ref p)) Qx Q (dealC p q qs m) := by
  unfold w__law_row
  walk_at "g"
  refine c_draw0 T hd (by decide) (by decide) fun f qs1 m1 hf0 hf1 hd1 => ?_
  refine s_ix_at (l := cst_LETTERS) (g := D.str) hf0 hf1 fun l hl => ?_
  obtain ⟨hT, hD, hTl, hT0, hDl, hD0⟩ := drawn_ok l hl
  have go : w__law_row_j1 T (.raw (.ref p)) (.str l) Qx Q (.lst ((testsOf l).map D.str), .lst ((deedsOf l).map D.str)) (dealC p q qs1 m1) := by
    unfold w__law_row_j1
    walk_at "g"
    refine c_draw0 T hd1 (by decide) (by decide) fun n qs2 m2 hn0 hn1 hd2 => ?_
    walk_at "g"
    refine lcB_inv (fun i acc C1 => ∃ (xs : List Str) (qs : List Int) (m : Int), DealOk qs m ∧ acc = xs.map D.str ∧ xs.length = i ∧ i ≤ 4 ∧ (∀ x ∈ xs, x ∈ testsOf l) ∧ C1 = dealC p q qs m) ⟨[], qs2, m2, hd2, rfl, rfl, by decide, by simp, rfl⟩ ?_ ?_ (by rw [rangeD_len]; omega) ?_
    · rintro i d acc C1 k hi ⟨xs, qs2, m2, hd2, rfl, rfl, hl4, hx, rfl⟩ hk
      have hlt : xs.length < 4 := by
        have := (List.getElem?_eq_some_iff.mp hi).1
        rw [rangeD_len] at this
        omega
      refine ⟨trivial, ?_⟩
      walk_at "g"
      refine c_draw0 T hd2 (by rw [List.length_map]; omega) (by rw [List.length_map]; omega) fun f qs3 m3 hf0 hf1 hd3 => ?_
      rw [List.length_map] at hf1
      refine s_ix_at (l := testsOf l) (g := D.str) hf0 hf1 fun t ht => hk _ _ ⟨xs ++ [t], qs3, m3, hd3, by simp, by simp, by omega, fun x hx' => ?_, rfl⟩
      rcases List.mem_append.mp hx' with h | h
      · exact hx x h
      · rw [List.mem_singleton.mp h]; exact ht
    rotate_left
    · rintro i acc C1 ⟨xs, _, _, _, rfl, h, _⟩
      rw [List.length_map]; omega
    rintro acc C1 ⟨ts0, qs3, m3, hd3, rfl, hxl, hl4, hts0, rfl⟩
    replace hl4 : ts0.length ≤ 4 := by omega
    clear hxl
    refine ⟨trivial, ?_⟩
    walk_at "g"
    refine lcB_inv (fun i acc C1 => ∃ (xs : List Str) (qs : List Int) (m : Int), DealOk qs m ∧ acc = xs.map D.str ∧ xs.length = i ∧ (∀ x ∈ xs, x ∈ allT ∧ isTestS x l = true) ∧ C1 = dealC p q qs m) ⟨[], qs3, m3, hd3, rfl, rfl, by simp, rfl⟩ ?_ ?_ (by rw [List.length_map]; omega) ?_
    · rintro i d acc C1 k hi ⟨xs, qs4, m4, hd4, rfl, rfl, hx, rfl⟩ hk
      obtain ⟨t, ht, rfl⟩ := List.mem_map.mp (List.mem_of_getElem? hi)
      have h3 := hT t (hts0 t ht)
      refine ⟨trivial, ?_⟩
      walk_at "g"
      refine c_draw0 T hd4 (by decide) (by decide) fun f qs5 m5 hf0 hf1 hd5 => ?_
      have fin : ∀ t', (t' ∈ allT ∧ isTestS t' l = true) → k (.str t') (dealC p q qs5 m5) := fun t' ht' => hk _ _
        ⟨xs ++ [t'], qs5, m5, hd5, by simp, by simp, fun x hx' => by
          rcases List.mem_append.mp hx' with h | h
          · exact hx x h
          · rw [List.mem_singleton.mp h]; exact ht', rfl⟩
      have hlen : (Str.ofString "not ").length = 4 := by decide
      walk_at "g"
      refine ite2M (fun h1 => ?_) (fun h1 => ?_)
      · walk_at "g"
        exact fin _ h3.2.1
      · walk_at "g"
        exact fin _ h3.1
    rotate_left
    · rintro i acc C1 ⟨xs, _, _, _, rfl, h, _⟩
      rw [List.length_map]; omega
    rintro acc C1 ⟨ts, qs4, m4, hd4, rfl, hxl, hts, rfl⟩
    rw [List.length_map] at hxl
    refine ⟨trivial, ?_⟩
    walk_at "g"
    refine c_draw0 T hd4 (by decide) (by decide) fun n qs5 m5 hn0 hn1 hd5 => ?_
    walk_at "g"
    refine lcB_inv (fun i acc C1 => ∃ (xs : List Str) (qs : List Int) (m : Int), DealOk qs m ∧ acc = xs.map D.str ∧ xs.length = i ∧ i ≤ 4 ∧ (∀ x ∈ xs, x ∈ deedsOf l) ∧ C1 = dealC p q qs m) ⟨[], qs5, m5, hd5, rfl, rfl, by decide, by simp, rfl⟩ ?_ ?_ (by rw [rangeD_len]; omega) ?_
    · rintro i d acc C1 k hi ⟨xs, qs2, m2, hd2, rfl, rfl, hl4, hx, rfl⟩ hk
      have hlt : xs.length < 4 := by
        have := (List.getElem?_eq_some_iff.mp hi).1
        rw [rangeD_len] at this
        omega
      refine ⟨trivial, ?_⟩
      walk_at "g"
      refine c_draw0 T hd2 (by rw [List.length_map]; omega) (by rw [List.length_map]; omega) fun f qs3 m3 hf0 hf1 hd3 => ?_
      rw [List.length_map] at hf1
      refine s_ix_at (l := deedsOf l) (g := D.str) hf0 hf1 fun t ht => hk _ _ ⟨xs ++ [t], qs3, m3, hd3, by simp, by simp, by omega, fun x hx' => ?_, rfl⟩
      rcases List.mem_append.mp hx' with h | h
      · exact hx x h
      · rw [List.mem_singleton.mp h]; exact ht
    rotate_left
    · rintro i acc C1 ⟨xs, _, _, _, rfl, h, _⟩
      rw [List.length_map]; omega
    rintro acc C1 ⟨dd, qs6, m6, hd6, rfl, hdl, hdl4, hdd, rfl⟩
    refine ⟨trivial, ?_⟩
    walk_at "g"
    exact k l ts dd qs6 m6 ⟨hl, hts, fun d h => hD d (hdd d h), by omega, by omega⟩ hd6
  walk_at "g"
  refine ite2M (fun h1 => ?_) (fun h1 => ?_)
  · have e : ¬ l = "list" := by simpa using h1
    walk_at "g"
    have e1 : (testsOf l).map D.str = [.str "old", .str "all", .str "open", .str "same"] ++ [.str "first", .str "gone"] := by unfold testsOf; rw [if_neg e]; rfl
    have e2 : (deedsOf l).map D.str = [.str "take", .str "sweep", .str "clear"] ++ [.str "do", .str "drop"] := by unfold deedsOf; rw [if_neg e]; rfl
    rw [e1, e2] at go
    exact go
  · have e : l = "list" := by simpa using h1
    walk_at "g"
    have e1 : (testsOf l).map D.str = [.str "old", .str "all", .str "open", .str "same"] := by unfold testsOf; rw [if_pos e]; rfl
    have e2 : (deedsOf l).map D.str = [.str "take", .str "sweep", .str "clear"] := by unfold deedsOf; rw [if_pos e]; rfl
    rw [e1, e2] at go
    exact go
theorem p_lrow_text (T : Tp P K mg) {l : Str} {ts dd : List Str} {C : Cells} {Q : QE} {Qx : QX} (h : GoodRow l ts dd) (q : ∀ r, r = rowT l ts dd → Q (.str r) C) : callW (fw__law_row_text T) Qx [.tup [.str l, .lst (ts.map D.str), .lst (dd.map D.str)]] C Q := by
  refine cl__law_row_text T ?_
  have sT : ∀ t ∈ ts, PyData.strOk t = true := fun t ht => allT_str t (h.t t ht).1
  have sD : ∀ t ∈ dd, PyData.strOk t = true := fun t ht => allD_str t (h.d t ht).1
  have ok := h.ok
  have j1 := txt_join_len kAnd ts
  have j2 := txt_join_len kThen dd
  have m1 : ts.length * kAnd.length ≤ 1000 * 5 := Nat.mul_le_mul ok.t2 (by decide)
  have m2 : dd.length * kThen.length ≤ 1000 * 6 := Nat.mul_le_mul ok.d2 (by decide)
  have e1 : (Str.ofString "if ").length = 3 := by decide
  have e2 : (Str.ofString "do ").length = 3 := by decide
  have e3 : (Str.ofString " and ").length = 5 := by decide
  have e4 : (Str.ofString " then ").length = 6 := by decide
  have e5 : (Str.ofString " ").length = 1 := by decide
  have ht := ok.t; have ht2 := ok.t2; have hd := ok.d; have hd2 := ok.d2; have hl := ok.l
  have k1 : (Txt.join (Str.ofString " and ") ts).length ≤ 10000 := by show (Txt.join kAnd ts).length ≤ _; omega
  have k2 : (Txt.join (Str.ofString " then ") dd).length ≤ 10000 := by show (Txt.join kThen dd).length ≤ _; omega
  have w1 : (pieceW (Str.ofString "if ") kAnd ts).length ≤ 1 ∧ ((pieceW (Str.ofString "if ") kAnd ts).map (·.length)).sum ≤ 10003 := by
    unfold pieceW; split
    · exact ⟨by decide, by decide⟩
    · exact ⟨by simp, by simp only [List.map, List.sum_cons, List.sum_nil, Str.length_append]; show _ + (Txt.join (Str.ofString " and ") ts).length + 0 ≤ _; omega⟩
  have w2 : (pieceW (Str.ofString "do ") kThen dd).length ≤ 1 ∧ ((pieceW (Str.ofString "do ") kThen dd).map (·.length)).sum ≤ 10003 := by
    unfold pieceW; split
    · exact ⟨by decide, by decide⟩
    · exact ⟨by simp, by simp only [List.map, List.sum_cons, List.sum_nil, Str.length_append]; show _ + (Txt.join (Str.ofString " then ") dd).length + 0 ≤ _; omega⟩
  unfold w__law_row_text
  walk_at "g"
  intro a
  walk_at "g"
  have fin : w__law_row_text_j2 T (.raw (.ref a)) Qx Q () ((a, .lst ((l :: (pieceW (Str.ofString "if ") kAnd ts ++ pieceW (Str.ofString "do ") kThen dd)).map D.str)) :: C) := by
    unfold w__law_row_text_j2
    walk_at "g"
    refine ⟨?_, ?_⟩
    · rw [e5, Nat.mul_one]
      simp only [List.map_cons, List.map_append, List.sum_cons, List.sum_append, List.length_cons, List.length_append]
      omega
    refine drop_one ?_
    exact q _ (rowT_join l ts dd)
  have mid : w__law_row_text_j1 T (.lst (dd.map D.str)) (.raw (.ref a)) Qx Q () ((a, .lst ((l :: pieceW (Str.ofString "if ") kAnd ts).map D.str)) :: C) := by
    unfold w__law_row_text_j1
    walk_at "g"
    refine s_neD (.inl rfl) (eqd_lstS (xs := dd) (ys := []) .l .l sD (by simp)) ?_
    walk_at "g"
    refine ite2M (fun h1 => ?_) (fun h1 => ?_)
    · have e : ¬ dd = [] := by simpa using h1
      walk_at "g"
      refine ⟨by rw [e4]; omega, ?_⟩
      walk_at "g"
      rw [show pieceW (Str.ofString "do ") kThen dd = [Str.ofString "do " ++ Txt.join (Str.ofString " then ") dd] by unfold pieceW; rw [if_neg e]; rfl, ← List.cons_append, List.map_append] at fin
      exact fin
    · have e : dd = [] := by simpa using h1
      walk_at "g"
      rw [show pieceW (Str.ofString "do ") kThen dd = [] by unfold pieceW; rw [if_pos e], List.append_nil] at fin
      exact fin
  refine s_neD (.inl rfl) (eqd_lstS (xs := ts) (ys := []) .l .l sT (by simp)) ?_
  walk_at "g"
  refine ite2M (fun h1 => ?_) (fun h1 => ?_)
  · have e : ¬ ts = [] := by simpa using h1
    walk_at "g"
    refine ⟨by rw [e3]; omega, ?_⟩
    walk_at "g"
    rw [show pieceW (Str.ofString "if ") kAnd ts = [Str.ofString "if " ++ Txt.join (Str.ofString " and ") ts] by unfold pieceW; rw [if_neg e]; rfl] at mid
    exact mid
  · have e : ts = [] := by simpa using h1
    walk_at "g"
    rw [show pieceW (Str.ofString "if ") kAnd ts = [] by unfold pieceW; rw [if_pos e]] at mid
    exact mid



theorem mk_Row (T : Tp P K mg) {d1 d2 d3 : D} {o2 o3 : Option (List D)} {C : Cells} {Q : QE} {Xq : QX} (h1 : AnyD K C d1) (h2 : SqV K C d2 o2) (h3 : SqV K C d3 o3) (he : rowErr d1 o2 o3 = none)
    (q : Q (.ins T.c_Row ["letter", "tests", "deeds"] [d1, .tup (o2.getD []), .tup (o3.getD [])]) C) : pMkF (fw_Row_init T) Xq T.c_Row [d1, d2, d3] C Q := by
  have sub : ∀ {d : D} {o : Option (List D)} {z : Addr}, SqV K C d o → SqV K ((z, .ins T.c_Row [] []) :: C) d o := by
    rintro d o z (⟨h, h2⟩ | ⟨xs, h, h2, h3, h4⟩)
    · exact .inl ⟨h, sqA_sub (fun x hx => List.mem_cons_of_mem _ hx) h2⟩
    · exact .inr ⟨xs, h, seqD_sub (fun x hx => List.mem_cons_of_mem _ hx) h2, h3, fun x hx => anyD_sub (fun x hx => List.mem_cons_of_mem _ hx) (h4 x hx)⟩
  refine mkF_of (ns := []) (fs := []) fun z => p_Row_init T (anyD_sub (fun x hx => List.mem_cons_of_mem _ hx) h1) (sub h2) (sub h3) (fun w hw => by rw [he] at hw; cases hw) fun _ => ?_
  exact ⟨rfl, 0, z, _, _, _, rfl, rfl, q⟩
theorem sqv_strs {C : Cells} {d : D} {xs : List Str} (h : SeqD C d (xs.map D.str)) (hl : xs.length ≤ 100000) (hx : ∀ x ∈ xs, x.length ≤ 100000) : SqV K C d (some (xs.map D.str)) :=
  .inr ⟨_, rfl, h, by rw [List.length_map]; exact hl, fun x hx' => by
    obtain ⟨y, hy, rfl⟩ := List.mem_map.mp hx'
    exact any_str (hx y hy)⟩
theorem p_Row_read (T : Tp P K mg) {s : Str} {C : Cells} {Q : QE} {Qx : QX} (hl : s.length ≤ 100000) (ht : (rdT s).length ≤ 100000) (hd : (rdD s).length ≤ 100000) (htl : ∀ x ∈ rdT s, x.length ≤ 100000) (hdl : ∀ x ∈ rdD s, x.length ≤ 100000)
    (he : rowErr (.str (rdL s)) (some ((rdT s).map D.str)) (some ((rdD s).map D.str)) = none) (q : Q (rowD T.c_Row (rdL s) (rdT s) (rdD s)) C) : callW (fw_Row_read T) Qx [.raw (.ref T.c_Row), .str s] C Q := by
  refine cl_Row_read T ?_
  have rl := rd_len s
  have l1 : (Txt.partition s (Str.ofString " do ")).1.length ≤ 100000 := Nat.le_trans rl.1 hl
  have l2 : (Txt.partition s (Str.ofString " do ")).2.2.length ≤ 100000 := Nat.le_trans rl.2.1 hl
  have l3 := Nat.le_trans rl.2.2.1 hl
  have l4 : (Txt.partition (Txt.partition s (Str.ofString " do ")).1 (Str.ofString " if ")).2.2.length ≤ 100000 := Nat.le_trans rl.2.2.2 hl
  unfold w_Row_read
  walk_at "g"
  refine if_val (.lst ((rdT s).map D.str)) (fun h1 Q q => ?_) (fun h1 Q q => ?_) ?_
  · unfold rdT at q
    rw [if_pos (show (!decide ((rdQ s).2.1 = noS)) = true from h1)] at q
    walk_at "g"
    exact q
  · unfold rdT at q
    rw [if_neg (by rw [show (!decide ((rdQ s).2.1 = noS)) = false from h1]; decide)] at q
    walk_at "g"
    exact q
  walk_at "g"
  refine if_val (.lst ((rdD s).map D.str)) (fun h1 Q q => ?_) (fun h1 Q q => ?_) ?_
  · unfold rdD at q
    rw [if_pos (show (!decide ((rdP s).2.1 = noS)) = true from h1)] at q
    walk_at "g"
    exact q
  · unfold rdD at q
    rw [if_neg (by rw [show (!decide ((rdP s).2.1 = noS)) = false from h1]; decide)] at q
    walk_at "g"
    exact q
  walk_at "g"
  refine mk_Row T (any_str l3) (sqv_strs .l ht htl) (sqv_strs .l hd hdl) he ?_
  walk_at "g"
  unfold w_Row_read_j1
  walk_at "g"
  exact q
theorem mkX_Row (T : Tp P K mg) {d1 d2 d3 : D} {o2 o3 : Option (List D)} {w : Str} {C : Cells} {Q : QE} {Xq : QX} (h1 : AnyD K C d1) (h2 : SqV K C d2 o2) (h3 : SqV K C d3 o3) (he : rowErr d1 o2 o3 = some w)
    (qx : ∀ z, Xq (.ref T.c_InvalidRow) (some (["word"], [.str w])) ((z, .ins T.c_Row [] []) :: C)) : pMkF (fw_Row_init T) Xq T.c_Row [d1, d2, d3] C Q := by
  have sub : ∀ {d : D} {o : Option (List D)} {z : Addr}, SqV K C d o → SqV K ((z, .ins T.c_Row [] []) :: C) d o := by
    rintro d o z (⟨h, h2⟩ | ⟨xs, h, h2, h3, h4⟩)
    · exact .inl ⟨h, sqA_sub (fun x hx => List.mem_cons_of_mem _ hx) h2⟩
    · exact .inr ⟨xs, h, seqD_sub (fun x hx => List.mem_cons_of_mem _ hx) h2, h3, fun x hx => anyD_sub (fun x hx => List.mem_cons_of_mem _ hx) (h4 x hx)⟩
  refine mkF_of (ns := []) (fs := []) fun z => p_Row_init T (anyD_sub (fun x hx => List.mem_cons_of_mem _ hx) h1) (sub h2) (sub h3) (fun w' hw => ?_) fun hg => ?_
  · rw [he] at hw; cases hw; exact qx z
  · rw [he] at hg; cases hg
theorem p_Row_readX (T : Tp P K mg) {s w : Str} {C : Cells} {Q : QE} {Qx : QX} (hl : s.length ≤ 100000) (ht : (rdT s).length ≤ 100000) (hd : (rdD s).length ≤ 100000) (htl : ∀ x ∈ rdT s, x.length ≤ 100000) (hdl : ∀ x ∈ rdD s, x.length ≤ 100000)
    (he : rowErr (.str (rdL s)) (some ((rdT s).map D.str)) (some ((rdD s).map D.str)) = some w) (qx : ∀ z, Qx (.ref T.c_InvalidText) (some (["at"], [.int 0])) ((z, .ins T.c_Row [] []) :: C)) : callW (fw_Row_read T) Qx [.raw (.ref T.c_Row), .str s] C Q := by
  refine cl_Row_read T ?_
  have rl := rd_len s
  have l1 : (Txt.partition s (Str.ofString " do ")).1.length ≤ 100000 := Nat.le_trans rl.1 hl
  have l2 : (Txt.partition s (Str.ofString " do ")).2.2.length ≤ 100000 := Nat.le_trans rl.2.1 hl
  have l3 := Nat.le_trans rl.2.2.1 hl
  have l4 : (Txt.partition (Txt.partition s (Str.ofString " do ")).1 (Str.ofString " if ")).2.2.length ≤ 100000 := Nat.le_trans rl.2.2.2 hl
  unfold w_Row_read
  walk_at "g"
  refine if_val (.lst ((rdT s).map D.str)) (fun h1 Q q => ?_) (fun h1 Q q => ?_) ?_
  · unfold rdT at q
    rw [if_pos (show (!decide ((rdQ s).2.1 = noS)) = true from h1)] at q
    walk_at "g"
    exact q
  · unfold rdT at q
    rw [if_neg (by rw [show (!decide ((rdQ s).2.1 = noS)) = false from h1]; decide)] at q
    walk_at "g"
    exact q
  walk_at "g"
  refine if_val (.lst ((rdD s).map D.str)) (fun h1 Q q => ?_) (fun h1 Q q => ?_) ?_
  · unfold rdD at q
    rw [if_pos (show (!decide ((rdP s).2.1 = noS)) = true from h1)] at q
    walk_at "g"
    exact q
  · unfold rdD at q
    rw [if_neg (by rw [show (!decide ((rdP s).2.1 = noS)) = false from h1]; decide)] at q
    walk_at "g"
    exact q
  walk_at "g"
  refine mkX_Row T (any_str l3) (sqv_strs .l ht htl) (sqv_strs .l hd hdl) he fun z => ?_
  refine ⟨true, T.exm_InvalidRow_InvalidRow, ifT ⟨T.x_InvalidRow.sub, ?_⟩⟩
  walk_at "g"
  exact qx z
section
variable {l t w : Str} {ts dd ws r : List Str} {A : List Str}
def tstG (A : List Str) : List Str → Option (List Str)
  | [] => none
  | w :: r => if w = "not" then (match r with
      | [] => none
      | x :: r2 => if x ∈ A then (match r2 with
        | [] => some []
        | y :: r3 => if y = "and" then tstG A r3 else some (y :: r3)) else none)
    else if w ∈ A then (match r with
        | [] => some []
        | y :: r3 => if y = "and" then tstG A r3 else some (y :: r3)) else none
def ddsG (A : List Str) : List Str → Option (List Str)
  | [] => none
  | w :: r => if w ∈ A then (match r with
        | [] => some []
        | y :: r3 => if y = "then" then ddsG A r3 else some (y :: r3)) else none
def accW : List Str → Bool
  | [] => false
  | l :: r => decide (l ∈ cst_LETTERS) && (match (if r.head? = some ("if" : Str) then tstG (testsOf l) r.tail else some r) with
    | none => false
    | some r2 => match (if r2.head? = some ("do" : Str) then ddsG (deedsOf l) r2.tail else some r2) with
      | none => false
      | some r3 => r3.isEmpty)
def interS (s : Str) : List (List Str) → List Str
  | [] => []
  | [p] => p
  | p :: q => p ++ s :: interS s q
def kSp1 : Str := " "
def wT (t : Str) : List Str := Txt.split t kSp1
def rowW (l : Str) (ts dd : List Str) : List Str := l :: ((if ts = [] then [] else ("if" : Str) :: interS "and" (ts.map wT)) ++ (if dd = [] then [] else ("do" : Str) :: interS "then" (dd.map wT)))
theorem join_split1 (t : Str) : Txt.join kSp1 (wT t) = t := by
  rw [TL.join_eq]
  exact PySem.StrLaws.join_split t kSp1
theorem tl_sp1 : TL.tl kSp1 = [32] ∧ kSp1.cps.all (· < 256) = true := by decide +kernel
theorem wT_tl (t : Str) : (wT t).map TL.tl = wdsT t := by
  unfold wT wdsT
  obtain ⟨e1, e2⟩ := tl_sp1
  rw [TL.split_spl t kSp1 (by rw [e1]; simp) (TL.kind_ok e2), e1]
theorem interS_tl (s : Str) : ∀ ps : List (List Str), (interS s ps).map TL.tl = inter (TL.tl s) (ps.map fun p => p.map TL.tl)
  | [] => rfl
  | [p] => rfl
  | p :: q :: r => by
    have := interS_tl s (q :: r)
    show (p ++ s :: interS s (q :: r)).map TL.tl = p.map TL.tl ++ TL.tl s :: inter (TL.tl s) ((q :: r).map fun p => p.map TL.tl)
    rw [List.map_append, List.map_cons, this]
theorem map_tl_inj' {a b : List Str} (h : a.map TL.tl = b.map TL.tl) : a = b := by
  induction a generalizing b with
  | nil => cases b with
    | nil => rfl
    | cons => cases h
  | cons x a ih =>
    cases b with
    | nil => cases h
    | cons y b =>
      rw [List.map_cons, List.map_cons] at h
      injection h with h1 h2
      rw [TL.ext_tl h1, ih h2]
theorem kw_tl : TL.tl ("if" : Str) = wIf ∧ TL.tl ("do" : Str) = wDo ∧ TL.tl ("and" : Str) = wAnd ∧ TL.tl ("then" : Str) = wThen := by decide +kernel
theorem rowW_split (hl : l ∈ cst_LETTERS) (ht : ∀ t ∈ ts, t ∈ allT) (hd : ∀ d ∈ dd, d ∈ cst_DEEDS) : wT (rowT l ts dd) = rowW l ts dd := by
  have kt := fun t h => allT_ok t (ht t h)
  have kd := fun t h => allD_ok t (hd t h)
  have nl := (let_ok l hl).1
  obtain ⟨n1, n2, n3, n4⟩ := wd_bits
  have hx : TL.tl (rowT l ts dd) = jn ((TL.tl l :: partW wIf wAnd ts) ++ partW wDo wThen dd) := by
    unfold rowT
    rw [TL.tl_append, TL.tl_append, TL.tl_append]
    rw [show (TL.tl Str.empty ++ TL.tl l) = jn [TL.tl l] from rfl]
    rw [tl_partT tl_kIf tl_kAnd (fun t h => ⟨(kt t h).tl, (kt t h).ne⟩) [TL.tl l] (by simp)]
    rw [tl_partT tl_kDo tl_kThen (fun t h => ⟨(kd t h).tl, (kd t h).ne⟩) _ (by simp)]
    rfl
  apply map_tl_inj'
  rw [wT_tl]
  unfold wdsT
  rw [hx]
  have nb : ∀ p ∈ (TL.tl l :: partW wIf wAnd ts) ++ partW wDo wThen dd, (32 : Nat) ∉ p := by
    intro p hp
    rcases List.mem_append.mp hp with hp | hp
    · rcases List.mem_cons.mp hp with rfl | hp
      · exact nl
      · exact partW_nb n2 n3 (fun t h => (kt t h).nb) p hp
    · exact partW_nb n1 n4 (fun t h => (kd t h).nb) p hp
  rw [show jn ((TL.tl l :: partW wIf wAnd ts) ++ partW wDo wThen dd) = TL.joinL [32] ((TL.tl l :: partW wIf wAnd ts) ++ partW wDo wThen dd) from rfl, TL.spl_join (by simp) nb]
  obtain ⟨e1, e2, e3, e4⟩ := kw_tl
  have pw : ∀ (k s : Str) (ts : List Str), (if ts = [] then [] else k :: interS s (ts.map wT)).map TL.tl = partW (TL.tl k) (TL.tl s) ts := by
    intro k s ts
    unfold partW
    by_cases e : ts = []
    · rw [if_pos e, if_pos e]; rfl
    · rw [if_neg e, if_neg e, List.map_cons, interS_tl, List.map_map]
      congr 2
      exact List.map_congr_left fun t _ => wT_tl t
  unfold rowW
  rw [List.map_cons, List.map_append, pw, pw, e1, e2, e3, e4]
  rfl
theorem tt_ok : ∀ l ∈ cst_LETTERS, (∀ x ∈ testsOf l, wT x = [x] ∧ wT (kNot ++ x) = [("not" : Str), x] ∧ x ∈ allT ∧ isTestS x l = true ∧ kNot ++ x ∈ allT ∧ isTestS (kNot ++ x) l = true ∧ x ≠ "not") ∧ (∀ x ∈ deedsOf l, wT x = [x] ∧ x ∈ cst_DEEDS ∧ isDeedS x l = true) ∧ l ≠ "if" := by decide +kernel
theorem tt_back : ∀ l ∈ cst_LETTERS, (∀ t ∈ allT, isTestS t l = true → t ∈ testsOf l ∨ ∃ x ∈ testsOf l, t = kNot ++ x) ∧ (∀ d ∈ cst_DEEDS, isDeedS d l = true → d ∈ deedsOf l) := by decide +kernel
theorem tstG_go (hA : ("not" : Str) ∉ A) : ∀ {ps : List (List Str)}, ps ≠ [] → (∀ p ∈ ps, ∃ x ∈ A, p = [x] ∨ p = [("not" : Str), x]) → r.head? ≠ some ("and" : Str) → tstG A (interS "and" ps ++ r) = some r
  | [], h, _, _ => absurd rfl h
  | p :: q, _, hp, hr => by
    obtain ⟨x, hx, e⟩ := hp p List.mem_cons_self
    have xn : x ≠ "not" := fun z => hA (z ▸ hx)
    have tail : ∀ {ps : List (List Str)}, ps = q → (match (match ps with | [] => r | _ :: _ => ("and" : Str) :: (interS "and" ps ++ r)) with | [] => some [] | y :: r3 => if y = "and" then tstG A r3 else some (y :: r3)) = some r := by
      intro ps e
      subst e
      cases ps with
      | nil =>
        cases r with
        | nil => rfl
        | cons y r3 => exact if_neg fun z => hr (by rw [z]; rfl)
      | cons a b =>
        show (if ("and" : Str) = "and" then _ else _) = _
        rw [if_pos rfl]
        exact tstG_go hA (by simp) (fun p hp' => hp p (List.mem_cons_of_mem _ hp')) hr
    have e2 : interS "and" (p :: q) ++ r = p ++ (match q with | [] => r | _ :: _ => ("and" : Str) :: (interS "and" q ++ r)) := by
      cases q with
      | nil => rfl
      | cons a b => show (p ++ ("and" : Str) :: interS "and" (a :: b)) ++ r = _; rw [List.append_assoc]; rfl
    rw [e2]
    have t2 := tail rfl
    generalize (match q with | [] => r | _ :: _ => ("and" : Str) :: (interS "and" q ++ r)) = R at t2 ⊢
    rcases e with rfl | rfl
    · show tstG A (x :: R) = _
      rw [tstG.eq_def]
      dsimp only
      rw [if_neg xn, if_pos hx]
      exact t2
    · show tstG A (("not" : Str) :: x :: R) = _
      rw [tstG.eq_def]
      dsimp only
      rw [if_pos rfl]
      rw [if_pos hx]
      exact t2
theorem ddsG_go : ∀ {ps : List (List Str)}, ps ≠ [] → (∀ p ∈ ps, ∃ x ∈ A, p = [x]) → ddsG A (interS "then" ps) = some []
  | [], h, _ => absurd rfl h
  | [p], _, hp => by
    obtain ⟨x, hx, rfl⟩ := hp p List.mem_cons_self
    show ddsG A [x] = _
    rw [ddsG, if_pos hx]
  | p :: a :: b, _, hp => by
    obtain ⟨x, hx, rfl⟩ := hp p List.mem_cons_self
    show ddsG A (x :: ("then" : Str) :: interS "then" (a :: b)) = _
    rw [ddsG, if_pos hx]
    show (if ("then" : Str) = "then" then _ else _) = _
    rw [if_pos rfl]
    exact ddsG_go (by simp) fun p hp' => hp p (List.mem_cons_of_mem _ hp')
theorem ddsG_back : ∀ {ws : List Str}, ddsG A ws = some [] → ∃ ds : List Str, ds ≠ [] ∧ (∀ d ∈ ds, d ∈ A) ∧ ws = interS "then" (ds.map fun d => [d])
  | [], h => by cases h
  | [w], h => by
    rw [ddsG.eq_def] at h
    dsimp only at h
    by_cases hw : w ∈ A
    · exact ⟨[w], by simp, fun d hd => by rw [List.mem_singleton.mp hd]; exact hw, rfl⟩
    · rw [if_neg hw] at h; cases h
  | w :: y :: r3, h => by
    rw [ddsG.eq_def] at h
    dsimp only at h
    by_cases hw : w ∈ A
    · rw [if_pos hw] at h
      by_cases hy : y = "then"
      · rw [if_pos hy] at h
        obtain ⟨ds, h1, h2, h3⟩ := ddsG_back h
        refine ⟨w :: ds, by simp, fun d hd => ?_, ?_⟩
        · rcases List.mem_cons.mp hd with rfl | hd
          · exact hw
          · exact h2 d hd
        · cases ds with
          | nil => exact absurd rfl h1
          | cons a b => rw [h3, hy]; rfl
      · rw [if_neg hy] at h; cases h
    · rw [if_neg hw] at h; cases h
theorem tstG_back {r : List Str} : ∀ {n : Nat} {ws : List Str}, ws.length ≤ n → tstG A ws = some r → ∃ ps : List (List Str), ps ≠ [] ∧ (∀ p ∈ ps, ∃ x ∈ A, p = [x] ∨ p = [("not" : Str), x]) ∧ ws = interS "and" ps ++ r
  | n, [], _, h => by cases h
  | 0, _ :: _, hl, _ => by rw [List.length_cons] at hl; omega
  | n + 1, w :: r0, hl, h => by
    have tail : ∀ {x : Str} {r2 : List Str} {p : List Str}, r2.length ≤ n → x ∈ A → (p = [x] ∨ p = [("not" : Str), x]) → (match r2 with | [] => some [] | y :: r3 => if y = "and" then tstG A r3 else some (y :: r3)) = some r → ∃ ps : List (List Str), ps ≠ [] ∧ (∀ p ∈ ps, ∃ x ∈ A, p = [x] ∨ p = [("not" : Str), x]) ∧ p ++ r2 = interS "and" ps ++ r := by
      intro x r2 p hl2 hx hp h
      have one : ∃ ps : List (List Str), ps ≠ [] ∧ (∀ p ∈ ps, ∃ x ∈ A, p = [x] ∨ p = [("not" : Str), x]) ∧ p = interS "and" ps := ⟨[p], by simp, fun q hq => by rw [List.mem_singleton.mp hq]; exact ⟨x, hx, hp⟩, rfl⟩
      cases r2 with
      | nil =>
        dsimp only at h
        cases h
        obtain ⟨ps, a, b, c⟩ := one
        exact ⟨ps, a, b, by rw [← c]⟩
      | cons y r3 =>
        dsimp only at h
        by_cases hy : y = "and"
        · rw [if_pos hy] at h
          rw [List.length_cons] at hl2
          obtain ⟨ps, h1, h2, h3⟩ := tstG_back (n := n) (by omega) h
          refine ⟨p :: ps, by simp, fun q hq => ?_, ?_⟩
          · rcases List.mem_cons.mp hq with rfl | hq
            · exact ⟨x, hx, hp⟩
            · exact h2 q hq
          · cases ps with
            | nil => exact absurd rfl h1
            | cons a b =>
              rw [h3, hy]
              show p ++ ("and" : Str) :: (interS "and" (a :: b) ++ r) = (p ++ ("and" : Str) :: interS "and" (a :: b)) ++ r
              rw [List.append_assoc]; rfl
        · rw [if_neg hy] at h
          cases h
          obtain ⟨ps, a, b, c⟩ := one
          exact ⟨ps, a, b, by rw [← c]⟩
    rw [List.length_cons] at hl
    rw [tstG.eq_def] at h
    dsimp only at h
    by_cases hw : w = "not"
    · rw [if_pos hw] at h
      cases r0 with
      | nil => cases h
      | cons x r2 =>
        dsimp only at h
        by_cases hx : x ∈ A
        · rw [if_pos hx] at h
          rw [List.length_cons] at hl
          obtain ⟨ps, h1, h2, h3⟩ := tail (p := [("not" : Str), x]) (by omega) hx (.inr rfl) h
          exact ⟨ps, h1, h2, by rw [← h3, hw]; rfl⟩
        · rw [if_neg hx] at h; cases h
    · rw [if_neg hw] at h
      by_cases hx : w ∈ A
      · rw [if_pos hx] at h
        obtain ⟨ps, h1, h2, h3⟩ := tail (p := [w]) (by omega) hx (.inl rfl) h
        exact ⟨ps, h1, h2, by rw [← h3]; rfl⟩
      · rw [if_neg hx] at h; cases h
structure RParts (l : Str) (ts dd : List Str) : Prop where
  le : l ∈ cst_LETTERS
  t : ∀ t ∈ ts, t ∈ allT ∧ isTestS t l = true
  d : ∀ d ∈ dd, d ∈ cst_DEEDS ∧ isDeedS d l = true
theorem RParts.err {l : Str} {ts dd : List Str} (h : RParts l ts dd) : rowErr (.str l) (some (ts.map D.str)) (some (dd.map D.str)) = none := by
  have e1 : (isStr (D.str l) && decide (strOf (D.str l) ∈ cst_LETTERS)) = true := by
    show decide (l ∈ cst_LETTERS) = true
    exact decide_eq_true h.le
  have e2 : (ts.map D.str).all (isTestD l) = true := by
    rw [List.all_eq_true]
    intro x hx
    obtain ⟨t, ht, rfl⟩ := List.mem_map.mp hx
    exact (h.t t ht).2
  have e3 : (dd.map D.str).all (isDeedD l) = true := by
    rw [List.all_eq_true]
    intro x hx
    obtain ⟨t, ht, rfl⟩ := List.mem_map.mp hx
    exact (h.d t ht).2
  unfold rowErr
  rw [if_neg (by rw [e1]; decide), if_neg (by show ¬ (ts.map D.str).all (isTestD l) = false; rw [e2]; decide), if_neg (by show ¬ (dd.map D.str).all (isDeedD l) = false; rw [e3]; decide)]
theorem RParts.split {l : Str} {ts dd : List Str} (h : RParts l ts dd) : wT (rowT l ts dd) = rowW l ts dd := rowW_split h.le (fun t ht => (h.t t ht).1) fun d hd => (h.d d hd).1
theorem acc_good {l : Str} {ts dd : List Str} (h : RParts l ts dd) : accW (rowW l ts dd) = true := by
  obtain ⟨k1, k2, k3⟩ := tt_ok l h.le
  obtain ⟨b1, b2⟩ := tt_back l h.le
  have nA : ("not" : Str) ∉ testsOf l := fun z => (k1 _ z).2.2.2.2.2.2 rfl
  have hps : ∀ p ∈ ts.map wT, ∃ x ∈ testsOf l, p = [x] ∨ p = [("not" : Str), x] := by
    intro p hp
    obtain ⟨t, ht, rfl⟩ := List.mem_map.mp hp
    obtain ⟨h1, h2⟩ := h.t t ht
    rcases b1 t h1 h2 with h3 | ⟨x, h3, rfl⟩
    · exact ⟨t, h3, .inl (k1 t h3).1⟩
    · exact ⟨x, h3, .inr (k1 x h3).2.1⟩
  have hds : ∀ p ∈ dd.map wT, ∃ x ∈ deedsOf l, p = [x] := by
    intro p hp
    obtain ⟨t, ht, rfl⟩ := List.mem_map.mp hp
    obtain ⟨h1, h2⟩ := h.d t ht
    have h3 := b2 t h1 h2
    exact ⟨t, h3, (k2 t h3).1⟩
  have hD : (match (if (if dd = [] then ([] : List Str) else ("do" : Str) :: interS "then" (dd.map wT)).head? = some ("do" : Str) then ddsG (deedsOf l) (if dd = [] then ([] : List Str) else ("do" : Str) :: interS "then" (dd.map wT)).tail else some (if dd = [] then ([] : List Str) else ("do" : Str) :: interS "then" (dd.map wT))) with | none => false | some r3 => r3.isEmpty) = true := by
    by_cases e : dd = []
    · rw [if_pos e]; rfl
    · rw [if_neg e]
      rw [if_pos (show (("do" : Str) :: interS "then" (dd.map wT)).head? = some ("do" : Str) from rfl), show (("do" : Str) :: interS "then" (dd.map wT)).tail = interS "then" (dd.map wT) from rfl, ddsG_go (by simpa using e) hds]
      rfl
  have hnd : (if dd = [] then ([] : List Str) else ("do" : Str) :: interS "then" (dd.map wT)).head? ≠ some ("and" : Str) ∧ (if dd = [] then ([] : List Str) else ("do" : Str) :: interS "then" (dd.map wT)).head? ≠ some ("if" : Str) := by
    by_cases e : dd = []
    · rw [if_pos e]; exact ⟨by simp, by simp⟩
    · rw [if_neg e]
      have : ("do" : Str) ≠ "and" ∧ ("do" : Str) ≠ "if" := by decide
      exact ⟨fun z => this.1 (Option.some.inj z), fun z => this.2 (Option.some.inj z)⟩
  unfold rowW
  generalize (if dd = [] then ([] : List Str) else ("do" : Str) :: interS "then" (dd.map wT)) = R at hD hnd ⊢
  show (decide (l ∈ cst_LETTERS) && (match (if ((if ts = [] then [] else ("if" : Str) :: interS "and" (ts.map wT)) ++ R).head? = some ("if" : Str) then tstG (testsOf l) ((if ts = [] then [] else ("if" : Str) :: interS "and" (ts.map wT)) ++ R).tail else some ((if ts = [] then [] else ("if" : Str) :: interS "and" (ts.map wT)) ++ R)) with | none => false | some r2 => _)) = true
  rw [decide_eq_true h.le, Bool.true_and]
  by_cases e : ts = []
  · rw [if_pos e, List.nil_append, if_neg hnd.2]
    exact hD
  · rw [if_neg e]
    rw [if_pos (show ((("if" : Str) :: interS "and" (ts.map wT)) ++ R).head? = some ("if" : Str) from rfl), show ((("if" : Str) :: interS "and" (ts.map wT)) ++ R).tail = interS "and" (ts.map wT) ++ R from rfl, tstG_go nA (by simpa using e) hps hnd.1]
    exact hD
theorem acc_back {ws : List Str} (h : accW ws = true) : ∃ l ts dd, RParts l ts dd ∧ ws = rowW l ts dd := by
  cases ws with
  | nil => cases h
  | cons l r =>
    unfold accW at h
    rw [Bool.and_eq_true, decide_eq_true_iff] at h
    obtain ⟨hl, h⟩ := h
    obtain ⟨k1, k2, k3⟩ := tt_ok l hl
    have dds : ∀ {r2 : List Str}, (match (if r2.head? = some ("do" : Str) then ddsG (deedsOf l) r2.tail else some r2) with | none => false | some r3 => r3.isEmpty) = true → ∃ dd : List Str, (∀ d ∈ dd, d ∈ cst_DEEDS ∧ isDeedS d l = true) ∧ r2 = (if dd = [] then [] else ("do" : Str) :: interS "then" (dd.map wT)) := by
      intro r2 h
      by_cases e : r2.head? = some ("do" : Str)
      · rw [if_pos e] at h
        cases hg : ddsG (deedsOf l) r2.tail with
        | none => rw [hg] at h; cases h
        | some r3 =>
          rw [hg] at h
          have e3 : r3 = [] := List.isEmpty_iff.mp h
          subst e3
          obtain ⟨ds, h1, h2, h3⟩ := ddsG_back hg
          refine ⟨ds, fun d hd => (k2 d (h2 d hd)).2, ?_⟩
          rw [if_neg h1]
          obtain ⟨y, hy⟩ : ∃ y, r2 = ("do" : Str) :: y := by
            cases r2 with
            | nil => cases e
            | cons a b => exact ⟨b, by rw [Option.some.inj e]⟩
          subst hy
          rw [show (("do" : Str) :: y).tail = y from rfl] at h3
          rw [h3]
          congr 2
          exact List.map_congr_left fun d hd => ((k2 d (h2 d hd)).1).symm
      · rw [if_neg e] at h
        have e3 : r2 = [] := List.isEmpty_iff.mp h
        exact ⟨[], fun d hd => (by cases hd), by rw [e3]; rfl⟩
    by_cases e : r.head? = some ("if" : Str)
    · rw [if_pos e] at h
      cases hg : tstG (testsOf l) r.tail with
      | none => rw [hg] at h; cases h
      | some r2 =>
        rw [hg] at h
        obtain ⟨dd, d1, d2⟩ := dds h
        obtain ⟨ps, h1, h2, h3⟩ := tstG_back (Nat.le_refl _) hg
        have hts : ∀ p ∈ ps, wT (Txt.join kSp1 p) = p ∧ Txt.join kSp1 p ∈ allT ∧ isTestS (Txt.join kSp1 p) l = true := by
          intro p hp
          obtain ⟨x, hx, ep⟩ := h2 p hp
          obtain ⟨q1, q2, q3, q4, q5, q6, _⟩ := k1 x hx
          rcases ep with rfl | rfl
          · have : Txt.join kSp1 [x] = x := by rw [← q1]; exact join_split1 x
            rw [this]; exact ⟨q1, q3, q4⟩
          · have : Txt.join kSp1 [("not" : Str), x] = kNot ++ x := by rw [← q2]; exact join_split1 _
            rw [this]; exact ⟨q2, q5, q6⟩
        refine ⟨l, ps.map (Txt.join kSp1), dd, ⟨hl, fun t ht => ?_, d1⟩, ?_⟩
        · obtain ⟨p, hp, rfl⟩ := List.mem_map.mp ht
          exact (hts p hp).2
        · obtain ⟨y, hy⟩ : ∃ y, r = ("if" : Str) :: y := by
            cases r with
            | nil => cases e
            | cons a b => exact ⟨b, by rw [Option.some.inj e]⟩
          subst hy
          rw [show (("if" : Str) :: y).tail = y from rfl] at h3
          unfold rowW
          rw [if_neg (by simpa using h1), h3, ← d2, List.map_map, show ps.map (wT ∘ Txt.join kSp1) = ps from (List.map_congr_left fun p hp => (hts p hp).1).trans (List.map_id _)]
          rfl
    · rw [if_neg e] at h
      obtain ⟨dd, d1, d2⟩ := dds h
      exact ⟨l, [], dd, ⟨hl, fun t ht => (by cases ht), d1⟩, by unfold rowW; rw [← d2]; rfl⟩
theorem acc_read {t : Str} (h : accW (wT t) = true) : RParts (rdL t) (rdT t) (rdD t) ∧ rowT (rdL t) (rdT t) (rdD t) = t := by
  obtain ⟨l, ts, dd, g, e⟩ := acc_back h
  have et : rowT l ts dd = t := by rw [← join_split1 (rowT l ts dd), g.split, ← e, join_split1]
  obtain ⟨e1, e2, e3⟩ := row_back g.le (fun t ht => (g.t t ht).1) fun d hd => (g.d d hd).1
  rw [et] at e1 e2 e3
  rw [e1, e2, e3]
  exact ⟨g, et⟩
end


section
variable {l t w s : Str} {ts dd ws r : List Str}
theorem cut_four (s : Str) : cutS s none (some 4) = ⟨(s.cps.toList.take 4).toArray⟩ ∧ cutS s (some 4) none = ⟨(s.cps.toList.drop 4).toArray⟩ := by
  have hl : s.cps.toList.length = s.length := by rw [Array.length_toList]; rfl
  constructor
  · unfold cutS
    rw [show HT.sIx s.length 0 none = 0 from rfl, show HT.sIx s.length s.length (some 4) = min 4 s.length from HT.sIx_nat _ _ 4]
    rw [List.drop_zero, Nat.sub_zero]
    congr 2
    by_cases h : 4 ≤ s.length
    · rw [Nat.min_eq_left h]
    · rw [Nat.min_eq_right (by omega), List.take_of_length_le (by omega), List.take_of_length_le (by omega)]
  · unfold cutS
    rw [show HT.sIx s.length s.length none = s.length from rfl, show HT.sIx s.length 0 (some 4) = min 4 s.length from HT.sIx_nat _ _ 4]
    congr 2
    by_cases h : 4 ≤ s.length
    · rw [Nat.min_eq_left h, List.take_of_length_le (by rw [List.length_drop]; omega)]
    · rw [Nat.min_eq_right (by omega), Nat.sub_self, List.take_zero, List.drop_of_length_le (by omega)]
theorem starts_not {s : Str} (h : Txt.startswith s kNot = true) : s = kNot ++ cutS s (some 4) none := by
  obtain ⟨e1, e2⟩ := cut_four s
  have e4 : kNot.length = 4 := by decide
  have hk : s.cps.toList.take 4 = kNot.cps.toList := by
    unfold Txt.startswith at h
    rw [PySem.StrLaws.subAt_eq, e4] at h
    simp only [Bool.and_eq_true, decide_eq_true_eq, beq_iff_eq, List.drop_zero] at h
    first | exact h.2 | exact h
  apply TL.ext_tl
  rw [TL.tl_append, e2]
  show s.cps.toList = kNot.cps.toList ++ (s.cps.toList.drop 4).toArray.toList
  rw [← hk]
  simp
theorem test_all (h : isTestS t l = true) : t ∈ allT := by
  unfold isTestS at h
  rw [Bool.and_eq_true, decide_eq_true_iff] at h
  have h1 := h.1
  unfold bareS at h1
  by_cases e : Txt.startswith t kNot = true
  · rw [if_pos e] at h1
    rw [starts_not e]
    exact List.mem_append_right _ (List.mem_map.mpr ⟨_, h1, rfl⟩)
  · rw [if_neg e] at h1
    exact List.mem_append_left _ h1
theorem err_parts (h : rowErr (.str l) (some (ts.map D.str)) (some (dd.map D.str)) = none) : RParts l ts dd := by
  unfold rowErr at h
  split at h
  · cases h
  · rename_i h1
    split at h
    · cases h
    · rename_i h2
      split at h
      · cases h
      · rename_i h3
        refine ⟨?_, fun t ht => ?_, fun d hd => ?_⟩
        · have : decide (l ∈ cst_LETTERS) = true := by
            cases e : decide (l ∈ cst_LETTERS) with
            | true => rfl
            | false => exact absurd (show (isStr (D.str l) && decide (strOf (D.str l) ∈ cst_LETTERS)) = false from e) h1
          exact of_decide_eq_true this
        · have h2' : (ts.map D.str).all (isTestD l) = true := by
            cases e : (ts.map D.str).all (isTestD l) with
            | true => rfl
            | false => exact absurd e h2
          have := List.all_eq_true.mp h2' (.str t) (List.mem_map_of_mem ht)
          exact ⟨test_all (l := l) this, this⟩
        · have h3' : (dd.map D.str).all (isDeedD l) = true := by
            cases e : (dd.map D.str).all (isDeedD l) with
            | true => rfl
            | false => exact absurd e h3
          have : isDeedS d l = true := List.all_eq_true.mp h3' (.str d) (List.mem_map_of_mem hd)
          refine ⟨?_, this⟩
          unfold isDeedS at this
          rw [Bool.and_eq_true, decide_eq_true_iff] at this
          exact this.1
theorem par_some {S : List Nat} : ∀ {l acc a b : List Nat}, TL.par S acc l = some (a, b) → acc ++ l = a ++ S ++ b
  | [], _, _, _, h => by cases h
  | c :: r, acc, a, b, h => by
    cases hp : TL.pre S (c :: r) with
    | true =>
      rw [TL.par_hit hp] at h
      injection h with h
      injection h with h1 h2
      have e : (c :: r).take S.length = S := eq_of_beq hp
      rw [← h1, ← h2, List.append_assoc]
      congr 1
      conv => lhs; rw [← List.take_append_drop S.length (c :: r), e]
    | false =>
      rw [TL.par_miss hp] at h
      have := par_some h
      rw [← this, List.append_assoc]; rfl
theorem part_whole (x y : Str) (hy : TL.tl y ≠ []) : (Txt.partition x y).1 ++ (Txt.partition x y).2.1 ++ (Txt.partition x y).2.2 = x ∧ ((Txt.partition x y).2.1 = y ∨ ((Txt.partition x y).2.1 = Str.empty ∧ (Txt.partition x y).1 = x)) := by
  rw [TL.partition_par x y hy]
  cases h : TL.par (TL.tl y) [] (TL.tl x) with
  | none =>
    refine ⟨?_, .inr ⟨rfl, rfl⟩⟩
    apply TL.ext_tl
    show TL.tl (x ++ Str.empty ++ Str.empty) = TL.tl x
    rw [TL.tl_append, TL.tl_append, show TL.tl Str.empty = [] from rfl, List.append_nil, List.append_nil]
  | some p =>
    obtain ⟨a, b⟩ := p
    refine ⟨?_, .inl rfl⟩
    apply TL.ext_tl
    rw [TL.tl_append, TL.tl_append]
    exact (par_some h).symm
theorem spl_some (S : List Nat) : ∀ (l : List Nat) (k : Nat) (acc : List Nat), TL.spl S k acc l ≠ []
  | [], k, acc => by rw [TL.spl_nil]; simp
  | c :: r, 0, acc => by
    cases hp : TL.pre S (c :: r) with
    | true => rw [TL.spl_hit hp]; simp
    | false => rw [TL.spl_miss hp]; exact spl_some S r 0 _
  | c :: r, k + 1, acc => by
    show TL.spl S k acc r ≠ []
    exact spl_some S r k acc
theorem split_some {x y : Str} (hy : TL.tl y ≠ []) (hk : y.cps.all (· < 256) = true) : Txt.split x y ≠ [] := fun e => by
  have := TL.split_spl x y hy (TL.kind_ok hk)
  rw [e] at this
  exact spl_some _ _ _ _ this.symm
theorem app_empty (x : Str) : x ++ Str.empty = x ∧ Str.empty ++ x = x := by
  constructor
  · apply TL.ext_tl
    rw [TL.tl_append, show TL.tl Str.empty = [] from rfl, List.append_nil]
  · apply TL.ext_tl
    rw [TL.tl_append, show TL.tl Str.empty = [] from rfl, List.nil_append]
theorem app_assoc3 (x y z : Str) : x ++ y ++ z = x ++ (y ++ z) := by
  apply TL.ext_tl
  rw [TL.tl_append, TL.tl_append, TL.tl_append, TL.tl_append, List.append_assoc]
theorem part_back (k s x : Str) (hk : TL.tl k ≠ []) (kn : k ≠ noS) (hs : TL.tl s ≠ []) (hs2 : s.cps.all (· < 256) = true) : (Txt.partition x k).1 ++ partT k s (if (!decide ((Txt.partition x k).2.1 = noS)) = true then Txt.split (Txt.partition x k).2.2 s else []) = x := by
  have n5 : noS = Str.empty := by decide +kernel
  obtain ⟨p1, p2⟩ := part_whole x k hk
  rcases p2 with h | ⟨h, h2⟩
  · rw [h] at p1 ⊢
    rw [if_pos (by rw [decide_eq_false kn]; rfl)]
    unfold partT
    rw [if_neg (split_some hs hs2), TL.join_eq, PySem.StrLaws.join_split, (app_empty k).2, ← app_assoc3]
    exact p1
  · rw [h, if_neg (by rw [decide_eq_true (show Str.empty = noS from n5.symm)]; decide)]
    unfold partT
    rw [if_pos rfl, n5, (app_empty _).1]
    exact h2
theorem rd_whole (t : Str) : rowT (rdL t) (rdT t) (rdD t) = t := by
  have k1 : TL.tl kDo ≠ [] ∧ TL.tl kIf ≠ [] ∧ kDo ≠ noS ∧ kIf ≠ noS ∧ TL.tl kAnd ≠ [] ∧ TL.tl kThen ≠ [] ∧ kAnd.cps.all (· < 256) = true ∧ kThen.cps.all (· < 256) = true := by decide +kernel
  obtain ⟨n1, n2, n3, n4, n5, n6, n7, n8⟩ := k1
  have e1 : (rdP t).1 ++ partT kDo kThen (rdD t) = t := part_back kDo kThen t n1 n3 n6 n8
  have e2 : rdL t ++ partT kIf kAnd (rdT t) = (rdP t).1 := part_back kIf kAnd (rdP t).1 n2 n4 n5 n7
  unfold rowT
  rw [(app_empty _).2, e2, e1]
theorem acc_iff (t : Str) : accW (wT t) = true ↔ rowErr (.str (rdL t)) (some ((rdT t).map D.str)) (some ((rdD t).map D.str)) = none := by
  constructor
  · intro h
    exact (acc_read h).1.err
  · intro h
    have g := err_parts h
    have e := g.split
    rw [rd_whole] at e
    rw [e]
    exact acc_good g
theorem join_lens (s : Str) : ∀ (L : List Str), (∀ x ∈ L, x.length ≤ (Txt.join s L).length) ∧ L.length * s.length ≤ (Txt.join s L).length + s.length
  | [] => ⟨fun x hx => (by cases hx), by simp⟩
  | [a] => by
    have e : Txt.join s [a] = a := by rw [TL.join_eq]; rfl
    rw [e]
    exact ⟨fun x hx => by rw [List.mem_singleton.mp hx]; exact Nat.le_refl _, by simp⟩
  | a :: b :: r => by
    obtain ⟨h1, h2⟩ := join_lens s (b :: r)
    have e : Txt.join s (a :: b :: r) = a ++ s ++ Txt.join s (b :: r) := by rw [TL.join_eq, TL.join_eq]; rfl
    rw [e, Str.length_append, Str.length_append]
    refine ⟨fun x hx => ?_, ?_⟩
    · rcases List.mem_cons.mp hx with rfl | hx
      · omega
      · have := h1 x hx; omega
    · rw [List.length_cons, Nat.add_mul, Nat.one_mul]; omega
theorem split_bound (x y : Str) (hy : 1 ≤ y.length) : (Txt.split x y).length ≤ x.length + y.length ∧ ∀ p ∈ Txt.split x y, p.length ≤ x.length := by
  obtain ⟨h1, h2⟩ := join_lens y (Txt.split x y)
  rw [TL.join_eq, PySem.StrLaws.join_split] at h1 h2
  exact ⟨Nat.le_trans (by simpa using Nat.mul_le_mul_left (Txt.split x y).length hy) h2, h1⟩
theorem rd_bound (t : Str) : (rdT t).length ≤ t.length + 6 ∧ (rdD t).length ≤ t.length + 6 ∧ (∀ x ∈ rdT t, x.length ≤ t.length) ∧ ∀ x ∈ rdD t, x.length ≤ t.length := by
  have rl := rd_len t
  have k : kAnd.length = 5 ∧ kThen.length = 6 := by decide +kernel
  have b1 := split_bound (rdQ t).2.2 kAnd (by omega)
  have b2 := split_bound (rdP t).2.2 kThen (by omega)
  unfold rdT rdD
  refine ⟨?_, ?_, ?_, ?_⟩
  · split
    · have := b1.1; omega
    · simp
  · split
    · have := b2.1; omega
    · simp
  · split
    · intro x hx; have := b1.2 x hx; omega
    · intro x hx; cases hx
  · split
    · intro x hx; have := b2.2 x hx; omega
    · intro x hx; cases hx
end


section
variable {l t w s : Str} {ts dd ws r : List Str} {p q : Addr} {qs : List Int} {m : Int} {C R J : Cells} {Q : QE} {Qx : QX} {n : Nat} {A B : List Str}
abbrev toldD : D := .tup [.str "text", .int 0, .bl true]
theorem sum_le9 {L : List Str} (h : ∀ x ∈ L, x.length ≤ 9) : (L.map (·.length)).sum ≤ L.length * 9 := sum_le h
theorem rd_few (h : t.length ≤ 120) : (rdT t).length ≤ 25 ∧ (rdD t).length ≤ 21 := by
  have rl := rd_len t
  have k : kAnd.length = 5 ∧ kThen.length = 6 := by decide +kernel
  have b1 := (join_lens kAnd (Txt.split (rdQ t).2.2 kAnd)).2
  have b2 := (join_lens kThen (Txt.split (rdP t).2.2 kThen)).2
  rw [TL.join_eq, PySem.StrLaws.join_split] at b1 b2
  rw [k.1] at b1
  rw [k.2] at b2
  unfold rdT rdD
  constructor
  · split
    · omega
    · simp
  · split
    · omega
    · simp
theorem c_heard (T : Tp P K mg) (hl : t.length ≤ 120) (q0 : accW (wT t) = true → Q (.str t) C) (q1 : accW (wT t) = false → ∀ J : Cells, Q toldD (J ++ C)) : callW (fw__law_heard T) Qx [.str t] C Q := by
  obtain ⟨b1, b2, b3, b4⟩ := rd_bound t
  obtain ⟨f1, f2⟩ := rd_few hl
  refine cl__law_heard T ?_
  unfold w__law_heard
  walk_at "g"
  cases ha : accW (wT t) with
  | true =>
    obtain ⟨g, e⟩ := acc_read ha
    refine p_Row_read T (by omega) (by omega) (by omega) (fun x hx => by have := b3 x hx; omega) (fun x hx => by have := b4 x hx; omega) g.err ?_
    walk_at "g"
    have s1 := sum_le9 fun x hx => (allT_ok x (g.t x hx).1).ln
    have s2 := sum_le9 fun x hx => (allD_ok x (g.d x hx).1).ln
    have l4 := (let_ok _ g.le).2
    refine s_str_own (o_Row_str T ⟨by omega, by omega, by omega, by omega, by omega⟩ fun r er => ?_)
    rw [e] at er
    subst er
    walk_at "g"
    unfold w__law_heard_j1
    walk_at "g"
    exact q0 ha
  | false =>
    obtain ⟨w, hw⟩ : ∃ w, rowErr (.str (rdL t)) (some ((rdT t).map D.str)) (some ((rdD t).map D.str)) = some w := by
      cases h : rowErr (.str (rdL t)) (some ((rdT t).map D.str)) (some ((rdD t).map D.str)) with
      | some w => exact ⟨w, rfl⟩
      | none => rw [(acc_iff t).mpr h] at ha; cases ha
    refine p_Row_readX T (by omega) (by omega) (by omega) (fun x hx => by have := b3 x hx; omega) (fun x hx => by have := b4 x hx; omega) hw fun z => ?_
    refine ⟨true, T.exm_InvalidText_InvalidText, ifT (part_id ?_)⟩
    walk_at "g"
    refine ⟨_, _, _, _, rfl, rfl, T.xf_InvalidText, T.na_InvalidText_at, rfl, ?_⟩
    walk_at "g"
    refine ⟨_, rfl, T.xc_InvalidText, true, _, .own _, T.isx_InvalidText_HastyError, ?_⟩
    walk_at "g"
    unfold w__law_heard_j1
    walk_at "g"
    exact q1 ha [_]
theorem cut_one {l : List Str} {k : Nat} : Tr.cutD (l.map D.str) (some (k : Int)) (some ((k : Int) + 1)) = ((l.drop k).take 1).map D.str := by
  rw [cutD_map]
  congr 1
  unfold cutL
  rw [HT.sIx_nat, show ((k : Int) + 1) = ((k + 1 : Nat) : Int) by omega, HT.sIx_nat]
  by_cases h : k + 1 ≤ l.length
  · rw [Nat.min_eq_left (show k ≤ l.length by omega), Nat.min_eq_left (show k + 1 ≤ l.length from h)]; congr 1; omega
  · rw [Nat.min_eq_right (show l.length ≤ k + 1 by omega)]
    by_cases h2 : k ≤ l.length
    · rw [Nat.min_eq_left h2, show l.length - k = 0 by omega, List.take_zero, List.drop_of_length_le (by omega)]; rfl
    · rw [Nat.min_eq_right (show l.length ≤ k by omega), List.drop_of_length_le (Nat.le_refl _), List.drop_of_length_le (show l.length ≤ k by omega), List.take_nil, List.take_nil]
theorem one_head {l : List Str} {x : Str} : decide (l.take 1 = [x]) = decide (l.head? = some x) := by
  cases l with
  | nil => simp
  | cons a b => simp
theorem dd_step {x : Str} {R : List Str} (h : x ∈ B) : ddsG B (x :: R) = if R.head? = some ("then" : Str) then ddsG B R.tail else some R := by
  rw [ddsG.eq_def]
  dsimp only
  rw [if_pos h]
  cases R with
  | nil => rfl
  | cons y r3 => simp
theorem dd_bad {x : Str} {R : List Str} (h : x ∉ B) : ddsG B (x :: R) = none := by
  rw [ddsG.eq_def]
  exact if_neg h
def chkT (A : List Str) : List Str → Option (List Str)
  | [] => none
  | x :: R => if x ∈ A then (if R.head? = some ("and" : Str) then tstG A R.tail else some R) else none
theorem tst_step (R : List Str) : tstG A R = chkT A (if R.head? = some ("not" : Str) then R.tail else R) := by
  cases R with
  | nil => rfl
  | cons w r =>
    rw [tstG.eq_def]
    dsimp only
    by_cases h : w = "not"
    · rw [if_pos h, if_pos (show (w :: r).head? = some ("not" : Str) by rw [h]; rfl)]
      cases r with
      | nil => rfl
      | cons x r2 =>
        show _ = (if x ∈ A then _ else _)
        dsimp only
        by_cases hx : x ∈ A
        · rw [if_pos hx, if_pos hx]
          cases r2 with
          | nil => rfl
          | cons y r3 => simp
        · rw [if_neg hx, if_neg hx]
    · rw [if_neg h, if_neg (show ¬ (w :: r).head? = some ("not" : Str) by simpa using h)]
      show _ = (if w ∈ A then _ else _)
      by_cases hx : w ∈ A
      · rw [if_pos hx, if_pos hx]
        cases r with
        | nil => rfl
        | cons y r3 => simp
      · rw [if_neg hx, if_neg hx]
theorem drop_at {i : Nat} {x : Str} (h : ws[i]? = some x) : ws.drop i = x :: ws.drop (i + 1) := by
  obtain ⟨h1, h2⟩ := List.getElem?_eq_some_iff.mp h
  rw [List.drop_eq_getElem_cons h1, h2]
theorem kw_strs : ∀ x ∈ (["do", "then", "if", "and", "not"] : List Str), PyData.strOk x = true := by decide +kernel
theorem s_word (hb : ∀ x ∈ ws, PyData.strOk x = true) {k : Nat} {x : Str} {lo hi : Int} {own : D → D → ME} (hx : x ∈ (["do", "then", "if", "and", "not"] : List Str)) (e1 : lo = (k : Int)) (e2 : hi = (k : Int) + 1) (q : Q (.bl (decide ((ws.drop k).head? = some x))) C) : oEq own (.lst (Tr.cutD (ws.map D.str) (some lo) (some hi))) (.lst [.str x]) C Q := by
  rw [e1, e2, cut_one]
  refine s_eqD (.inl rfl) (eqd_lstS (xs := (ws.drop k).take 1) (ys := [x]) .l .l (fun y hy => hb y (List.mem_of_mem_drop (List.mem_of_mem_take hy))) (fun y hy => by rw [List.mem_singleton.mp hy]; exact kw_strs x hx)) ?_
  rw [one_head]
  exact q
theorem s_wix {k : Nat} {x : Str} {j : Int} (hx : ws[k]? = some x) (e : j = (k : Int)) (q : Q (.str x) C) : pIx (.lst (ws.map D.str)) (.int j) C Q :=
  s_ix_lst (atI_map D.str (by
    have := (List.getElem?_eq_some_iff.mp hx).1
    unfold atI ixN
    rw [if_pos (by omega), if_pos (by omega), e, Int.toNat_natCast]
    exact hx)) q
theorem is_deeds (T : Tp P K mg) {at_ : Nat} (h0 : at_ ≤ ws.length) (hl : ws.length ≤ 1000) (hb : ∀ x ∈ ws, PyData.strOk x = true)
    (q : Q (.bl (match (if (ws.drop at_).head? = some ("do" : Str) then ddsG B (ws.drop at_).tail else some (ws.drop at_)) with | none => false | some r3 => r3.isEmpty)) C) :
    w__law_is_text_j2 T (.lst (ws.map D.str)) (.lst (A.map D.str), .lst (B.map D.str)) Qx Q (.int ((at_ : Nat) : Int)) C := by
  have j3 : ∀ {k : Nat}, k ≤ ws.length → Q (.bl (ws.drop k).isEmpty) C → w__law_is_text_j3 T (.lst (ws.map D.str)) Qx Q (.int ((k : Nat) : Int)) C := by
    intro k hk q
    unfold w__law_is_text_j3
    walk_at "g"
    have e : (ws.drop k).isEmpty = decide (((k : Nat) : Int) = (((ws.map D.str).length : Nat) : Int)) := by
      rw [Bool.eq_iff_iff, decide_eq_true_iff, List.isEmpty_iff, List.drop_eq_nil_iff, List.length_map]
      omega
    rw [e] at q
    exact q
  unfold w__law_is_text_j2
  walk_at "g"
  refine s_word hb (k := at_) (by simp) rfl rfl ?_
  by_cases h : (ws.drop at_).head? = some ("do" : Str)
  · rw [decide_eq_true h]
    rw [if_pos h] at q
    have hlt : at_ < ws.length := by
      by_cases z : at_ < ws.length
      · exact z
      · rw [List.drop_of_length_le (by omega)] at h; cases h
    rw [List.tail_drop] at q
    walk_at "g"
    refine ⟨fun k s C' => C' = C ∧ ∃ (i : Nat) (g : Bool), s = (.int ((i : Nat) : Int), .bl g) ∧ k = ws.length - i ∧ i ≤ ws.length ∧ (if g = true then i < ws.length ∧ ddsG B (ws.drop (at_ + 1)) = ddsG B (ws.drop (i + 1)) else ddsG B (ws.drop (at_ + 1)) = some (ws.drop i)), ⟨_, rfl, at_, true, rfl, rfl, h0, by rw [if_pos rfl]; exact ⟨hlt, rfl⟩⟩, ?_⟩
    rintro k _ C' ⟨rfl, i, g, rfl, rfl, hi, hg⟩
    unfold w__law_is_text_t4
    walk_at "g"
    cases g with
    | false =>
      walk_at "g"
      unfold w__law_is_text_a6
      rw [if_neg (by decide)] at hg
      rw [hg] at q
      exact j3 hi q
    | true =>
      rw [if_pos rfl] at hg
      obtain ⟨hil, hg⟩ := hg
      rw [hg] at q
      walk_at "g"
      unfold w__law_is_text_l5
      walk_at "g"
      refine ite2M (fun hc => ?_) (fun hc => ?_)
      · have hle := of_decide_eq_true hc
        rw [List.length_map] at hle
        rw [List.drop_of_length_le (by omega)] at q
        walk_at "g"
        exact q
      · have hlt2 : i + 1 < ws.length := by
          have : ¬ ((((ws.map D.str).length : Nat) : Int) ≤ (i : Int) + 1) := fun z => hc (decide_eq_true z)
          rw [List.length_map] at this
          omega
        obtain ⟨x, hx⟩ : ∃ x, ws[i + 1]? = some x := ⟨_, List.getElem?_eq_getElem hlt2⟩
        rw [drop_at hx] at q
        walk_at "g"
        refine s_wix hx (by omega) ?_
        walk_at "g"
        by_cases hxB : x ∈ B
        · rw [dd_step hxB, List.tail_drop] at q
          rw [if_neg (show ¬ (!decide (x ∈ B)) = true by rw [decide_eq_true hxB]; decide)]
          walk_at "g"
          refine s_word hb (k := i + 2) (by simp) (by omega) (by omega) ?_
          refine part_id ⟨ws.length - (i + 2), by omega, rfl, i + 2, decide ((ws.drop (i + 2)).head? = some ("then" : Str)), by rw [show ((i : Int) + 1 + 1) = ((i + 2 : Nat) : Int) by omega], rfl, by omega, ?_⟩
          rw [hg, drop_at hx, dd_step hxB, List.tail_drop]
          by_cases hh : (ws.drop (i + 2)).head? = some ("then" : Str)
          · rw [if_pos (decide_eq_true hh), if_pos hh]
            refine ⟨?_, rfl⟩
            by_cases z : i + 2 < ws.length
            · exact z
            · rw [List.drop_of_length_le (by omega)] at hh; cases hh
          · rw [if_neg (by rw [decide_eq_false hh]; decide), if_neg hh]
        · rw [dd_bad hxB] at q
          rw [if_pos (show (!decide (x ∈ B)) = true by rw [decide_eq_false hxB]; rfl)]
          walk_at "g"
          exact q
  · rw [decide_eq_false h]
    rw [if_neg h] at q
    walk_at "g"
    exact j3 h0 q
theorem is_tests (T : Tp P K mg) (hl : ws.length ≤ 1000) (h1 : 1 ≤ ws.length) (hb : ∀ x ∈ ws, PyData.strOk x = true)
    (q : Q (.bl (match (if (ws.drop 1).head? = some ("if" : Str) then tstG A (ws.drop 1).tail else some (ws.drop 1)) with
      | none => false
      | some r2 => match (if r2.head? = some ("do" : Str) then ddsG B r2.tail else some r2) with
        | none => false
        | some r3 => r3.isEmpty)) C) :
    w__law_is_text_j1 T (.lst (ws.map D.str)) Qx Q (.lst (A.map D.str), .lst (B.map D.str)) C := by
  unfold w__law_is_text_j1
  walk_at "g"
  refine s_word hb (k := 1) (by simp) rfl rfl ?_
  by_cases h : (ws.drop 1).head? = some ("if" : Str)
  · rw [decide_eq_true h]
    rw [if_pos h] at q
    have hlt : 1 < ws.length := by
      by_cases z : 1 < ws.length
      · exact z
      · rw [List.drop_of_length_le (by omega)] at h; cases h
    rw [List.tail_drop] at q
    walk_at "g"
    refine ⟨fun k s C' => C' = C ∧ ∃ (i : Nat) (g : Bool), s = (.int ((i : Nat) : Int), .bl g) ∧ k = ws.length - i ∧ i ≤ ws.length ∧ (if g = true then i < ws.length ∧ tstG A (ws.drop 2) = tstG A (ws.drop (i + 1)) else tstG A (ws.drop 2) = some (ws.drop i)), ⟨_, rfl, 1, true, rfl, rfl, h1, by rw [if_pos rfl]; exact ⟨hlt, rfl⟩⟩, ?_⟩
    rintro k _ C' ⟨rfl, i, g, rfl, rfl, hi, hg⟩
    unfold w__law_is_text_t7
    walk_at "g"
    cases g with
    | false =>
      walk_at "g"
      unfold w__law_is_text_a9
      rw [if_neg (by decide)] at hg
      rw [hg] at q
      exact is_deeds T hi hl hb q
    | true =>
      rw [if_pos rfl] at hg
      obtain ⟨hil, hg⟩ := hg
      rw [hg] at q
      rw [tst_step] at q
      walk_at "g"
      unfold w__law_is_text_l8
      walk_at "g"
      refine s_word hb (k := i + 1) (by simp) (by omega) (by omega) ?_
      rw [tst_step (ws.drop (i + 1))] at hg
      by_cases hn : (ws.drop (i + 1)).head? = some ("not" : Str)
      · rw [decide_eq_true hn]
        rw [if_pos hn, List.tail_drop] at q hg
        walk_at "g"
        refine ite2M (fun hc => ?_) (fun hc => ?_)
        · have hle := of_decide_eq_true hc
          rw [List.length_map] at hle
          rw [List.drop_of_length_le (by omega)] at q
          walk_at "g"
          exact q
        · have hlt2 : i + 2 < ws.length := by
            have : ¬ ((((ws.map D.str).length : Nat) : Int) ≤ (i : Int) + 2) := fun z => hc (decide_eq_true z)
            rw [List.length_map] at this
            omega
          obtain ⟨x, hx⟩ : ∃ x, ws[i + 2]? = some x := ⟨_, List.getElem?_eq_getElem hlt2⟩
          rw [drop_at hx] at q hg
          walk_at "g"
          refine s_wix hx (by omega) ?_
          walk_at "g"
          by_cases hxA : x ∈ A
          · have e : chkT A (x :: ws.drop (i + 2 + 1)) = if (ws.drop (i + 2 + 1)).head? = some ("and" : Str) then tstG A (ws.drop (i + 2 + 1 + 1)) else some (ws.drop (i + 2 + 1)) := by
              show (if x ∈ A then _ else _) = _
              rw [if_pos hxA, List.tail_drop]
            rw [e] at q hg
            rw [if_neg (show ¬ (!decide (x ∈ A)) = true by rw [decide_eq_true hxA]; decide)]
            walk_at "g"
            refine s_word hb (k := i + 2 + 1) (by simp) (by omega) (by omega) ?_
            refine part_id ⟨ws.length - (i + 2 + 1), by omega, rfl, i + 2 + 1, decide ((ws.drop (i + 2 + 1)).head? = some ("and" : Str)), by rw [show ((i : Int) + 2 + 1) = ((i + 2 + 1 : Nat) : Int) by omega], rfl, by omega, ?_⟩
            rw [hg]
            by_cases hh : (ws.drop (i + 2 + 1)).head? = some ("and" : Str)
            · rw [if_pos (decide_eq_true hh), if_pos hh]
              refine ⟨?_, rfl⟩
              by_cases z : i + 2 + 1 < ws.length
              · exact z
              · rw [List.drop_of_length_le (by omega)] at hh; cases hh
            · rw [if_neg (by rw [decide_eq_false hh]; decide), if_neg hh]
          · have e : chkT A (x :: ws.drop (i + 2 + 1)) = none := if_neg hxA
            rw [e] at q
            rw [if_pos (show (!decide (x ∈ A)) = true by rw [decide_eq_false hxA]; rfl)]
            walk_at "g"
            exact q
      · rw [decide_eq_false hn]
        rw [if_neg hn] at q hg
        walk_at "g"
        refine ite2M (fun hc => ?_) (fun hc => ?_)
        · have hle := of_decide_eq_true hc
          rw [List.length_map] at hle
          rw [List.drop_of_length_le (by omega)] at q
          walk_at "g"
          exact q
        · have hlt2 : i + 1 < ws.length := by
            have : ¬ ((((ws.map D.str).length : Nat) : Int) ≤ (i : Int) + 1) := fun z => hc (decide_eq_true z)
            rw [List.length_map] at this
            omega
          obtain ⟨x, hx⟩ : ∃ x, ws[i + 1]? = some x := ⟨_, List.getElem?_eq_getElem hlt2⟩
          rw [drop_at hx] at q hg
          walk_at "g"
          refine s_wix hx (by omega) ?_
          walk_at "g"
          by_cases hxA : x ∈ A
          · have e : chkT A (x :: ws.drop (i + 1 + 1)) = if (ws.drop (i + 1 + 1)).head? = some ("and" : Str) then tstG A (ws.drop (i + 1 + 1 + 1)) else some (ws.drop (i + 1 + 1)) := by
              show (if x ∈ A then _ else _) = _
              rw [if_pos hxA, List.tail_drop]
            rw [e] at q hg
            rw [if_neg (show ¬ (!decide (x ∈ A)) = true by rw [decide_eq_true hxA]; decide)]
            walk_at "g"
            refine s_word hb (k := i + 1 + 1) (by simp) (by omega) (by omega) ?_
            refine part_id ⟨ws.length - (i + 1 + 1), by omega, rfl, i + 1 + 1, decide ((ws.drop (i + 1 + 1)).head? = some ("and" : Str)), by rw [show ((i : Int) + 1 + 1) = ((i + 1 + 1 : Nat) : Int) by omega], rfl, by omega, ?_⟩
            rw [hg]
            by_cases hh : (ws.drop (i + 1 + 1)).head? = some ("and" : Str)
            · rw [if_pos (decide_eq_true hh), if_pos hh]
              refine ⟨?_, rfl⟩
              by_cases z : i + 1 + 1 < ws.length
              · exact z
              · rw [List.drop_of_length_le (by omega)] at hh; cases hh
            · rw [if_neg (by rw [decide_eq_false hh]; decide), if_neg hh]
          · have e : chkT A (x :: ws.drop (i + 1 + 1)) = none := if_neg hxA
            rw [e] at q
            rw [if_pos (show (!decide (x ∈ A)) = true by rw [decide_eq_false hxA]; rfl)]
            walk_at "g"
            exact q
  · rw [decide_eq_false h]
    rw [if_neg h] at q
    walk_at "g"
    exact is_deeds T h1 hl hb q
theorem is_head (T : Tp P K mg) {l0 : Str} {r0 : List Str} (hw : wT t = l0 :: r0) (hl : t.length ≤ 120) (hb : ∀ x ∈ l0 :: r0, PyData.strOk x = true) (q : Q (.bl (accW (l0 :: r0))) C) : callW (fw__law_is_text T) Qx [.str t] C Q := by
  refine cl__law_is_text T ?_
  unfold w__law_is_text
  walk_at "g"
  rw [show Txt.split t (Str.ofString " ") = l0 :: r0 from hw]
  walk_at "g"
  refine s_wix (ws := l0 :: r0) (k := 0) rfl rfl ?_
  walk_at "g"
  have hln := (split_bound t kSp1 (by decide)).1
  have hle : (l0 :: r0).length ≤ 1000 := by
    rw [← hw]
    have : kSp1.length = 1 := by decide
    show (Txt.split t kSp1).length ≤ 1000
    omega
  unfold accW at q
  dsimp only at q
  by_cases hl0 : l0 ∈ cst_LETTERS
  · rw [if_neg (show ¬ (!decide (l0 ∈ (["yes", "no", "list"] : List Str))) = true by rw [decide_eq_true (show l0 ∈ (["yes", "no", "list"] : List Str) from hl0)]; decide)]
    rw [decide_eq_true hl0, Bool.true_and] at q
    walk_at "g"
    refine s_wix (ws := l0 :: r0) (k := 0) rfl rfl ?_
    walk_at "g"
    by_cases h : l0 = "list"
    · have eA : testsOf l0 = (["old", "all", "open", "same"] : List Str) := by unfold testsOf; rw [if_pos h]; rfl
      have eB : deedsOf l0 = (["take", "sweep", "clear"] : List Str) := by unfold deedsOf; rw [if_pos h]; rfl
      rw [eA, eB] at q
      rw [decide_eq_true h]
      walk_at "g"
      exact is_tests T (A := ["old", "all", "open", "same"]) (B := ["take", "sweep", "clear"]) (ws := l0 :: r0) hle (by simp) hb q
    · have eA : testsOf l0 = (["old", "all", "open", "same", "first", "gone"] : List Str) := by unfold testsOf; rw [if_neg h]; rfl
      have eB : deedsOf l0 = (["take", "sweep", "clear", "do", "drop"] : List Str) := by unfold deedsOf; rw [if_neg h]; rfl
      rw [eA, eB] at q
      rw [decide_eq_false h]
      walk_at "g"
      exact is_tests T (A := ["old", "all", "open", "same", "first", "gone"]) (B := ["take", "sweep", "clear", "do", "drop"]) (ws := l0 :: r0) hle (by simp) hb q
  · rw [if_pos (show (!decide (l0 ∈ (["yes", "no", "list"] : List Str))) = true by rw [decide_eq_false (show ¬ l0 ∈ (["yes", "no", "list"] : List Str) from hl0)]; rfl)]
    rw [decide_eq_false hl0, Bool.false_and] at q
    walk_at "g"
    exact q
end


section
variable {l t w s : Str} {ts dd ws r : List Str} {p q : Addr} {qs : List Int} {m : Int} {C R J : Cells} {Q : QE} {Qx : QX} {n : Nat}
def odds : List Str := ["", "if", "do", "and", "then", "not", "old", "take", "first", "drop", "list", "yes", "Take"]
def WordK (w : Str) : Prop := (32 : Nat) ∉ TL.tl w ∧ w.length ≤ 5 ∧ PyData.strOk w = true
theorem odds_ok : ∀ w ∈ odds, WordK w := by
  have : ∀ w ∈ odds, (32 : Nat) ∉ TL.tl w ∧ w.length ≤ 5 ∧ PyData.strOk w = true := by decide +kernel
  exact this
structure WTx (n : Nat) (t : Str) : Prop where
  w : ∀ x ∈ wT t, WordK x
  l : (wT t).length ≤ n
theorem wT_ne (t : Str) : wT t ≠ [] := split_some (by rw [tl_sp1.1]; simp) tl_sp1.2
theorem wT_join {ws : List Str} (hn : ws ≠ []) (h : ∀ x ∈ ws, WordK x) : wT (Txt.join kSp1 ws) = ws :=
  TL.split_join (s := 32) (S := []) tl_sp1.1 tl_sp1.2 hn fun x hx => (h x hx).1
theorem WTx.of {ws : List Str} (hl : ws.length ≤ n) (h1 : 1 ≤ n) (h : ∀ x ∈ ws, WordK x) : WTx n (Txt.join kSp1 ws) := by
  by_cases e : ws = []
  · subst e
    have e2 : wT (Txt.join kSp1 []) = [("" : Str)] ∧ ((32 : Nat) ∉ TL.tl ("" : Str) ∧ ("" : Str).length ≤ 5 ∧ PyData.strOk ("" : Str) = true) := by decide +kernel
    exact ⟨fun x hx => by rw [e2.1] at hx; rw [List.mem_singleton.mp hx]; exact e2.2, by rw [e2.1]; exact h1⟩
  · have e2 := wT_join e h
    exact ⟨by rw [e2]; exact h, by rw [e2]; exact hl⟩
theorem sum_le5 {L : List Str} (h : ∀ x ∈ L, x.length ≤ 5) : (L.map (·.length)).sum ≤ L.length * 5 := sum_le h
theorem WTx.len (h : WTx n t) : t.length ≤ n * 6 := by
  have h1 := txt_join_len kSp1 (wT t)
  rw [join_split1, show kSp1.length = 1 by decide] at h1
  have h2 := sum_le5 fun x hx => (h.w x hx).2.1
  have h3 := h.l
  omega
theorem kw_ok : ∀ x ∈ (["if", "and", "do", "then"] : List Str), WordK x := by
  have : ∀ w ∈ (["if", "and", "do", "then"] : List Str), (32 : Nat) ∉ TL.tl w ∧ w.length ≤ 5 ∧ PyData.strOk w = true := by decide +kernel
  exact this
theorem let_word : ∀ x ∈ cst_LETTERS, WordK x := by
  have : ∀ w ∈ cst_LETTERS, (32 : Nat) ∉ TL.tl w ∧ w.length ≤ 5 ∧ PyData.strOk w = true := by decide +kernel
  exact this
theorem part_words : ∀ t ∈ allT ++ cst_DEEDS, (∀ x ∈ wT t, WordK x) ∧ (wT t).length ≤ 2 := by
  have : ∀ t ∈ allT ++ cst_DEEDS, (∀ w ∈ wT t, (32 : Nat) ∉ TL.tl w ∧ w.length ≤ 5 ∧ PyData.strOk w = true) ∧ (wT t).length ≤ 2 := by decide +kernel
  exact this
theorem deed_words : ∀ t ∈ cst_DEEDS, (wT t).length ≤ 1 := by decide +kernel
theorem mem_interS {k x : Str} : ∀ {ps : List (List Str)}, x ∈ interS k ps → x = k ∨ ∃ p ∈ ps, x ∈ p
  | [], h => by cases h
  | [p], h => .inr ⟨p, List.mem_cons_self, h⟩
  | p :: a :: b, h => by
    rcases List.mem_append.mp (show x ∈ p ++ k :: interS k (a :: b) from h) with h | h
    · exact .inr ⟨p, List.mem_cons_self, h⟩
    · rcases List.mem_cons.mp h with h | h
      · exact .inl h
      · rcases mem_interS h with h | ⟨y, h1, h2⟩
        · exact .inl h
        · exact .inr ⟨y, List.mem_cons_of_mem _ h1, h2⟩
theorem interS_len {k : Str} {j : Nat} : ∀ {ps : List (List Str)}, (∀ p ∈ ps, p.length ≤ j) → (interS k ps).length ≤ ps.length * (j + 1)
  | [], _ => Nat.zero_le _
  | [p], h => by
    have := h p List.mem_cons_self
    show p.length ≤ 1 * (j + 1)
    omega
  | p :: a :: b, h => by
    have h1 := h p List.mem_cons_self
    have h2 := interS_len (k := k) (ps := a :: b) fun q hq => h q (List.mem_cons_of_mem _ hq)
    show (p ++ k :: interS k (a :: b)).length ≤ _
    rw [List.length_append, List.length_cons]
    have e : (p :: a :: b).length * (j + 1) = (a :: b).length * (j + 1) + (j + 1) := by rw [List.length_cons, Nat.add_mul, Nat.one_mul]
    omega
theorem good_words (g : RParts l ts dd) (h1 : ts.length ≤ 3) (h2 : dd.length ≤ 3) : WTx 18 (rowT l ts dd) := by
  have pt := fun t ht => part_words t (List.mem_append_left _ (g.t t ht).1)
  have pd := fun t ht => part_words t (List.mem_append_right _ (g.d t ht).1)
  have k := kw_ok
  refine ⟨?_, ?_⟩
  · rw [g.split]
    intro x hx
    unfold rowW at hx
    rcases List.mem_cons.mp hx with rfl | hx
    · exact let_word _ g.le
    rcases List.mem_append.mp hx with hx | hx
    · split at hx
      · cases hx
      · rcases List.mem_cons.mp hx with rfl | hx
        · exact k _ (by simp)
        · rcases mem_interS hx with rfl | ⟨p, hp, h⟩
          · exact k _ (by simp)
          · obtain ⟨t, ht, rfl⟩ := List.mem_map.mp hp
            exact (pt t ht).1 x h
    · split at hx
      · cases hx
      · rcases List.mem_cons.mp hx with rfl | hx
        · exact k _ (by simp)
        · rcases mem_interS hx with rfl | ⟨p, hp, h⟩
          · exact k _ (by simp)
          · obtain ⟨t, ht, rfl⟩ := List.mem_map.mp hp
            exact (pd t ht).1 x h
  · rw [g.split]
    unfold rowW
    have a1 := interS_len (k := "and") (j := 2) (ps := ts.map wT) fun p hp => by
      obtain ⟨t, ht, rfl⟩ := List.mem_map.mp hp
      exact (pt t ht).2
    have a2 := interS_len (k := "then") (j := 1) (ps := dd.map wT) fun p hp => by
      obtain ⟨t, ht, rfl⟩ := List.mem_map.mp hp
      exact deed_words t (g.d t ht).1
    rw [List.length_map] at a1 a2
    rw [List.length_cons, List.length_append]
    have b1 : (if ts = [] then ([] : List Str) else ("if" : Str) :: interS "and" (ts.map wT)).length ≤ 10 := by
      split
      · simp
      · rw [List.length_cons]; omega
    have b2 : (if dd = [] then ([] : List Str) else ("do" : Str) :: interS "then" (dd.map wT)).length ≤ 7 := by
      split
      · simp
      · rw [List.length_cons]; omega
    omega
theorem c_bent (T : Tp P K mg) (hw : WTx n t) (hn : n ≤ 30) (hd : DealOk qs m) (pm : C.Perm (dealC p q qs m ++ R)) (k : ∀ t' qs' m' C', WTx (n + 1) t' → DealOk qs' m' → C'.Perm (dealC p q qs' m' ++ R) → Q (.str t') C') : callW (fw__law_bent T) Qx [.raw (.ref p), .str t] C Q := by
  have tl := hw.len
  have wl := hw.l
  have wn := wT_ne t
  have wk := hw.w
  have wp : 0 < (wT t).length := List.length_pos_iff.mpr wn
  refine cl__law_bent T ?_
  unfold w__law_bent
  have fin : ∀ {ws : List Str} {C1 J : Cells} {qs m d}, DealOk qs m → SeqD C1 d (ws.map D.str) → ws.length ≤ n + 1 → (∀ x ∈ ws, WordK x) → C1.Perm (dealC p q qs m ++ (J ++ R)) → w__law_bent_j1 T Qx Q d C1 := by
    intro ws C1 J qs m d hd hs hl hk pm
    unfold w__law_bent_j1
    walk_at "g"
    have h2 := sum_le5 fun x hx => (hk x hx).2.1
    have h3 : (Str.ofString " ").length = 1 := by decide
    refine ⟨by rw [h3]; omega, dealC p q qs m ++ R, J, pm.trans ?_, k _ _ _ _ (WTx.of hl (by omega) hk) hd (.refl _)⟩
    rw [List.append_assoc]
    exact List.perm_append_comm.append_left _
  walk_at "g"
  refine s_splitC ⟨by decide, by omega, fun z => ?_⟩
  rw [show Txt.split t (Str.ofString " ") = wT t from rfl]
  generalize hW : wT t = W at wl wn wk wp ⊢
  walk_at "g"
  refine c_drawP T (r := (z, .lst (W.map D.str)) :: R) ((pm.cons _).trans List.perm_middle.symm) hd (by decide) (by decide) fun k1 qs1 m1 k10 k11 hd1 => ?_
  walk_at "g"
  rw [List.length_map]
  refine c_drawP T (.refl _) hd1 (by omega) (by omega) fun k2 qs2 m2 k20 k21 hd2 => ?_
  obtain ⟨a, rfl⟩ := Int.eq_ofNat_of_zero_le k20
  have ha : a < W.length := by omega
  walk_at "g"
  refine c_drawP T (.refl _) hd2 (by decide) (by decide) fun k3 qs3 m3 k30 k31 hd3 => ?_
  refine s_ix_at (l := odds) (g := D.str) k30 k31 fun o ho => ?_
  have ok := odds_ok o ho
  have hz : LstD (dealC p q qs3 m3 ++ (z, Cell.lst (W.map D.str)) :: R) (.raw (.ref z)) (W.map D.str) := .inr ⟨z, rfl, List.mem_append_right _ List.mem_cons_self⟩
  have tk : ∀ x ∈ W.take a, WordK x := fun x hx => wk x (List.mem_of_mem_take hx)
  have dk : ∀ x ∈ W.drop (a + 1), WordK x := fun x hx => wk x (List.mem_of_mem_drop hx)
  have dk0 : ∀ x ∈ W.drop a, WordK x := fun x hx => wk x (List.mem_of_mem_drop hx)
  have l1 : (W.take a).length = a := by rw [List.length_take]; omega
  have l2 : (W.drop (a + 1)).length = W.length - (a + 1) := List.length_drop ..
  have l3 : (W.drop a).length = W.length - a := List.length_drop ..
  walk_at "g"
  have am : ∀ {A B : List Str}, (∀ x ∈ A, WordK x) → (∀ x ∈ B, WordK x) → ∀ x ∈ A ++ B, WordK x := fun h1 h2 x hx => by
    rcases List.mem_append.mp hx with hx | hx
    · exact h1 x hx
    · exact h2 x hx
  have om : ∀ x ∈ [o], WordK x := fun x hx => by rw [List.mem_singleton.mp hx]; exact ok
  have t1 : ((a : Int) + 1).toNat = a + 1 := by omega
  refine ite2M (fun _ => ?_) (fun _ => ?_)
  · walk_at "g"
    rw [cutD_map, cutD_map, cutL_to (by omega), cutL_from (by omega), Int.toNat_natCast, t1]
    refine ⟨(W.take a).map D.str, (W.drop (a + 1)).map D.str, .l, .l, by rw [List.length_map, List.length_map]; omega, fun z2 => ?_⟩
    exact fin (ws := W.take a ++ W.drop (a + 1)) (J := [(z2, _), (z, _)]) hd3 (.inl (.inr ⟨z2, rfl, by rw [List.map_append]; exact List.mem_cons_self⟩)) (by rw [List.length_append]; omega) (am tk dk) List.perm_middle.symm
  walk_at "g"
  refine ite2M (fun _ => ?_) (fun _ => ?_)
  · walk_at "g"
    obtain ⟨x, hx⟩ : ∃ x, W[a]? = some x := ⟨_, List.getElem?_eq_getElem ha⟩
    have hxm := List.mem_of_getElem? hx
    refine s_ix_cell (d := .str x) hz (atI_map D.str (by
      unfold atI ixN
      rw [if_pos (by omega), if_pos (by omega), Int.toNat_natCast]
      exact hx)) ?_
    refine ⟨2, z, W.map D.str, a, rfl, rfl, by omega, rfl, by rw [List.length_map]; omega, ?_⟩
    refine fin (ws := W.take a ++ [x] ++ W.drop a) (J := [(z, .lst ((W.take a ++ [x] ++ W.drop a).map D.str))]) hd3 (.inl (.inr ⟨z, rfl, ?_⟩)) (by rw [List.length_append, List.length_append]; simp only [List.length_singleton]; omega) (am (am tk fun y hy => by rw [List.mem_singleton.mp hy]; exact wk x hxm) dk0) ?_
    · have e : (W.map D.str).take a ++ [D.str x] ++ (W.map D.str).drop a = (W.take a ++ [x] ++ W.drop a).map D.str := by simp [List.map_take, List.map_drop]
      rw [e]
      exact (show (z, Cell.lst ((W.take a ++ [x] ++ W.drop a).map D.str)) ∈ dealC p q qs3 m3 ++ (z, Cell.lst ((W.take a ++ [x] ++ W.drop a).map D.str)) :: R from List.mem_append_right _ List.mem_cons_self)
    · have e : (W.map D.str).take a ++ [D.str x] ++ (W.map D.str).drop a = (W.take a ++ [x] ++ W.drop a).map D.str := by simp [List.map_take, List.map_drop]
      rw [e]
      exact .refl _
  walk_at "g"
  refine ite2M (fun _ => ?_) (fun _ => ?_)
  · walk_at "g"
    rw [cutD_map, cutL_to (by omega), Int.toNat_natCast]
    refine ⟨by rw [List.length_map, l1]; show a + 1 ≤ 100000; omega, ?_⟩
    walk_at "g"
    rw [cutD_map, cutL_from (by omega), t1]
    refine ⟨(W.take a).map D.str ++ [.str o], (W.drop (a + 1)).map D.str, .l, .l, by rw [List.length_append, List.length_map, List.length_map, List.length_singleton]; omega, fun z2 => ?_⟩
    exact fin (ws := W.take a ++ [o] ++ W.drop (a + 1)) (J := [(z2, _), (z, _)]) hd3 (.inl (.inr ⟨z2, rfl, by rw [List.map_append, List.map_append]; exact List.mem_cons_self⟩)) (by rw [List.length_append, List.length_append, List.length_singleton]; omega) (am (am tk om) dk) List.perm_middle.symm
  · walk_at "g"
    rw [cutD_map, cutL_to (by omega), Int.toNat_natCast]
    refine ⟨by rw [List.length_map, l1]; show a + 1 ≤ 100000; omega, ?_⟩
    walk_at "g"
    rw [cutD_map, cutL_from (by omega), Int.toNat_natCast]
    refine ⟨(W.take a).map D.str ++ [.str o], (W.drop a).map D.str, .l, .l, by rw [List.length_append, List.length_map, List.length_map, List.length_singleton]; omega, fun z2 => ?_⟩
    exact fin (ws := W.take a ++ [o] ++ W.drop a) (J := [(z2, _), (z, _)]) hd3 (.inl (.inr ⟨z2, rfl, by rw [List.map_append, List.map_append]; exact List.mem_cons_self⟩)) (by rw [List.length_append, List.length_append, List.length_singleton]; omega) (am (am tk om) dk0) List.perm_middle.symm
end


section
variable {l t w s : Str} {ts dd ws r : List Str} {p q : Addr} {qs : List Int} {m : Int} {C R J : Cells} {Q : QE} {Qx : QX} {n : Nat}
theorem c_lrowP (T : Tp P K mg) (pm : C.Perm (dealC p q qs m ++ R)) (hd : DealOk qs m) (k : ∀ l ts dd qs' m', GoodRow l ts dd → DealOk qs' m' → Q (.tup [.str l, .lst (ts.map D.str), .lst (dd.map D.str)]) (dealC p q qs' m' ++ R)) :
    callW (fw__law_row T) Qx [.raw (.ref p)] C Q := ⟨dealC p q qs m, R, pm, p_lrow T hd k⟩
theorem told_eq {k : Int} : EqD C (.tup [.str "text", .int k, .bl true]) (.tup [.str "text", .int k, .bl true]) true := by
  have h : ∀ d ∈ [D.str "text", .int k, .bl true], plainD d = true ∧ (toPy d).canLay0 = true ∧ (toPy d).depth ≤ 1 := fun d hd => by
    rcases List.mem_cons.mp hd with rfl | hd
    · exact ⟨rfl, (ShowOk.str (by decide +kernel)).lay, by show (PyData.str _).depth ≤ 1; simp [PyData.depth]⟩
    rcases List.mem_cons.mp hd with rfl | hd
    · exact ⟨rfl, rfl, by show (PyData.int _).depth ≤ 1; simp [PyData.depth]⟩
    rw [List.mem_singleton.mp hd]
    exact ⟨rfl, rfl, by show (PyData.bool _).depth ≤ 1; simp [PyData.depth]⟩
  obtain ⟨x1, x2, x3⟩ := lays (k := 1) h
  refine eqd_rfl ?_ ?_ ?_
  · unfold plainD; exact x1
  · unfold toPy; rw [PyData.canLay0]; exact x2
  · unfold toPy; rw [PyData.depth]; omega
theorem c_told (T : Tp P K mg) (hw : WTx n t) (hn : n ≤ 20) (q : Q (.bl (accW (wT t))) C) : callW (fw__law_is_text T) Qx [.str t] C Q := by
  have hl := hw.len
  have wk := hw.w
  cases e : wT t with
  | nil => exact absurd e (wT_ne t)
  | cons l0 r0 =>
    rw [e] at q wk
    exact is_head T e (by omega) (fun x hx => (wk x hx).2.2) q
theorem up12 (pm : C.Perm (dealC p q qs m ++ R)) : (J ++ C).Perm (dealC p q qs m ++ (J ++ R)) := (pm.append_left J).trans (List.perm_append_comm_assoc _ _ _)
theorem law_j3 (T : Tp P K mg) {nx : Unit → MB} (hw : WTx n t) (hn20 : n ≤ 20) (pm : C.Perm (dealC p q qs m ++ R)) (hn : ∀ R' C', C'.Perm (dealC p q qs m ++ R') → nx () C') : w_law_j3 T nx Qx Q (.str t) C := by
  have hl := hw.len
  unfold w_law_j3
  walk_at "g"
  refine c_heard T (by omega) (fun ha => ?_) (fun ha J => ?_)
  · walk_at "g"
    refine c_told T hw hn20 ?_
    rw [ha]
    walk_at "g"
    rw [decide_eq_true rfl]
    walk_at "g"
    exact part_id (hn _ _ pm)
  · walk_at "g"
    refine c_told T hw hn20 ?_
    rw [ha]
    walk_at "g"
    refine s_neD (.inl rfl) told_eq ?_
    walk_at "g"
    exact part_id (hn _ _ (up12 pm))
theorem WTx.mono {k : Nat} (h : WTx n t) (hk : n ≤ k) : WTx k t := ⟨h.w, Nat.le_trans h.l hk⟩
theorem law_l1 (T : Tp P K mg) {d : D} {u : Unit} {nx bk : Unit → MB} (hd : DealOk qs m) (pm : C.Perm (dealC p q qs m ++ R)) (hn : ∀ qs m R C', DealOk qs m → C'.Perm (dealC p q qs m ++ R) → nx () C') :
    w_law_l1 T (.raw (.ref p)) Qx Q d u nx bk C := by
  unfold w_law_l1
  walk_at "g"
  refine c_lrowP T pm hd fun l ts dd qs1 m1 g hd1 => ?_
  walk_at "g"
  rw [cutD_map, cutL_to (by decide)]
  walk_at "g"
  rw [cutD_map, cutL_to (by decide)]
  walk_at "g"
  have l1 : (ts.take (Int.toNat 3)).length ≤ 3 := List.length_take_le _ _
  have l2 : (dd.take (Int.toNat 3)).length ≤ 3 := List.length_take_le _ _
  have g2 : GoodRow l (ts.take (Int.toNat 3)) (dd.take (Int.toNat 3)) := ⟨g.le, fun t ht => g.t t (List.mem_of_mem_take ht), fun d hd => g.d d (List.mem_of_mem_take hd), by omega, by omega⟩
  generalize ts.take (Int.toNat 3) = ts at l1 g2
  generalize dd.take (Int.toNat 3) = dd at l2 g2
  refine p_lrow_text T g2 fun r er => ?_
  have rp : RParts l ts dd := ⟨g2.le, g2.t, g2.d⟩
  have hw : WTx 18 r := by rw [er]; exact good_words rp l1 l2
  have ha : accW (wT r) = true := by rw [er, rp.split]; exact acc_good rp
  have hl := hw.len
  walk_at "g"
  refine c_heard T (by omega) (fun _ => ?_) (fun h => by rw [ha] at h; cases h)
  walk_at "g"
  rw [decide_eq_true rfl]
  walk_at "g"
  refine c_told T hw (by decide) ?_
  rw [ha]
  walk_at "g"
  refine c_bent T hw (by decide) hd1 (.refl _) fun t2 qs2 m2 C2 hw2 hd2 pm2 => ?_
  walk_at "g"
  refine c_drawP T pm2 hd2 (by decide) (by decide) fun k qs3 m3 k0 k1 hd3 => ?_
  walk_at "g"
  refine ite2M (fun _ => ?_) (fun _ => ?_)
  · walk_at "g"
    refine c_bent T hw2 (by decide) hd3 (.refl _) fun t3 qs4 m4 C4 hw4 hd4 pm4 => ?_
    walk_at "g"
    exact law_j3 T hw4 (by decide) pm4 fun R' C' pm' => hn _ _ _ _ hd4 pm'
  · exact law_j3 T hw2 (by decide) (.refl _) fun R' C' pm' => hn _ _ _ _ hd3 pm'
def oddT : List Str := ["", " yes", "yes ", "yes\n", "yes if", "yes do", "yes if do take", "yes do then", "list if first", "list do do"]
theorem oddT_ok : ∀ t ∈ oddT, accW (wT t) = false ∧ t.length ≤ 120 := by decide +kernel
theorem lcB1_none {P0 : Cells → Prop} {t : D → MT} {f : D → ME} {α : Type} {l : List α} {g : α → D} {C : Cells} {Q : QE} (hP : ∀ J : Cells, P0 (J ++ C)) (st : ∀ a ∈ l, ∀ (J : Cells) (k : QT), (∀ J2 : Cells, k false (J2 ++ (J ++ C))) → t (g a) (J ++ C) k) (q : ∀ J : Cells, Q (.lst []) (J ++ C)) : lcB1 P0 t f Q (l.map g) [] C := by
  have go : ∀ (r : List α) (J : Cells), (∀ a ∈ r, a ∈ l) → lcB1 P0 t f Q (r.map g) [] (J ++ C) := by
    intro r
    induction r with
    | nil => intro J _; exact ⟨hP J, q J⟩
    | cons a r ih =>
      intro J hm
      refine ⟨hP J, st a (hm a List.mem_cons_self) J _ fun J2 => ?_⟩
      rw [if_neg (by decide), ← List.append_assoc]
      exact ih (J2 ++ J) fun x hx => hm x (List.mem_cons_of_mem _ hx)
  exact go l [] fun a h => h
theorem p_law (T : Tp P K mg) {ns : List Int} (hl : ns.length ≤ 63) (hq : ∀ C', Q (.bl true) C') : w_law T (.lst (ns.map .int)) Qx Q [] := by
  unfold w_law
  walk_at "g"
  refine c_deal T hl (by decide) (by decide) fun p q qs m hd => ?_
  rw [List.append_nil]
  walk_at "g"
  refine loop_inv (fun _ _ C => ∃ qs m R, DealOk qs m ∧ C.Perm (dealC p q qs m ++ R)) ⟨qs, m, [], hd, by rw [List.append_nil]⟩ ?_ ?_
  · rintro i d u C nx hi ⟨qs, m, R, hd, pm⟩ hn
    refine ⟨trivial, ?_⟩
    exact law_l1 T hd pm fun qs m R C' hd' pm' => hn _ _ ⟨qs, m, R, hd', pm'⟩
  · rintro u C ⟨qs, m, R, hd, pm⟩
    refine ⟨trivial, ?_⟩
    unfold w_law_a2
    walk_at "g"
    intro zo
    walk_at "g"
    refine lcB1_none (l := oddT) (g := D.str) (C := (zo, .lst (oddT.map D.str)) :: C) (fun J => .inl (.inr ⟨zo, rfl, List.mem_append_right _ List.mem_cons_self⟩)) (fun t ht J k hk => ?_) (fun J => ?_)
    · obtain ⟨h1, h2⟩ := oddT_ok t ht
      walk_at "g"
      refine c_heard T h2 (fun h => by rw [h1] at h; cases h) (fun _ J2 => ?_)
      walk_at "g"
      refine s_neD (.inl rfl) told_eq ?_
      walk_at "g"
      exact hk J2
    walk_at "g"
    refine s_eqD (.inl rfl) (eqd_lstS (xs := []) (ys := []) .l .l (fun x hx => by cases hx) (fun x hx => by cases hx)) ?_
    walk_at "g"
    exact drop_id (hq _)
end
theorem law_ok (T : Tp P K mg) : FnG P w K mg base 12 T.f_law T.d_law ["_law_script"] lawFS :=
  ((ok_law T).imp (F' := lawFS) fun ds C Q Qx ⟨ns, e, hl, hC, hq⟩ => by subst e; subst hC; exact p_law T hl hq).mono (by decide)


end
set_option hygiene true
end Kk

theorem PySem.Challenge.cw_hastypage_k12_texts_of_rows_holds : PySem.Challenge.rw_hastypage_k12_texts_of_rows.Holds := by
  exact Kk.law_of Kk.law_ok

