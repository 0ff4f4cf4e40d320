import PyProof.Rows.All
import Wide.All
import OpenK.AllK
import Wide.FinOn
import HandS.ForMost
import HandS.TupAny
import HandS.Deep
import HandS.IsInst
import HandS.SortInts
import PySem.Challenge.RW_kindhall_k45_granted_and_goal
set_option Elab.async false
set_option linter.all false
set_option maxRecDepth 100000
set_option maxHeartbeats 4000000
namespace Ev
open PySem PySem.Spec L2

/-! ## the data -/
inductive D where
  | non | bl (b : Bool) | int (i : Int) | str (x : Str) | tup (xs : List D) | lst (xs : List D) | scr (ns : List Int) | ref (k : Nat)
inductive Ob where
  | lst (xs : List D) | dct (kvs : List (D × D)) | ins (C : Str) (fs : List (Str × D))
abbrev Store := List (Option Ob)
abbrev En := List (Option D)
inductive Res (α : Type) where
  | ok (a : α) (S : Store) | exc (c : Str) (S : Store) | stuck

/-! ## what represents a datum -/
mutual
def RepV (K : PySem.W.Frag) (F : Hp) (ms : List Addr) : D → V → Prop
  | .non, v => v = .non
  | .bl b, v => v = .bl b
  | .int i, v => v = .int i
  | .str x, v => v = .str x
  | .tup ds, v => ∃ a vs, v = .ref a ∧ SqT K F a vs ∧ RepL K F ms ds vs
  | .lst ds, v => ∃ a vs, v = .ref a ∧ F a = some (.lst vs) ∧ RepL K F ms ds vs
  | .scr ns, v => ∃ a, v = .ref a ∧ SqL K F a (ns.map V.int)
  | .ref k, v => ∃ a, ms[k]? = some a ∧ v = .ref a
def RepL (K : PySem.W.Frag) (F : Hp) (ms : List Addr) : List D → List V → Prop
  | [], vs => vs = []
  | d :: ds, vs => ∃ v r, vs = v :: r ∧ RepV K F ms d v ∧ RepL K F ms ds r
end

structure Ext (F F' : Hp) (ms ms' : List Addr) : Prop where
  same : Same F F'
  pre : ∀ (k : Nat) (a : Addr), ms[k]? = some a → ms'[k]? = some a
theorem Ext.refl (F : Hp) (ms : List Addr) : Ext F F ms ms := ⟨Same.refl _, fun _ _ h => h⟩
theorem Ext.trans {F F1 F2 : Hp} {ms ms1 ms2 : List Addr} (a : Ext F F1 ms ms1) (b : Ext F1 F2 ms1 ms2) : Ext F F2 ms ms2 :=
  ⟨a.same.trans b.same, fun k x h => b.pre k x (a.pre k x h)⟩
theorem Ext.ofSame {F F' : Hp} (h : Same F F') (ms : List Addr) : Ext F F' ms ms := ⟨h, fun _ _ h => h⟩
theorem Same.seqT {K : PySem.W.Frag} {H H' : Hp} {a : Addr} {xs : List V} (e : Same H H') (h : SqT K H a xs) : SqT K H' a xs := by
  rcases h with (h | ⟨o, h⟩) | h
  · exact .inl (.inl (e _ _ h))
  · exact .inl (.inr ⟨o, e _ _ h⟩)
  · exact .inr h
section
variable {K : PySem.W.Frag} {F F' : Hp} {ms ms' : List Addr}
mutual
theorem RepV.mono (x : Ext F F' ms ms') : ∀ {d : D} {v : V}, RepV K F ms d v → RepV K F' ms' d v
  | .non, _, h => by simp only [RepV] at h ⊢; exact h
  | .bl _, _, h => by simp only [RepV] at h ⊢; exact h
  | .int _, _, h => by simp only [RepV] at h ⊢; exact h
  | .str _, _, h => by simp only [RepV] at h ⊢; exact h
  | .tup ds, _, h => by
    simp only [RepV] at h ⊢
    obtain ⟨a, vs, e, q, r⟩ := h
    exact ⟨a, vs, e, Same.seqT x.same q, RepL.mono x r⟩
  | .lst ds, _, h => by
    simp only [RepV] at h ⊢
    obtain ⟨a, vs, e, q, r⟩ := h
    exact ⟨a, vs, e, x.same _ _ q, RepL.mono x r⟩
  | .scr ns, _, h => by
    simp only [RepV] at h ⊢
    obtain ⟨a, e, q⟩ := h
    exact ⟨a, e, x.same.seq q⟩
  | .ref k, _, h => by
    simp only [RepV] at h ⊢
    obtain ⟨a, e, q⟩ := h
    exact ⟨a, x.pre _ _ e, q⟩
theorem RepL.mono (x : Ext F F' ms ms') : ∀ {ds : List D} {vs : List V}, RepL K F ms ds vs → RepL K F' ms' ds vs
  | [], _, h => by simp only [RepL] at h ⊢; exact h
  | d :: ds, _, h => by
    simp only [RepL] at h ⊢
    obtain ⟨v, r, e, q, t⟩ := h
    exact ⟨v, r, e, RepV.mono x q, RepL.mono x t⟩
end
theorem RepL.nil : RepL K F ms [] [] := by simp only [RepL]
theorem RepL.cons {d : D} {v : V} {ds : List D} {vs : List V} (h : RepV K F ms d v) (t : RepL K F ms ds vs) : RepL K F ms (d :: ds) (v :: vs) := by
  simp only [RepL]; exact ⟨v, vs, rfl, h, t⟩
theorem RepL.length : ∀ {ds : List D} {vs : List V}, RepL K F ms ds vs → vs.length = ds.length
  | [], _, h => by simp only [RepL] at h; rw [h]; rfl
  | d :: ds, _, h => by
    simp only [RepL] at h
    obtain ⟨v, r, rfl, _, t⟩ := h
    rw [List.length_cons, List.length_cons, RepL.length t]
theorem RepL.get : ∀ {ds : List D} {vs : List V} {i : Nat} {d : D}, RepL K F ms ds vs → ds[i]? = some d → ∃ v, vs[i]? = some v ∧ RepV K F ms d v
  | [], _, _, _, _, e => by simp at e
  | d :: ds, _, 0, d', h, e => by
    simp only [RepL] at h
    obtain ⟨v, r, rfl, q, t⟩ := h
    simp at e; subst e
    exact ⟨v, rfl, q⟩
  | d :: ds, _, i + 1, d', h, e => by
    simp only [RepL] at h
    obtain ⟨v, r, rfl, q, t⟩ := h
    obtain ⟨w, e1, e2⟩ := RepL.get (i := i) t (by simpa using e)
    exact ⟨w, by simpa using e1, e2⟩
theorem RepL.append : ∀ {ds es : List D} {vs ws : List V}, RepL K F ms ds vs → RepL K F ms es ws → RepL K F ms (ds ++ es) (vs ++ ws)
  | [], _, _, _, h, g => by simp only [RepL] at h; subst h; exact g
  | d :: ds, _, _, _, h, g => by
    simp only [RepL] at h
    obtain ⟨v, r, rfl, q, t⟩ := h
    exact RepL.cons q (RepL.append t g)
theorem RepL.drop : ∀ {ds : List D} {vs : List V} (n : Nat), RepL K F ms ds vs → RepL K F ms (ds.drop n) (vs.drop n)
  | _, _, 0, h => h
  | [], _, n + 1, h => by simp only [RepL] at h; subst h; exact RepL.nil
  | d :: ds, _, n + 1, h => by
    simp only [RepL] at h
    obtain ⟨v, r, rfl, q, t⟩ := h
    exact RepL.drop n t
theorem RepL.take : ∀ {ds : List D} {vs : List V} (n : Nat), RepL K F ms ds vs → RepL K F ms (ds.take n) (vs.take n)
  | _, _, 0, h => RepL.nil
  | [], _, n + 1, h => by simp only [RepL] at h; subst h; exact RepL.nil
  | d :: ds, _, n + 1, h => by
    simp only [RepL] at h
    obtain ⟨v, r, rfl, q, t⟩ := h
    exact RepL.cons q (RepL.take n t)
theorem RepL.set : ∀ {ds : List D} {vs : List V} {d : D} {v : V} (i : Nat), RepL K F ms ds vs → RepV K F ms d v → RepL K F ms (ds.set i d) (vs.set i v)
  | [], _, _, _, _, h, _ => by simp only [RepL] at h; subst h; exact RepL.nil
  | e :: ds, _, d, v, 0, h, g => by
    simp only [RepL] at h
    obtain ⟨w, r, rfl, q, t⟩ := h
    exact RepL.cons g t
  | e :: ds, _, d, v, i + 1, h, g => by
    simp only [RepL] at h
    obtain ⟨w, r, rfl, q, t⟩ := h
    exact RepL.cons q (RepL.set i t g)
end

/-! ## the store -/
def ObRep (K : PySem.W.Frag) (cl : Str → Option Addr) (F : Hp) (ms : List Addr) (H : Hp) (a : Addr) : Ob → Prop
  | .lst ds => ∃ vs, H a = some (.lst vs) ∧ RepL K F ms ds vs
  | .dct kvs => ∃ ks : List (Key × V), H a = some (.dK ks) ∧ RepL K F ms (kvs.map (·.1)) (ks.map fun p => kV p.1) ∧ RepL K F ms (kvs.map (·.2)) (ks.map (·.2))
  | .ins C fs => ∃ (ca dx : Addr) (gs : List (Str × V)), cl C = some ca ∧ H a = some (.ins ca dx gs) ∧ gs.map (·.1) = fs.map (·.1) ∧ RepL K F ms (fs.map (·.2)) (gs.map (·.2))
structure RelS (K : PySem.W.Frag) (cl : Str → Option Addr) (F : Hp) (ms : List Addr) (S : Store) (H : Hp) : Prop where
  same : Same F H
  len : ms.length = S.length
  ob : ∀ (k : Nat) (o : Ob), S[k]? = some (some o) → ∃ a, ms[k]? = some a ∧ F a = none ∧ ObRep K cl F ms H a o
  inj : ∀ (j k : Nat) (o o' : Ob) (a : Addr), S[j]? = some (some o) → S[k]? = some (some o') → ms[j]? = some a → ms[k]? = some a → j = k
/-- the slots -/
def EnvR (K : PySem.W.Frag) (F : Hp) (ms : List Addr) (σ : St) (ρ : En) : Prop :=
  σ.length = ρ.length ∧ ∀ (i : Nat) (d : D), ρ[i]? = some (some d) → ∃ v, σ[i]? = some (some v) ∧ RepV K F ms d v

section
variable {K : PySem.W.Frag} {cl : Str → Option Addr} {F F' : Hp} {ms ms' : List Addr} {S S' : Store} {H H' : Hp} {σ : St} {ρ : En}
theorem EnvR.mono (x : Ext F F' ms ms') (h : EnvR K F ms σ ρ) : EnvR K F' ms' σ ρ :=
  ⟨h.1, fun i d e => let ⟨v, e1, q⟩ := h.2 i d e; ⟨v, e1, q.mono x⟩⟩
theorem EnvR.set {i : Nat} {d : D} {v : V} (h : EnvR K F ms σ ρ) (q : RepV K F ms d v) : EnvR K F ms (σ.set i (some v)) (ρ.set i (some d)) := by
  refine ⟨by simp [h.1], fun j e hj => ?_⟩
  by_cases hji : i = j
  · subst hji
    by_cases hl : i < ρ.length
    · rw [List.getElem?_set_self hl] at hj
      cases hj
      exact ⟨v, by rw [List.getElem?_set_self (by rw [h.1]; exact hl)], q⟩
    · rw [List.getElem?_eq_none (by simp; omega)] at hj; cases hj
  · rw [List.getElem?_set_ne hji] at hj
    obtain ⟨w, e1, q1⟩ := h.2 j e hj
    exact ⟨w, by rw [List.getElem?_set_ne hji]; exact e1, q1⟩
theorem EnvR.args : ∀ {ds : List D} {vs : List V} (n : Nat), RepL K F ms ds vs → EnvR K F ms (vs.map some ++ List.replicate n none) (ds.map some ++ List.replicate n none) := fun {ds vs} n h => by
  refine ⟨by simp [h.length], fun i d e => ?_⟩
  by_cases hi : i < ds.length
  · rw [List.getElem?_append_left (by simpa using hi), List.getElem?_map] at e
    cases q : ds[i]? with
    | none => rw [q] at e; simp at e
    | some d' =>
      rw [q] at e
      simp at e; subst e
      obtain ⟨v, e1, r⟩ := h.get q
      refine ⟨v, ?_, r⟩
      rw [List.getElem?_append_left (by simp [h.length, hi]), List.getElem?_map, e1]
      rfl
  · rw [List.getElem?_append_right (by simp; omega)] at e
    rw [List.getElem?_replicate] at e
    split at e <;> cases e
theorem ObRep.mono {a : Addr} {o : Ob} (x : Ext F F' ms ms') (e : H' a = H a) (h : ObRep K cl F ms H a o) : ObRep K cl F' ms' H' a o := by
  cases o with
  | lst ds => obtain ⟨vs, h1, h2⟩ := h; exact ⟨vs, e.trans h1, h2.mono x⟩
  | dct kvs => obtain ⟨ks, h1, h2, h3⟩ := h; exact ⟨ks, e.trans h1, h2.mono x, h3.mono x⟩
  | ins C fs => obtain ⟨ca, dx, gs, h0, h1, h2, h3⟩ := h; exact ⟨ca, dx, gs, h0, e.trans h1, h2, h3.mono x⟩
theorem ObRep.there {a : Addr} {o : Ob} (h : ObRep K cl F ms H a o) : ∃ u, H a = some u := by
  cases o with
  | lst ds => obtain ⟨vs, h1, h2⟩ := h; exact ⟨_, h1⟩
  | dct kvs => obtain ⟨ks, h1, h2, h3⟩ := h; exact ⟨_, h1⟩
  | ins C fs => obtain ⟨ca, dx, gs, h0, h1, h2, h3⟩ := h; exact ⟨_, h1⟩
/-- a value laid frozen -/
theorem RelS.freeze {p : Addr} {u : HO} (R : RelS K cl F ms S H) (hp : H p = none) : RelS K cl (upd F p u) ms S (upd H p u) ∧ Ext F (upd F p u) ms ms := by
  have hF : F p = none := R.same.free hp
  have x : Ext F (upd F p u) ms ms := Ext.ofSame (fun b o e => by rw [upd_ne (ne_of_none e hF)]; exact e) ms
  refine ⟨⟨fun b o e => ?_, R.len, fun k o e => ?_, R.inj⟩, x⟩
  · by_cases hb : b = p
    · subst hb; rw [upd_same] at e ⊢; exact e
    · rw [upd_ne hb] at e ⊢; exact R.same _ _ e
  · obtain ⟨a, e1, e2, e3⟩ := R.ob k o e
    obtain ⟨u', hu⟩ := e3.there
    have ne : a ≠ p := ne_of_none hu hp
    exact ⟨a, e1, by rw [upd_ne ne]; exact e2, e3.mono x (upd_ne ne)⟩
/-- an object laid in the store -/
theorem RelS.alloc {p : Addr} {u : HO} {o : Ob} (R : RelS K cl F ms S H) (hp : H p = none) (ho : ObRep K cl F ms (upd H p u) p o) :
    RelS K cl F (ms ++ [p]) (S ++ [some o]) (upd H p u) ∧ Ext F F ms (ms ++ [p]) ∧ (ms ++ [p])[S.length]? = some p := by
  have hF : F p = none := R.same.free hp
  have x : Ext F F ms (ms ++ [p]) := ⟨Same.refl _, fun k a e => by rw [List.getElem?_append_left (List.getElem?_eq_some_iff.mp e).1]; exact e⟩
  have atS : (ms ++ [p])[S.length]? = some p := by rw [← R.len]; simp
  refine ⟨⟨fun b o e => ?_, by simp [R.len], fun k o' e => ?_, fun j k o1 o2 a e1 e2 e3 e4 => ?_⟩, x, atS⟩
  · rw [upd_ne (ne_of_none (R.same _ _ e) hp)]; exact R.same _ _ e
  · by_cases hk : k < S.length
    · rw [List.getElem?_append_left hk] at e
      obtain ⟨a, e1, e2, e3⟩ := R.ob k o' e
      obtain ⟨u', hu⟩ := e3.there
      exact ⟨a, x.pre _ _ e1, e2, e3.mono x (upd_ne (ne_of_none hu hp))⟩
    · have hk2 : k = S.length := by
        have := (List.getElem?_eq_some_iff.mp e).1
        rw [List.length_append, List.length_singleton] at this
        omega
      subst hk2
      have e' : o' = o := by simpa using e.symm
      subst e'
      exact ⟨p, atS, hF, ho.mono x rfl⟩
  · have key : ∀ (k : Nat) (o : Ob) (a : Addr), (S ++ [some o])[k]? = some (some o) → True := fun _ _ _ _ => trivial
    have old : ∀ (k : Nat) (o1 : Ob), k < S.length → (S ++ [some o])[k]? = some (some o1) → ∀ a, (ms ++ [p])[k]? = some a → S[k]? = some (some o1) ∧ ms[k]? = some a ∧ a ≠ p := fun k o1 hk e a ea => by
      rw [List.getElem?_append_left hk] at e
      rw [List.getElem?_append_left (by rw [R.len]; exact hk)] at ea
      obtain ⟨a', e1, e2, e3⟩ := R.ob k o1 e
      rw [ea] at e1; cases e1
      obtain ⟨u', hu⟩ := e3.there
      exact ⟨e, ea, ne_of_none hu hp⟩
    have newp : ∀ (k : Nat) (o1 : Ob), ¬ k < S.length → (S ++ [some o])[k]? = some (some o1) → k = S.length := fun k o1 hk e => by
      have := (List.getElem?_eq_some_iff.mp e).1
      rw [List.length_append, List.length_singleton] at this
      omega
    by_cases hj : j < S.length
    · obtain ⟨q1, q2, q3⟩ := old j o1 hj e1 a e3
      by_cases hk : k < S.length
      · obtain ⟨r1, r2, r3⟩ := old k o2 hk e2 a e4
        exact R.inj j k o1 o2 a q1 r1 q2 r2
      · have := newp k o2 hk e2
        subst this
        rw [atS] at e4; cases e4
        exact absurd rfl q3
    · have hj2 := newp j o1 hj e1
      subst hj2
      by_cases hk : k < S.length
      · obtain ⟨r1, r2, r3⟩ := old k o2 hk e2 a e4
        rw [atS] at e3; cases e3
        exact absurd rfl r3
      · exact (newp k o2 hk e2).symm
/-- an object of the store written -/
theorem RelS.write {k : Nat} {a : Addr} {u : HO} {o o' : Ob} (R : RelS K cl F ms S H) (hk : S[k]? = some (some o)) (ha : ms[k]? = some a) (ho : ObRep K cl F ms (upd H a u) a o') :
    RelS K cl F ms (S.set k (some o')) (upd H a u) := by
  obtain ⟨a', e1, e2, e3⟩ := R.ob k o hk
  rw [ha] at e1; cases e1
  have hkl : k < S.length := (List.getElem?_eq_some_iff.mp hk).1
  have back : ∀ (j : Nat) (o1 : Ob), (S.set k (some o'))[j]? = some (some o1) → ∃ o2, S[j]? = some (some o2) := fun j o1 e => by
    by_cases hj : k = j
    · subst hj; exact ⟨o, hk⟩
    · rw [List.getElem?_set_ne hj] at e; exact ⟨o1, e⟩
  refine ⟨fun b x e => ?_, by simp [R.len], fun j o1 e => ?_, fun i j o1 o2 b q1 q2 q3 q4 => ?_⟩
  · have nb : b ≠ a := fun z => by subst z; rw [e2] at e; cases e
    rw [upd_ne nb]; exact R.same _ _ e
  · by_cases hj : k = j
    · subst hj
      rw [List.getElem?_set_self hkl] at e
      cases e
      exact ⟨a, ha, e2, ho⟩
    · rw [List.getElem?_set_ne hj] at e
      obtain ⟨b, b1, b2, b3⟩ := R.ob j o1 e
      have nb : b ≠ a := fun z => by subst z; exact hj (R.inj k j o o1 b hk e ha b1)
      exact ⟨b, b1, b2, b3.mono (Ext.refl _ _) (upd_ne nb)⟩
  · obtain ⟨p1, h1⟩ := back i o1 q1
    obtain ⟨p2, h2⟩ := back j o2 q2
    exact R.inj i j p1 p2 b h1 h2 q3 q4
/-- a list of the store becomes frozen -/
theorem RelS.toFrozen {k : Nat} {a : Addr} {u : HO} {o : Ob} (R : RelS K cl F ms S H) (hk : S[k]? = some (some o)) (ha : ms[k]? = some a) (hu : H a = some u) :
    RelS K cl (upd F a u) ms (S.set k none) H ∧ Ext F (upd F a u) ms ms := by
  obtain ⟨a', e1, e2, e3⟩ := R.ob k o hk
  rw [ha] at e1; cases e1
  have hkl : k < S.length := (List.getElem?_eq_some_iff.mp hk).1
  have x : Ext F (upd F a u) ms ms := Ext.ofSame (fun b o e => by rw [upd_ne (ne_of_none e e2)]; exact e) ms
  refine ⟨⟨fun b o e => ?_, by simp [R.len], fun j o1 e => ?_, fun i j o1 o2 b q1 q2 q3 q4 => ?_⟩, x⟩
  · by_cases hb : b = a
    · subst hb; rw [upd_same] at e; rw [hu]; exact e
    · rw [upd_ne hb] at e; exact R.same _ _ e
  · have hj : k ≠ j := fun z => by subst z; rw [List.getElem?_set_self hkl] at e; cases e
    rw [List.getElem?_set_ne hj] at e
    obtain ⟨b, b1, b2, b3⟩ := R.ob j o1 e
    have nb : b ≠ a := fun z => by subst z; exact hj (R.inj k j o o1 b hk e ha b1)
    exact ⟨b, b1, by rw [upd_ne nb]; exact b2, b3.mono x rfl⟩
  · have nj : ∀ (j : Nat) (o1 : Ob), (S.set k none)[j]? = some (some o1) → S[j]? = some (some o1) := fun j o1 e => by
      by_cases hj : k = j
      · subst hj; rw [List.getElem?_set_self hkl] at e; cases e
      · rw [List.getElem?_set_ne hj] at e; exact e
    exact R.inj i j o1 o2 b (nj i o1 q1) (nj j o2 q2) q3 q4
end
end Ev

namespace Ev
open PySem PySem.Spec L2

/-! ## results and what is wanted of them -/
def Res.bind {α β : Type} (r : Res α) (f : α → Store → Res β) : Res β :=
  match r with
  | .ok a S => f a S
  | .exc c S => .exc c S
  | .stuck => .stuck
inductive RS where
  | nx (ρ : En) (S : Store) | rt (d : D) (S : Store) | bk (ρ : En) (S : Store) | ct (ρ : En) (S : Store) | xc (c : Str) (ρ : En) (S : Store) | stuck
abbrev Ev (α : Type) := En → Store → Res α
abbrev EvE := Ev D
abbrev EvS := En → Store → RS
abbrev EvF := List D → Store → Res D
def evBind {α β : Type} (e : Ev α) (f : α → Ev β) : Ev β := fun ρ S => (e ρ S).bind fun a S' => f a ρ S'

section
variable (K : PySem.W.Frag) (cl : Str → Option Addr)
def Kont {α β : Type} (Rp : Hp → List Addr → α → β → Prop) (F : Hp) (ms : List Addr) (r : Res α) (Q : β → Hp → Prop) (W : XK) : Prop :=
  match r with
  | .ok d S' => ∀ (F' : Hp) (ms' : List Addr) (v : β) (H' : Hp), Ext F F' ms ms' → RelS K cl F' ms' S' H' → Rp F' ms' d v → Q v H'
  | .exc c S' => ∀ (F' : Hp) (ms' : List Addr) (H' : Hp), Ext F F' ms ms' → RelS K cl F' ms' S' H' → ∃ C, cl c = some C ∧ W (.ref C) none H'
  | .stuck => False
def KontS (F : Hp) (ms : List Addr) (r : RS) (D : Ends) (W : St → XK) : Prop :=
  match r with
  | .nx ρ' S' => ∀ (F' : Hp) (ms' : List Addr) (σ' : St) (H' : Hp), Ext F F' ms ms' → RelS K cl F' ms' S' H' → EnvR K F' ms' σ' ρ' → D.nx σ' H'
  | .rt d S' => ∀ (F' : Hp) (ms' : List Addr) (v : V) (H' : Hp), Ext F F' ms ms' → RelS K cl F' ms' S' H' → RepV K F' ms' d v → D.rt v H'
  | .bk ρ' S' => ∀ (F' : Hp) (ms' : List Addr) (σ' : St) (H' : Hp), Ext F F' ms ms' → RelS K cl F' ms' S' H' → EnvR K F' ms' σ' ρ' → D.bk σ' H'
  | .ct ρ' S' => ∀ (F' : Hp) (ms' : List Addr) (σ' : St) (H' : Hp), Ext F F' ms ms' → RelS K cl F' ms' S' H' → EnvR K F' ms' σ' ρ' → D.ct σ' H'
  | .xc c ρ' S' => ∀ (F' : Hp) (ms' : List Addr) (σ' : St) (H' : Hp), Ext F F' ms ms' → RelS K cl F' ms' S' H' → EnvR K F' ms' σ' ρ' → ∃ C, cl c = some C ∧ W σ' (.ref C) none H'
  | .stuck => False
def tG {α β : Type} (Rp : Hp → List Addr → α → β → Prop) (W : St → XK) (e : Ev α) : St → Hp → (β → Hp → Prop) → Prop := fun σ H Q =>
  ∃ F ms ρ S, RelS K cl F ms S H ∧ EnvR K F ms σ ρ ∧ Kont K cl Rp F ms (e ρ S) Q (W σ)
abbrev tE (W : St → XK) (e : EvE) : TE := tG K cl (fun F ms d v => RepV K F ms d v) W e
abbrev tA (W : St → XK) (e : Ev (List D)) : TA := tG K cl (fun F ms d v => RepL K F ms d v) W e
abbrev tT (W : St → XK) (e : Ev Bool) : TT := tG K cl (fun _ _ d v => v = d) W e
def tSt (W : St → XK) (e : EvS) : TS := fun D σ H => ∃ F ms ρ S, RelS K cl F ms S H ∧ EnvR K F ms σ ρ ∧ KontS K cl F ms (e ρ S) D W
end
section
variable {K : PySem.W.Frag} {cl : Str → Option Addr} {F F' : Hp} {ms ms' : List Addr} {S S' : Store} {H H' : Hp} {σ : St} {ρ : En}
theorem Kont.wk {α β : Type} {Rp : Hp → List Addr → α → β → Prop} {r : Res α} {Q : β → Hp → Prop} {W : XK} (x : Ext F F' ms ms') (k : Kont K cl Rp F ms r Q W) : Kont K cl Rp F' ms' r Q W := by
  cases r with
  | ok d S' => exact fun F2 m2 v H2 y R q => k F2 m2 v H2 (x.trans y) R q
  | exc c S' => exact fun F2 m2 H2 y R => k F2 m2 H2 (x.trans y) R
  | stuck => exact k
theorem KontS.wk {r : RS} {D : Ends} {W : St → XK} (x : Ext F F' ms ms') (k : KontS K cl F ms r D W) : KontS K cl F' ms' r D W := by
  cases r with
  | rt d S' => exact fun F2 m2 v H2 y R q => k F2 m2 v H2 (x.trans y) R q
  | stuck => exact k
  | nx ρ' S' => exact fun F2 m2 v H2 y R q => k F2 m2 v H2 (x.trans y) R q
  | bk ρ' S' => exact fun F2 m2 v H2 y R q => k F2 m2 v H2 (x.trans y) R q
  | ct ρ' S' => exact fun F2 m2 v H2 y R q => k F2 m2 v H2 (x.trans y) R q
  | xc c ρ' S' => exact fun F2 m2 v H2 y R q => k F2 m2 v H2 (x.trans y) R q
/-- the first part of two -/
theorem kbind {α β α' β' : Type} {Rp : Hp → List Addr → α → β → Prop} {Rp' : Hp → List Addr → α' → β' → Prop} {W : St → XK} {e : Ev α} {f : α → Ev α'} {Q : β' → Hp → Prop}
    (R : RelS K cl F ms S H) (E : EnvR K F ms σ ρ) (k : Kont K cl Rp' F ms (evBind e f ρ S) Q (W σ)) :
    tG K cl Rp W e σ H fun x H1 => ∃ F1 m1 a S1, Ext F F1 ms m1 ∧ RelS K cl F1 m1 S1 H1 ∧ EnvR K F1 m1 σ ρ ∧ Rp F1 m1 a x ∧ Kont K cl Rp' F1 m1 (f a ρ S1) Q (W σ) ∧ e ρ S = .ok a S1 := by
  refine ⟨F, ms, ρ, S, R, E, ?_⟩
  unfold evBind at k
  cases q : e ρ S with
  | ok a S1 =>
    rw [q] at k
    exact fun F' ms' v H' x R' rp => ⟨F', ms', a, S1, x, R', E.mono x, rp, k.wk x, rfl⟩
  | exc c S1 =>
    rw [q] at k
    exact k
  | stuck =>
    rw [q] at k
    exact k
theorem tG_mono {α β : Type} {Rp : Hp → List Addr → α → β → Prop} {W : St → XK} {e : Ev α} {Q Q' : β → Hp → Prop} (h : tG K cl Rp W e σ H Q) (w : ∀ x H, Q x H → Q' x H) : tG K cl Rp W e σ H Q' := by
  obtain ⟨F, ms, ρ, S, R, E, k⟩ := h
  refine ⟨F, ms, ρ, S, R, E, ?_⟩
  revert k
  cases e ρ S with
  | ok a S1 => exact fun k F' ms' v H' x R' rp => w _ _ (k F' ms' v H' x R' rp)
  | exc c S1 => exact fun k => k
  | stuck => exact fun k => k
end
theorem PE_wk {X : Cx} {e : Expr} {t t' : TE} (h : PE X e t) (w : ∀ σ H Q, t' σ H Q → t σ H Q) : PE X e t' := ⟨fun pins s σ H Q I q => h.run pins s σ H Q I (w _ _ _ q)⟩
theorem PT_wk {X : Cx} {e : Expr} {t t' : TT} (h : PT X e t) (w : ∀ σ H Q, t' σ H Q → t σ H Q) : PT X e t' := ⟨fun pins s σ H Q I q => h.run pins s σ H Q I (w _ _ _ q)⟩
theorem PW_wk {X : Cx} {e : Expr} {t t' : TT} (h : PW X e t) (w : ∀ σ H Q, t' σ H Q → t σ H Q) : PW X e t' := ⟨fun wh pins s σ H Q I q => h.run wh pins s σ H Q I (w _ _ _ q)⟩
theorem PA_wk {X : Cx} {e : List Expr} {t t' : TA} (h : PA X e t) (w : ∀ σ H Q, t' σ H Q → t σ H Q) : PA X e t' := ⟨fun ps pins s σ H Q I q => h.run ps pins s σ H Q I (w _ _ _ q)⟩
theorem PS_wk {X : Cx} {e : Stmt} {t t' : TS} (h : PS X e t) (w : ∀ D σ H, t' D σ H → t D σ H) : PS X e t' := ⟨fun pins s σ H Q I q => h.run pins s σ H Q I (w _ _ _ q)⟩
theorem PSs_wk {X : Cx} {e : List Stmt} {t t' : TS} (h : PSs X e t) (w : ∀ D σ H, t' D σ H → t D σ H) : PSs X e t' := ⟨fun pins s σ H Q I q => h.run pins s σ H Q I (w _ _ _ q)⟩

/-! ## names, constants -/
section
variable {X : Cx} {cl : Str → Option Addr} {W : St → XK}
abbrev EE (X : Cx) (cl : Str → Option Addr) (W : St → XK) (e : Expr) (ev : EvE) : Prop := PE X e (tE X.K cl W ev)
abbrev EA (X : Cx) (cl : Str → Option Addr) (W : St → XK) (e : List Expr) (ev : Ev (List D)) : Prop := PA X e (tA X.K cl W ev)
abbrev ET (X : Cx) (cl : Str → Option Addr) (W : St → XK) (e : Expr) (ev : Ev Bool) : Prop := PT X e (tT X.K cl W ev)
abbrev EW (X : Cx) (cl : Str → Option Addr) (W : St → XK) (e : Expr) (ev : Ev Bool) : Prop := PW X e (tT X.K cl W ev)
abbrev ES (X : Cx) (cl : Str → Option Addr) (W : St → XK) (e : Stmt) (ev : EvS) : Prop := PS X e (tSt X.K cl W ev)
abbrev ESs (X : Cx) (cl : Str → Option Addr) (W : St → XK) (e : List Stmt) (ev : EvS) : Prop := PSs X e (tSt X.K cl W ev)

def evVar (i : Nat) : EvE := fun ρ S => match ρ[i]? with
  | some (some d) => .ok d S
  | _ => .stuck
def evC (d : D) : EvE := fun _ S => .ok d S
theorem e_var (i : Nat) {x : Str} {pos : Pos} (hN : X.N[i]? = some x := by rfl) (hv : Vis X.env.scope x := by first | exact Or.inl rfl | exact Or.inr (Or.inl rfl) | exact Or.inr (Or.inr rfl)) (hd : (x == ("__debug__" : Str)) = false := by decide)
    (hcd : (x == ("__classdict__" : Str)) = false := by decide) : EE X cl W (.Name x pos) (evVar i) := by
  refine PE_wk (pe_var hN hv hd hcd) fun σ H Q h => ?_
  obtain ⟨F, ms, ρ, S, R, E, k⟩ := h
  unfold evVar at k
  split at k
  · rename_i d e
    obtain ⟨v, e1, q⟩ := E.2 i d e
    exact ⟨v, e1, k F ms v H (Ext.refl _ _) R q⟩
  · exact k.elim
theorem e_c {e : Expr} {v : V} {d : D} (h : PE X e (tC v)) (hr : ∀ F ms, RepV X.K F ms d v) : EE X cl W e (evC d) := by
  refine PE_wk h fun σ H Q h => ?_
  obtain ⟨F, ms, ρ, S, R, E, k⟩ := h
  exact k F ms v H (Ext.refl _ _) R (hr F ms)
theorem e_int {i : Int} {j : Nat} {pos : Pos} : EE X cl W (.Constant (.int i) j pos) (evC (.int i)) := e_c pe_int fun _ _ => by simp only [RepV]
theorem e_str {i : Str} {j : Nat} {pos : Pos} : EE X cl W (.Constant (.str i) j pos) (evC (.str i)) := e_c pe_str fun _ _ => by simp only [RepV]
theorem e_bl {i : Bool} {j : Nat} {pos : Pos} : EE X cl W (.Constant (.bool i) j pos) (evC (.bl i)) := e_c pe_bl fun _ _ => by simp only [RepV]
theorem e_non {j : Nat} {pos : Pos} : EE X cl W (.Constant .none j pos) (evC .non) := e_c pe_non fun _ _ => by simp only [RepV]

/-! ## operators -/
def evBin (f : D → D → Store → Res D) (a b : EvE) : EvE := evBind a fun x => evBind b fun y _ S => f x y S
def evUn (f : D → Store → Res D) (a : EvE) : EvE := evBind a fun x _ S => f x S
def OpOk (K : PySem.W.Frag) (cl : Str → Option Addr) (r : R2) (f : D → D → Store → Res D) : Prop :=
  ∀ (F : Hp) (ms : List Addr) (S : Store) (H : Hp) (x y : V) (d e : D) (Q : VK) (W' : XK), RelS K cl F ms S H → RepV K F ms d x → RepV K F ms e y →
    Kont K cl (fun F ms d v => RepV K F ms d v) F ms (f d e S) Q W' → (f d e S = .stuck → False) → r x y H Q
theorem Kont.nst {K : PySem.W.Frag} {α β : Type} {Rp : Hp → List Addr → α → β → Prop} {F : Hp} {ms : List Addr} {r : Res α} {Q : β → Hp → Prop} {W' : XK} (k : Kont K cl Rp F ms r Q W') : r = .stuck → False := fun e => by
  subst e; exact k
theorem e_bin {a b : Expr} {ea eb : EvE} {r : R2} {f : D → D → Store → Res D} {e : Expr} (h : ∀ {ta tb : TE}, PE X a ta → PE X b tb → PE X e (tOp r ta tb)) (hf : OpOk X.K cl r f) (ha : EE X cl W a ea) (hb : EE X cl W b eb) : EE X cl W e (evBin f ea eb) := by
  refine PE_wk (h ha hb) fun σ H Q hq => ?_
  obtain ⟨F, ms, ρ, S, R, E, k⟩ := hq
  refine tG_mono (kbind R E k) fun x H1 ⟨F1, m1, d1, S1, x1, R1, E1, r1, k1, _⟩ => ?_
  refine tG_mono (kbind R1 E1 k1) fun y H2 ⟨F2, m2, d2, S2, x2, R2, E2, r2, k2, _⟩ => ?_
  exact hf F2 m2 S2 H2 x y d1 d2 Q (W σ) R2 (r1.mono x2) r2 k2 k2.nst
end
end Ev

namespace Ev
open PySem PySem.Spec L2

/-! ## which references stand in a datum -/
mutual
def refsB (n : Nat) : D → Bool
  | .ref k => decide (k < n)
  | .tup ds => refsL n ds
  | .lst ds => refsL n ds
  | .non => true
  | .bl _ => true
  | .int _ => true
  | .str _ => true
  | .scr _ => true
def refsL (n : Nat) : List D → Bool
  | [] => true
  | d :: ds => refsB n d && refsL n ds
end
def refsO (n : Nat) : Option Ob → Bool
  | some (.lst ds) => refsL n ds
  | some (.dct kvs) => refsL n (kvs.map (·.1)) && refsL n (kvs.map (·.2))
  | some (.ins _ fs) => refsL n (fs.map (·.2))
  | none => true
section
variable {K : PySem.W.Frag} {cl : Str → Option Addr} {F F' : Hp} {ms ms' : List Addr} {S S' : Store} {H H' : Hp} {σ : L2.St} {ρ : En}
mutual
theorem RepV.refs : ∀ {d : D} {v : V}, RepV K F ms d v → refsB ms.length d = true
  | .non, _, _ => by simp only [refsB]
  | .bl _, _, _ => by simp only [refsB]
  | .int _, _, _ => by simp only [refsB]
  | .str _, _, _ => by simp only [refsB]
  | .scr _, _, _ => by simp only [refsB]
  | .tup ds, _, h => by
    simp only [RepV] at h
    obtain ⟨a, vs, e, q, r⟩ := h
    simp only [refsB]; exact RepL.refs r
  | .lst ds, _, h => by
    simp only [RepV] at h
    obtain ⟨a, vs, e, q, r⟩ := h
    simp only [refsB]; exact RepL.refs r
  | .ref k, _, h => by
    simp only [RepV] at h
    obtain ⟨a, e, q⟩ := h
    simp only [refsB]; exact decide_eq_true (List.getElem?_eq_some_iff.mp e).1
theorem RepL.refs : ∀ {ds : List D} {vs : List V}, RepL K F ms ds vs → refsL ms.length ds = true
  | [], _, h => by simp only [refsL]
  | d :: ds, _, h => by
    simp only [RepL] at h
    obtain ⟨v, r, e, q, t⟩ := h
    simp only [refsL, RepV.refs q, RepL.refs t, Bool.and_self]
end
mutual
theorem RepV.narrow (pre : ∀ (k : Nat) (a : Addr), ms[k]? = some a → ms'[k]? = some a) : ∀ {d : D} {v : V}, RepV K F ms' d v → refsB ms.length d = true → RepV K F ms d v
  | .non, _, h, _ => by simp only [RepV] at h ⊢; exact h
  | .bl _, _, h, _ => by simp only [RepV] at h ⊢; exact h
  | .int _, _, h, _ => by simp only [RepV] at h ⊢; exact h
  | .str _, _, h, _ => by simp only [RepV] at h ⊢; exact h
  | .scr _, _, h, _ => by simp only [RepV] at h ⊢; exact h
  | .tup ds, _, h, b => by
    simp only [RepV] at h ⊢
    simp only [refsB] at b
    obtain ⟨a, vs, e, q, r⟩ := h
    exact ⟨a, vs, e, q, RepL.narrow pre r b⟩
  | .lst ds, _, h, b => by
    simp only [RepV] at h ⊢
    simp only [refsB] at b
    obtain ⟨a, vs, e, q, r⟩ := h
    exact ⟨a, vs, e, q, RepL.narrow pre r b⟩
  | .ref k, _, h, b => by
    simp only [RepV] at h ⊢
    simp only [refsB] at b
    obtain ⟨a, e, q⟩ := h
    have hk : k < ms.length := of_decide_eq_true b
    have e2 := pre k _ (List.getElem?_eq_getElem hk)
    rw [e] at e2; cases e2
    exact ⟨_, List.getElem?_eq_getElem hk, q⟩
theorem RepL.narrow (pre : ∀ (k : Nat) (a : Addr), ms[k]? = some a → ms'[k]? = some a) : ∀ {ds : List D} {vs : List V}, RepL K F ms' ds vs → refsL ms.length ds = true → RepL K F ms ds vs
  | [], _, h, _ => by simp only [RepL] at h ⊢; exact h
  | d :: ds, _, h, b => by
    simp only [RepL] at h
    simp only [refsL, Bool.and_eq_true] at b
    obtain ⟨v, r, rfl, q, t⟩ := h
    exact RepL.cons (RepV.narrow pre q b.1) (RepL.narrow pre t b.2)
end
theorem ObRep.refs {a : Addr} {o : Ob} (h : ObRep K cl F ms H a o) : refsO ms.length (some o) = true := by
  cases o with
  | lst ds => obtain ⟨vs, h1, h2⟩ := h; exact h2.refs
  | dct kvs => obtain ⟨ks, h1, h2, h3⟩ := h; simp only [refsO, h2.refs, h3.refs, Bool.and_self]
  | ins C fs => obtain ⟨ca, dx, gs, h0, h1, h2, h3⟩ := h; exact h3.refs
theorem ObRep.narrow {a : Addr} {o : Ob} (pre : ∀ (k : Nat) (a : Addr), ms[k]? = some a → ms'[k]? = some a) (h : ObRep K cl F ms' H a o) (b : refsO ms.length (some o) = true) : ObRep K cl F ms H a o := by
  cases o with
  | lst ds => obtain ⟨vs, h1, h2⟩ := h; exact ⟨vs, h1, h2.narrow pre b⟩
  | dct kvs =>
    obtain ⟨ks, h1, h2, h3⟩ := h
    simp only [refsO, Bool.and_eq_true] at b
    exact ⟨ks, h1, h2.narrow pre b.1, h3.narrow pre b.2⟩
  | ins C fs => obtain ⟨ca, dx, gs, h0, h1, h2, h3⟩ := h; exact ⟨ca, dx, gs, h0, h1, h2, h3.narrow pre b⟩
theorem RelS.trunc (R : RelS K cl F ms S H) (R' : RelS K cl F' ms' S' H') (x : Ext F F' ms ms') (b : ∀ o ∈ S'.take S.length, refsO S.length o = true) :
    RelS K cl F' ms (S'.take S.length) H' := by
  have hl : S.length ≤ S'.length := by
    rcases Nat.eq_zero_or_pos S.length with h0 | h0
    · omega
    · have e1 : ms[S.length - 1]? = some (ms[S.length - 1]'(by rw [R.len]; omega)) := List.getElem?_eq_getElem _
      have e2 := (List.getElem?_eq_some_iff.mp (x.pre _ _ e1)).1
      rw [R'.len] at e2
      omega
  have up : ∀ (k : Nat) (o : Ob), (S'.take S.length)[k]? = some (some o) → k < S.length ∧ S'[k]? = some (some o) := fun k o e => by
    have h1 := (List.getElem?_eq_some_iff.mp e).1
    rw [List.length_take] at h1
    have hk : k < S.length := by omega
    rw [List.getElem?_take_of_lt hk] at e
    exact ⟨hk, e⟩
  refine ⟨R'.same, by rw [R.len, List.length_take]; omega, fun k o e => ?_, fun i j o1 o2 a e1 e2 e3 e4 => ?_⟩
  · obtain ⟨hk, e'⟩ := up k o e
    obtain ⟨a, a1, a2, a3⟩ := R'.ob k o e'
    have hkm : k < ms.length := by rw [R.len]; exact hk
    have e2 := x.pre k _ (List.getElem?_eq_getElem hkm)
    rw [a1] at e2; cases e2
    refine ⟨_, List.getElem?_eq_getElem hkm, a2, a3.narrow x.pre ?_⟩
    rw [R.len]
    exact b _ (List.mem_of_getElem? e)
  · obtain ⟨_, q1⟩ := up i o1 e1
    obtain ⟨_, q2⟩ := up j o2 e2
    exact R'.inj i j o1 o2 a q1 q2 (x.pre _ _ e3) (x.pre _ _ e4)
theorem RelS.refs (R : RelS K cl F ms S H) : ∀ o ∈ S, refsO S.length o = true := fun o ho => by
  cases o with
  | none => rfl
  | some o =>
    obtain ⟨k, hk, e⟩ := List.mem_iff_getElem.mp ho
    obtain ⟨a, a1, a2, a3⟩ := R.ob k o (by rw [List.getElem?_eq_getElem hk, e])
    have := a3.refs
    rw [R.len] at this
    exact this
end

/-! ## a def's run -/
open Classical in
noncomputable def fin (S S' : Store) (d : D) : Res D :=
  if S'.take S.length = S ∧ refsB S.length d = true then .ok d S
  else if (∀ o ∈ S'.take S.length, refsO S.length o = true) ∧ refsB S.length d = true then .ok d (S'.take S.length) else .stuck
open Classical in
noncomputable def finX (S S' : Store) (c : Str) : Res D :=
  if S'.take S.length = S then .exc c S
  else if (∀ o ∈ S'.take S.length, refsO S.length o = true) then .exc c (S'.take S.length) else .stuck
noncomputable def runDef (m : Nat) (body : EvS) : EvF := fun ds S =>
  match body (ds.map some ++ List.replicate m none) S with
  | .nx _ S' => fin S S' .non
  | .rt d S' => fin S S' d
  | .xc c _ S' => finX S S' c
  | _ => .stuck
/-- .. what it made stays -/
def runKeep (m : Nat) (body : EvS) : EvF := fun ds S =>
  match body (ds.map some ++ List.replicate m none) S with
  | .nx _ S' => .ok .non S'
  | .rt d S' => .ok d S'
  | .xc c _ S' => .exc c S'
  | _ => .stuck
def spE (K : PySem.W.Frag) (cl : Str → Option Addr) (n : Nat) (ev : EvF) : Sp := fun vs H Q E => ∃ F ms ds S, ds.length = n ∧ RelS K cl F ms S H ∧ RepL K F ms ds vs ∧ Kont K cl (fun F ms d v => RepV K F ms d v) F ms (ev ds S) Q E
theorem spE_len {K : PySem.W.Frag} {cl : Str → Option Addr} {n : Nat} {ev : EvF} : ∀ vs H Q E, spE K cl n ev vs H Q E → vs.length = n := fun vs H Q E ⟨F, ms, ds, S, hn, R, r, k⟩ => by rw [r.length, hn]
section
variable {K : PySem.W.Frag} {cl : Str → Option Addr} {F F' : Hp} {ms ms' : List Addr} {S S' : Store} {H H' : Hp} {σ : L2.St} {ρ : En}
theorem fin_ok {d : D} {Q : VK} {E : XK} (R : RelS K cl F ms S H) (k : Kont K cl (fun F ms d v => RepV K F ms d v) F ms (fin S S' d) Q E) :
    ∀ (F' : Hp) (ms' : List Addr) (v : V) (H' : Hp), Ext F F' ms ms' → RelS K cl F' ms' S' H' → RepV K F' ms' d v → Q v H' := fun F' ms' v H' x R' r => by
  unfold fin at k
  split at k
  · rename_i h
    have T := R.trunc R' x (by rw [h.1]; exact R.refs)
    rw [h.1] at T
    exact k F' ms v H' (Ext.ofSame x.same ms) T (r.narrow x.pre (by rw [R.len]; exact h.2))
  · split at k
    · rename_i h
      have T := R.trunc R' x h.1
      exact k F' ms v H' (Ext.ofSame x.same ms) T (r.narrow x.pre (by rw [R.len]; exact h.2))
    · exact k.elim
theorem finX_ok {c : Str} {Q : VK} {E : XK} (R : RelS K cl F ms S H) (k : Kont K cl (fun F ms d v => RepV K F ms d v) F ms (finX S S' c) Q E) :
    ∀ (F' : Hp) (ms' : List Addr) (H' : Hp), Ext F F' ms ms' → RelS K cl F' ms' S' H' → ∃ C, cl c = some C ∧ E (.ref C) none H' := fun F' ms' H' x R' => by
  unfold finX at k
  split at k
  · rename_i h
    have T := R.trunc R' x (by rw [h]; exact R.refs)
    rw [h] at T
    exact k F' ms H' (Ext.ofSame x.same ms) T
  · split at k
    · rename_i h
      have T := R.trunc R' x h
      exact k F' ms H' (Ext.ofSame x.same ms) T
    · exact k.elim
theorem run_body {m : Nat} {body : EvS} {ds : List D} {vs : List V} {N : List Str} {Q : VK} {E : XK} (R : RelS K cl F ms S H) (r : RepL K F ms ds vs) (hN : N.length = ds.length + m)
    (k : Kont K cl (fun F ms d v => RepV K F ms d v) F ms (runDef m body ds S) Q E) : tSt K cl (fun _ => E) body { nx := fun _ H' => Q .non H', rt := Q } (L2.start N vs) H := by
  have e : L2.start N vs = vs.map some ++ List.replicate m none := by
    unfold L2.start
    rw [r.length]
    congr 2
    omega
  rw [e]
  refine ⟨F, ms, _, S, R, EnvR.args m r, ?_⟩
  unfold runDef at k
  revert k
  cases body (ds.map some ++ List.replicate m none) S with
  | nx ρ' S' => exact fun k F' ms' σ' H' x R' E' => fin_ok R k F' ms' .non H' x R' (by simp only [RepV])
  | rt d S' => exact fun k F' ms' v H' x R' r' => fin_ok R k F' ms' v H' x R' r'
  | xc c ρ' S' => exact fun k F' ms' σ' H' x R' E' => finX_ok R k F' ms' H' x R'
  | bk ρ' S' => exact fun k => k.elim
  | ct ρ' S' => exact fun k => k.elim
  | stuck => exact fun k => k
theorem run_bodyK {m : Nat} {body : EvS} {ds : List D} {vs : List V} {N : List Str} {Q : VK} {E : XK} (R : RelS K cl F ms S H) (r : RepL K F ms ds vs) (hN : N.length = ds.length + m)
    (k : Kont K cl (fun F ms d v => RepV K F ms d v) F ms (runKeep m body ds S) Q E) : tSt K cl (fun _ => E) body { nx := fun _ H' => Q .non H', rt := Q } (L2.start N vs) H := by
  have e : L2.start N vs = vs.map some ++ List.replicate m none := by
    unfold L2.start
    rw [r.length]
    congr 2
    omega
  rw [e]
  refine ⟨F, ms, _, S, R, EnvR.args m r, ?_⟩
  unfold runKeep at k
  revert k
  cases body (ds.map some ++ List.replicate m none) S with
  | nx ρ' S' => exact fun k F' ms' σ' H' x R' E' => k F' ms' .non H' x R' (by simp only [RepV])
  | rt d S' => exact fun k F' ms' v H' x R' r' => k F' ms' v H' x R' r'
  | xc c ρ' S' => exact fun k F' ms' σ' H' x R' E' => k F' ms' H' x R'
  | bk ρ' S' => exact fun k => k.elim
  | ct ρ' S' => exact fun k => k.elim
  | stuck => exact fun k => k
end
section
variable {P : Program} {w : World} {K : PySem.W.Frag} {mg : Str → Option Value} {base : Heap} {cl : Str → Option Addr}
/-- a def from which no exception comes -/
theorem fn0 {x qual : Str} {st : Stmt} {f : Addr} {fd : FuncData} {N ps : List Str} {k m : Nat} {body : EvS} (Fn : Fun K x qual st f fd) (S : FnScope N ps (defScope st)) (hN : N.length = ps.length + m)
    (h : ∀ (cdv : Value) (A : Around) (outer : List Env) (s : Shared) (H : Hp) (E : XK), Room k (A.deeper (PyProof.Rows.envOfC qual (defScope st) s.heap.objs.size f cdv)) →
      ESs (cxOf CX0 P w K mg base N qual (defScope st) f cdv A outer s H E).nox cl (fun _ => E0) (defBody st) body) :
    FnOk P w K mg base CX0 (k + 1) f fd ps (fun vs H Q E => spE K cl ps.length (runDef m body) vs H Q E0) := by
  refine Fn.ok S (fun vs H Q E hs => spE_len vs H Q E0 hs) fun cdv A outer s H vs Q E hr hs => ?_
  obtain ⟨F, ms, ds, S0, hl, R, r, kk⟩ := hs
  exact ⟨_, h cdv A outer s H E hr, run_body R r (by rw [hN, hl]) kk⟩
theorem fn0K {x qual : Str} {st : Stmt} {f : Addr} {fd : FuncData} {N ps : List Str} {k m : Nat} {body : EvS} (Fn : Fun K x qual st f fd) (S : FnScope N ps (defScope st)) (hN : N.length = ps.length + m)
    (h : ∀ (cdv : Value) (A : Around) (outer : List Env) (s : Shared) (H : Hp) (E : XK), Room k (A.deeper (PyProof.Rows.envOfC qual (defScope st) s.heap.objs.size f cdv)) →
      ESs (cxOf CX0 P w K mg base N qual (defScope st) f cdv A outer s H E).nox cl (fun _ => E0) (defBody st) body) :
    FnOk P w K mg base CX0 (k + 1) f fd ps (fun vs H Q E => spE K cl ps.length (runKeep m body) vs H Q E0) := by
  refine Fn.ok S (fun vs H Q E hs => spE_len vs H Q E0 hs) fun cdv A outer s H vs Q E hr hs => ?_
  obtain ⟨F, ms, ds, S0, hl, R, r, kk⟩ := hs
  exact ⟨_, h cdv A outer s H E hr, run_bodyK R r (by rw [hN, hl]) kk⟩
end
end Ev

namespace Ev
open PySem PySem.Spec L2

/-! ## lists of the store or frozen -/
def lstOf (S : Store) : D → Option (List D)
  | .lst xs => some xs
  | .ref k => match S[k]? with
    | some (some (.lst xs)) => some xs
    | _ => none
  | _ => none
section
variable {K : PySem.W.Frag} {cl : Str → Option Addr} {F F' : Hp} {ms ms' : List Addr} {S S' : Store} {H H' : Hp} {σ : L2.St} {ρ : En}
theorem RepV.up (R : RelS K cl F ms S H) {d : D} {v : V} (r : RepV K F ms d v) : RepV K H ms d v := r.mono (Ext.ofSame R.same ms)
theorem RepL.up (R : RelS K cl F ms S H) {d : List D} {v : List V} (r : RepL K F ms d v) : RepL K H ms d v := r.mono (Ext.ofSame R.same ms)
theorem lstOf_rep (R : RelS K cl F ms S H) {d : D} {v : V} {xs : List D} (r : RepV K F ms d v) (e : lstOf S d = some xs) : ∃ a vs, v = .ref a ∧ H a = some (.lst vs) ∧ RepL K F ms xs vs := by
  cases d with
  | lst ys =>
    simp only [lstOf, Option.some.injEq] at e
    subst e
    simp only [RepV] at r
    obtain ⟨a, vs, e, q, r⟩ := r
    exact ⟨a, vs, e, R.same _ _ q, r⟩
  | ref k =>
    simp only [lstOf] at e
    split at e
    · rename_i ys hs
      cases e
      simp only [RepV] at r
      obtain ⟨a, ea, ev⟩ := r
      obtain ⟨a', a1, a2, vs, a3, a4⟩ := R.ob k _ hs
      rw [ea] at a1; cases a1
      exact ⟨a, vs, ev, a3, a4⟩
    · cases e
  | _ => simp only [lstOf] at e; cases e
theorem frzL {vs : List V} {ds : List D} {Q : VK} {W' : XK} (R : RelS K cl F ms S H) (r : RepL K F ms ds vs) (k : Kont K cl (fun F ms d v => RepV K F ms d v) F ms (.ok (.lst ds) S) Q W') :
    ∀ p, H p = none → Q (.ref p) (upd H p (.lst vs)) := fun p hp => by
  obtain ⟨R', x⟩ := R.freeze (u := .lst vs) hp
  refine k _ ms (.ref p) _ x R' ?_
  simp only [RepV]
  exact ⟨p, vs, rfl, upd_same, r.mono x⟩
theorem frzT {vs : List V} {ds : List D} {Q : VK} {W' : XK} (R : RelS K cl F ms S H) (r : RepL K F ms ds vs) (k : Kont K cl (fun F ms d v => RepV K F ms d v) F ms (.ok (.tup ds) S) Q W') :
    ∀ p, H p = none → Q (.ref p) (upd H p (.tup vs)) := fun p hp => by
  obtain ⟨R', x⟩ := R.freeze (u := .tup vs) hp
  refine k _ ms (.ref p) _ x R' ?_
  simp only [RepV]
  exact ⟨p, vs, rfl, .inl (.inl upd_same), r.mono x⟩
theorem newL {vs : List V} {ds : List D} {Q : VK} {W' : XK} (R : RelS K cl F ms S H) (r : RepL K F ms ds vs) (k : Kont K cl (fun F ms d v => RepV K F ms d v) F ms (.ok (.ref S.length) (S ++ [some (.lst ds)])) Q W') :
    ∀ p, H p = none → Q (.ref p) (upd H p (.lst vs)) := fun p hp => by
  obtain ⟨R', x, at'⟩ := R.alloc (u := .lst vs) (o := .lst ds) hp ⟨vs, upd_same, r⟩
  refine k _ _ (.ref p) _ x R' ?_
  simp only [RepV]
  exact ⟨p, at', rfl⟩
theorem kNow {d : D} {v : V} {Q : VK} {W' : XK} (R : RelS K cl F ms S H) (r : RepV K F ms d v) (k : Kont K cl (fun F ms d v => RepV K F ms d v) F ms (.ok d S) Q W') : Q v H := k F ms v H (Ext.refl _ _) R r
end

/-! ## arithmetic -/
def opAdd (a b : D) (S : Store) : Res D :=
  match a with
  | .int i => match b with
    | .int j => .ok (.int (i + j)) S
    | _ => .stuck
  | .str x => match b with
    | .str y => if x.length + y.length ≤ sizeLine then .ok (.str (x ++ y)) S else .stuck
    | _ => .stuck
  | .tup xs => match b with
    | .tup ys => if xs.length + ys.length ≤ sizeLine then .ok (.tup (xs ++ ys)) S else .stuck
    | _ => .stuck
  | a => match lstOf S a, lstOf S b with
    | some xs, some ys => if xs.length + ys.length ≤ sizeLine then .ok (.lst (xs ++ ys)) S else .stuck
    | _, _ => .stuck
def rAddStr : R2 := fun x y H Q => ∃ i j, x = .str i ∧ y = .str j ∧ i.length + j.length ≤ sizeLine ∧ Q (.str (i ++ j)) H
section
variable {K : PySem.W.Frag} {cl : Str → Option Addr}
theorem addL_ok {F : Hp} {ms : List Addr} {S : Store} {H : Hp} {x y : V} {d e : D} {Q : VK} {W' : XK} (R : RelS K cl F ms S H) (rx : RepV K F ms d x) (ry : RepV K F ms e y)
    (k : Kont K cl (fun F ms d v => RepV K F ms d v) F ms (match lstOf S d, lstOf S e with
    | some xs, some ys => if xs.length + ys.length ≤ sizeLine then .ok (.lst (xs ++ ys)) S else .stuck
    | _, _ => .stuck) Q W') : rCat x y H Q := by
  split at k
  · rename_i xs ys e1 e2
    split at k
    · rename_i hz
      obtain ⟨a, vs, rfl, ha, ra⟩ := lstOf_rep R rx e1
      obtain ⟨b, ws, rfl, hb, rb⟩ := lstOf_rep R ry e2
      exact ⟨a, b, vs, ws, rfl, rfl, ha, hb, by rw [ra.length, rb.length]; exact hz, frzL R (ra.append rb) k⟩
    · exact k.elim
  · exact k.elim
theorem ok_add : OpOk K cl (fun x y H Q => rI0 (fun i j => .int (i + j)) x y H Q ∨ rAddStr x y H Q ∨ rCatA K x y H Q ∨ rCat x y H Q) opAdd := fun F ms S H x y d e Q W' R rx ry k ns => by
  cases d with
  | int i =>
    cases e with
    | int j =>
      simp only [RepV] at rx ry
      subst rx; subst ry
      exact .inl ⟨i, j, rfl, rfl, kNow R (by simp only [RepV]) k⟩
    | _ => exact k.elim
  | str i =>
    cases e with
    | str j =>
      simp only [RepV] at rx ry
      subst rx; subst ry
      simp only [opAdd] at k
      split at k
      · rename_i h
        exact .inr (.inl ⟨i, j, rfl, rfl, h, kNow R (by simp only [RepV]) k⟩)
      · exact k.elim
    | _ => exact k.elim
  | tup xs =>
    cases e with
    | tup ys =>
      have rx0 := rx
      have ry0 := ry
      simp only [RepV] at rx ry
      obtain ⟨a, vs, rfl, ha, ra⟩ := rx
      obtain ⟨b, ws, rfl, hb, rb⟩ := ry
      simp only [opAdd] at k
      split at k
      · rename_i h
        refine .inr (.inr (.inl ⟨a, b, vs, ws, rfl, rfl, Same.seqT R.same ha, Same.seqT R.same hb, by rw [ra.length, rb.length]; exact h, fun ev => ?_, fun _ ew => ?_, fun _ _ => frzT R (ra.append rb) k⟩))
        · have ex : xs = [] := List.length_eq_zero_iff.mp (by rw [← ra.length, ev]; rfl)
          subst ex
          exact kNow R ry0 k
        · have ey : ys = [] := List.length_eq_zero_iff.mp (by rw [← rb.length, ew]; rfl)
          subst ey
          rw [List.append_nil] at k
          exact kNow R rx0 k
      · exact k.elim
    | _ => exact k.elim
  | lst xs => exact .inr (.inr (.inr (addL_ok R rx ry k)))
  | ref xs => exact .inr (.inr (.inr (addL_ok R rx ry k)))
  | non => exact .inr (.inr (.inr (addL_ok R rx ry k)))
  | bl _ => exact .inr (.inr (.inr (addL_ok R rx ry k)))
  | scr _ => exact .inr (.inr (.inr (addL_ok R rx ry k)))
end
open Classical in
noncomputable def op2I (C : Int → Int → Prop) (g : Int → Int → Int) (a b : D) (S : Store) : Res D :=
  match a with
  | .int i => match b with
    | .int j => if C i j then .ok (.int (g i j)) S else .stuck
    | _ => .stuck
  | _ => .stuck
instance (i j : Int) : Decidable (CDiv i j) := by unfold CDiv; infer_instance
instance (i j : Int) : Decidable (CPow i j) := by unfold CPow; infer_instance
instance (i j : Int) : Decidable (CMul i j) := by unfold CMul; infer_instance
noncomputable abbrev opSub := op2I (fun _ _ => True) (fun i j => i - j)
noncomputable abbrev opMulI := op2I CMul (fun i j => i * j)
noncomputable abbrev opMod := op2I (fun _ j => 0 < j) (fun i j => i % j)
noncomputable abbrev opDiv := op2I CDiv (fun i j => i / j)
noncomputable abbrev opPow := op2I CPow (fun i j => i ^ j.toNat)
/-- also a list times a number -/
noncomputable def mulL (a b : D) (S : Store) : Res D :=
  match b with
  | .int j => match lstOf S a with
    | some xs => @ite _ (-(2 ^ 63) ≤ j ∧ j < 2 ^ 63 ∧ xs.length * j.toNat ≤ sizeLine) (Classical.propDecidable _) (.ok (.lst (List.replicate j.toNat xs).flatten) S) .stuck
    | none => .stuck
  | _ => .stuck
/-- a text times a number -/
def mulS (z : Str) (b : D) (S : Store) : Res D :=
  match b with
  | .int n => if z.length ≤ 1000 ∧ 0 ≤ n ∧ n ≤ 1000 then .ok (.str (Txt.mul z n)) S else .stuck
  | _ => .stuck
def rMulS : R2 := fun x y H Q => ∃ z n, x = .str z ∧ y = .int n ∧ z.length ≤ 1000 ∧ 0 ≤ n ∧ n ≤ 1000 ∧ Q (.str (Txt.mul z n)) H
theorem op_mulS {X : Cx} : OpR X (binaryOp .Mult) rMulS := by
  intro pins s σ H x y v u Q I rx ry h
  obtain ⟨z, n, rfl, rfl, h1, h2, h3, q⟩ := h
  obtain ⟨t, rfl⟩ := rx
  obtain ⟨t2, rfl⟩ := ry
  exact SB.mul (PyProof.Rows.mulOk_of 1000 1000 h1 (by omega) (by omega) (by decide) (by decide)) fun t' k => ⟨.str (Txt.mul z n), H, I.tok _, ⟨_, rfl⟩, q⟩
noncomputable def opMul (a b : D) (S : Store) : Res D :=
  match a with
  | .int i => opMulI a b S
  | .str z => mulS z b S
  | a => mulL a b S
section
variable {K : PySem.W.Frag} {cl : Str → Option Addr}
theorem ok_2I {C : Int → Int → Prop} {g : Int → Int → Int} : OpOk K cl (rI C fun i j => .int (g i j)) (op2I C g) := fun F ms S H x y d e Q W' R rx ry k ns => by
  cases d with
  | int i =>
    cases e with
    | int j =>
      simp only [RepV] at rx ry
      subst rx; subst ry
      simp only [op2I] at k
      split at k
      · rename_i h
        exact ⟨i, j, rfl, rfl, h, kNow R (by simp only [RepV]) k⟩
      · exact k.elim
    | _ => exact k.elim
  | _ => exact k.elim
theorem rep_rep {F : Hp} {ms : List Addr} {xs : List D} {vs : List V} (r : RepL K F ms xs vs) : ∀ n : Nat, RepL K F ms (List.replicate n xs).flatten (List.replicate n vs).flatten
  | 0 => RepL.nil
  | n + 1 => by
    rw [List.replicate_succ, List.replicate_succ, List.flatten_cons, List.flatten_cons]
    exact r.append (rep_rep r n)
theorem mulL_ok {F : Hp} {ms : List Addr} {S : Store} {H : Hp} {x y : V} {d e : D} {Q : VK} {W' : XK} (R : RelS K cl F ms S H) (rx : RepV K F ms d x) (ry : RepV K F ms e y)
    (k : Kont K cl (fun F ms d v => RepV K F ms d v) F ms (mulL d e S) Q W') : rRep x y H Q := by
  cases e with
  | int j =>
    simp only [mulL] at k
    split at k
    · rename_i xs hx
      split at k
      · rename_i h
        obtain ⟨a, vs, rfl, ha, ra⟩ := lstOf_rep R rx hx
        simp only [RepV] at ry
        subst ry
        exact ⟨a, j, vs, rfl, rfl, ha, h.1, h.2.1, by rw [ra.length]; exact h.2.2, frzL R (rep_rep ra _) k⟩
      · exact k.elim
    · exact k.elim
  | _ => exact k.elim
theorem ok_mul : OpOk K cl (fun x y H Q => rI CMul (fun i j => .int (i * j)) x y H Q ∨ rMulS x y H Q ∨ rRep x y H Q) opMul := fun F ms S H x y d e Q W' R rx ry k ns => by
  cases d with
  | int i => exact .inl (ok_2I F ms S H x y _ e Q W' R rx ry k ns)
  | str z =>
    cases e with
    | int n =>
      simp only [opMul, mulS] at k
      split at k
      · rename_i h
        simp only [RepV] at rx ry
        subst rx; subst ry
        exact .inr (.inl ⟨z, n, rfl, rfl, h.1, h.2.1, h.2.2, kNow R (by simp only [RepV]) k⟩)
      · exact k.elim
    | _ => exact k.elim
  | _ => exact .inr (.inr (mulL_ok R rx ry k))
end

/-! ## one-sided -/
def opNeg (a : D) (S : Store) : Res D := match a with
  | .int i => .ok (.int (-i)) S
  | _ => .stuck

/-! ## data as PyData -/
mutual
def py : D → PyData
  | .non => .none
  | .bl b => .bool b
  | .int i => .int i
  | .str x => .str x
  | .tup ds => .tuple (pyL ds)
  | .lst ds => .list (pyL ds)
  | .scr ns => .list (ns.map PyData.int)
  | .ref _ => .none
def pyL : List D → List PyData
  | [] => []
  | d :: ds => py d :: pyL ds
end
def derefL (f : D → Option D) : List D → Option (List D)
  | [] => some []
  | d :: ds => match f d, derefL f ds with
    | some e, some es => some (e :: es)
    | _, _ => none
def deref : Nat → Store → D → Option D
  | 0, _, d => if refsB 0 d then some d else none
  | n + 1, S, d => if refsB 0 d then some d else match d with
    | .tup ds => (derefL (deref n S) ds).map .tup
    | .lst ds => (derefL (deref n S) ds).map .lst
    | .ref k => match S[k]? with
      | some (some (.lst ds)) => (derefL (deref n S) ds).map .lst
      | _ => none
    | _ => none
section
variable {K : PySem.W.Frag} {cl : Str → Option Addr} {F F' : Hp} {ms ms' : List Addr} {S S' : Store} {H H' : Hp} {σ : L2.St} {ρ : En}
theorem derefL_rep {f : D → Option D} (hf : ∀ (d e : D) (v : V), RepV K F ms d v → f d = some e → RepV K H ms e v ∧ refsB 0 e = true) :
    ∀ {ds es : List D} {vs : List V}, RepL K F ms ds vs → derefL f ds = some es → RepL K H ms es vs ∧ refsL 0 es = true
  | [], es, vs, r, e => by
    simp only [derefL, Option.some.injEq] at e
    subst e
    simp only [RepL] at r
    subst r
    exact ⟨RepL.nil, by simp only [refsL]⟩
  | d :: ds, es, vs, r, e => by
    simp only [derefL] at e
    simp only [RepL] at r
    obtain ⟨v, w, rfl, r1, r2⟩ := r
    split at e
    · rename_i e1 es1 h1 h2
      cases e
      obtain ⟨a1, a2⟩ := hf _ _ _ r1 h1
      obtain ⟨b1, b2⟩ := derefL_rep hf r2 h2
      exact ⟨RepL.cons a1 b1, by simp only [refsL, a2, b2, Bool.and_self]⟩
    · cases e
theorem deref_rep (R : RelS K cl F ms S H) : ∀ (n : Nat) (d e : D) (v : V), RepV K F ms d v → deref n S d = some e → RepV K H ms e v ∧ refsB 0 e = true
  | 0, d, e, v, r, h => by
    simp only [deref] at h
    split at h
    · rename_i q
      cases h
      exact ⟨r.up R, q⟩
    · cases h
  | n + 1, d, e, v, r, h => by
    simp only [deref] at h
    split at h
    · rename_i q
      cases h
      exact ⟨r.up R, q⟩
    · cases d with
      | tup ds =>
        simp only [Option.map_eq_some_iff] at h
        obtain ⟨es, h1, rfl⟩ := h
        simp only [RepV] at r ⊢
        obtain ⟨a, vs, rfl, ha, ra⟩ := r
        obtain ⟨b1, b2⟩ := derefL_rep (fun d e v => deref_rep R n d e v) ra h1
        exact ⟨⟨a, vs, rfl, Same.seqT R.same ha, b1⟩, by simp only [refsB, b2]⟩
      | lst ds =>
        simp only [Option.map_eq_some_iff] at h
        obtain ⟨es, h1, rfl⟩ := h
        simp only [RepV] at r ⊢
        obtain ⟨a, vs, rfl, ha, ra⟩ := r
        obtain ⟨b1, b2⟩ := derefL_rep (fun d e v => deref_rep R n d e v) ra h1
        exact ⟨⟨a, vs, rfl, R.same _ _ ha, b1⟩, by simp only [refsB, b2]⟩
      | ref k =>
        simp only at h
        split at h
        · rename_i ds hs
          simp only [Option.map_eq_some_iff] at h
          obtain ⟨es, h1, rfl⟩ := h
          simp only [RepV] at r ⊢
          obtain ⟨a, ea, rfl⟩ := r
          obtain ⟨a', a1, a2, vs, a3, a4⟩ := R.ob k _ hs
          rw [ea] at a1; cases a1
          obtain ⟨b1, b2⟩ := derefL_rep (fun d e v => deref_rep R n d e v) a4 h1
          exact ⟨⟨a, vs, rfl, a3, b1⟩, by simp only [refsB, b2]⟩
        · cases h
      | _ => simp only at h; cases h
theorem dpInts {H : Hp} : ∀ ns : List Int, DpAll K H (ns.map V.int) (ns.map PyData.int)
  | [] => .nil
  | n :: ns => .cons (.int n) (dpInts ns)
mutual
theorem RepV.dp : ∀ {d : D} {v : V}, RepV K H ms d v → refsB 0 d = true → Dp K H v (py d)
  | .non, _, h, _ => by simp only [RepV] at h; subst h; simp only [py]; exact .non
  | .bl b, _, h, _ => by simp only [RepV] at h; subst h; simp only [py]; exact .bl b
  | .int b, _, h, _ => by simp only [RepV] at h; subst h; simp only [py]; exact .int b
  | .str b, _, h, _ => by simp only [RepV] at h; subst h; simp only [py]; exact .str b
  | .tup ds, _, h, b => by
    simp only [RepV] at h
    simp only [refsB] at b
    obtain ⟨a, vs, rfl, q, r⟩ := h
    simp only [py]
    exact .tup q (RepL.dp r b)
  | .lst ds, _, h, b => by
    simp only [RepV] at h
    simp only [refsB] at b
    obtain ⟨a, vs, rfl, q, r⟩ := h
    simp only [py]
    exact .lst (.inl (.inl q)) (RepL.dp r b)
  | .scr ns, _, h, b => by
    simp only [RepV] at h
    obtain ⟨a, rfl, q⟩ := h
    simp only [py]
    exact .lst q (dpInts ns)
  | .ref k, _, h, b => by simp [refsB] at b
theorem RepL.dp : ∀ {ds : List D} {vs : List V}, RepL K H ms ds vs → refsL 0 ds = true → DpAll K H vs (pyL ds)
  | [], _, h, _ => by simp only [RepL] at h; subst h; simp only [pyL]; exact .nil
  | d :: ds, _, h, b => by
    simp only [RepL] at h
    simp only [refsL, Bool.and_eq_true] at b
    obtain ⟨v, r, rfl, q, t⟩ := h
    simp only [pyL]
    exact .cons (RepV.dp q b.1) (RepL.dp t b.2)
end
end
/-- scalars, told apart at once -/
def eqSc : D → D → Option Bool
  | .int i, .int j => some (decide (i = j))
  | .str x, .str y => some (decide (x = y))
  | .bl x, .bl y => some (decide (x = y))
  | .non, .non => some true
  | .non, .int _ => some false
  | .int _, .non => some false
  | .non, .str _ => some false
  | .str _, .non => some false
  | _, _ => none
def eqDeep (neg : Bool) (a b : D) (S : Store) : Res D :=
  match deref 40 S a, deref 40 S b with
  | some a', some b' => if SeqAt.shaped (py a') = true ∧ SeqAt.shaped (py b') = true then .ok (.bl (if neg then !PyData.eqv (py a') (py b') else PyData.eqv (py a') (py b'))) S else .stuck
  | _, _ => .stuck
def opEqN (neg : Bool) (a b : D) (S : Store) : Res D :=
  match eqSc a b with
  | some c => .ok (.bl (if neg then !c else c)) S
  | none => eqDeep neg a b S
abbrev opEq := opEqN false
abbrev opNe := opEqN true
section
variable {K : PySem.W.Frag} {cl : Str → Option Addr}
theorem eqSc_ok {F : Hp} {ms : List Addr} {d e : D} {x y : V} {c : Bool} (rx : RepV K F ms d x) (ry : RepV K F ms e y) (h : eqSc d e = some c) : scal x y = true ∧ decide (x = y) = c := by
  cases d <;> cases e <;> simp only [eqSc] at h <;> first
    | (simp only [RepV] at rx ry
       subst rx; subst ry
       simp only [Option.some.injEq] at h
       subst h
       refine ⟨rfl, ?_⟩
       first
         | (rw [decide_eq_decide]; exact ⟨fun q => by cases q; rfl, fun q => by rw [q]⟩)
         | (simp; done)
         | rfl)
    | (cases h; done)
theorem eqDeep_ok {neg : Bool} {F : Hp} {ms : List Addr} {S : Store} {H : Hp} {x y : V} {d e : D} {Q : VK} {W' : XK} (R : RelS K cl F ms S H) (rx : RepV K F ms d x) (ry : RepV K F ms e y)
    (k : Kont K cl (fun F ms d v => RepV K F ms d v) F ms (eqDeep neg d e S) Q W') : ∃ a b, Dp K H x a ∧ Dp K H y b ∧ SeqAt.shaped a = true ∧ SeqAt.shaped b = true ∧ Q (.bl (if neg then !PyData.eqv a b else PyData.eqv a b)) H := by
  unfold eqDeep at k
  split at k
  · rename_i a' b' h1 h2
    split at k
    · rename_i h
      obtain ⟨p1, p2⟩ := deref_rep R _ _ _ _ rx h1
      obtain ⟨q1, q2⟩ := deref_rep R _ _ _ _ ry h2
      exact ⟨_, _, p1.dp p2, q1.dp q2, h.1, h.2, kNow R (by simp only [RepV]) k⟩
    · exact k.elim
  · exact k.elim
theorem ok_eq : OpOk K cl (fun x y H Q => rEq x y H Q ∨ rEqD K x y H Q) opEq := fun F ms S H x y d e Q W' R rx ry k ns => by
  unfold opEq opEqN at k
  split at k
  · rename_i c hc
    obtain ⟨h1, h2⟩ := eqSc_ok rx ry hc
    refine .inl ⟨h1, ?_⟩
    rw [h2]
    exact kNow (v := .bl c) R (by simp only [RepV]; rfl) k
  · exact .inr (eqDeep_ok (neg := false) R rx ry k)
theorem ok_ne : OpOk K cl (fun x y H Q => rNe x y H Q ∨ rNeD K x y H Q) opNe := fun F ms S H x y d e Q W' R rx ry k ns => by
  unfold opNe opEqN at k
  split at k
  · rename_i c hc
    obtain ⟨h1, h2⟩ := eqSc_ok rx ry hc
    refine .inl ⟨h1, ?_⟩
    rw [h2]
    exact kNow (v := .bl (!c)) R (by simp only [RepV]; rfl) k
  · exact .inr (eqDeep_ok (neg := true) R rx ry k)
end
/-- order of numbers and texts -/
def op2B (g : Int → Int → Bool) (a b : D) (S : Store) : Res D :=
  match a with
  | .int i => match b with
    | .int j => .ok (.bl (g i j)) S
    | _ => .stuck
  | _ => .stuck
abbrev opLtI := op2B fun i j => decide (i < j)
abbrev opLe := op2B fun i j => decide (i ≤ j)
abbrev opGt := op2B fun i j => decide (j < i)
abbrev opGe := op2B fun i j => decide (j ≤ i)
def opIs (neg : Bool) (a b : D) (S : Store) : Res D :=
  match b with
  | .non => match a with
    | .non => .ok (.bl (!neg)) S
    | _ => .ok (.bl neg) S
  | _ => .stuck
section
variable {K : PySem.W.Frag} {cl : Str → Option Addr}
theorem ok_2B {g : Int → Int → Bool} : OpOk K cl (rI0 fun i j => .bl (g i j)) (op2B g) := fun F ms S H x y d e Q W' R rx ry k ns => by
  cases d with
  | int i =>
    cases e with
    | int j =>
      simp only [RepV] at rx ry
      subst rx; subst ry
      exact ⟨i, j, rfl, rfl, kNow R (by simp only [RepV]) k⟩
    | _ => exact k.elim
  | _ => exact k.elim
theorem RepV.non_iff {F : Hp} {ms : List Addr} {d : D} {x : V} (r : RepV K F ms d x) (h : d ≠ .non) : x ≠ .non := fun e => by
  subst e
  cases d <;> simp only [RepV] at r
  · exact h rfl
  all_goals first
    | (cases r; done)
    | (obtain ⟨a, vs, e, _⟩ := r; cases e; done)
    | (obtain ⟨a, e, q⟩ := r; first | (cases e; done) | (cases q; done))
theorem ok_is : OpOk K cl (fun x y H Q => y = .non ∧ Q (.bl (decide (x = .non))) H) (opIs false) := fun F ms S H x y d e Q W' R rx ry k ns => by
  cases e with
  | non =>
    simp only [RepV] at ry
    subst ry
    refine ⟨rfl, ?_⟩
    by_cases hd : d = .non
    · subst hd
      simp only [RepV] at rx
      subst rx
      exact kNow (d := .bl true) R (by simp only [RepV]; rfl) k
    · rw [decide_eq_false (rx.non_iff hd)]
      have e : opIs false d .non S = .ok (.bl false) S := by cases d <;> first | exact absurd rfl hd | rfl
      rw [e] at k
      exact kNow R (by simp only [RepV]) k
  | _ => exact k.elim
theorem ok_isnot : OpOk K cl (fun x y H Q => y = .non ∧ Q (.bl (!decide (x = .non))) H) (opIs true) := fun F ms S H x y d e Q W' R rx ry k ns => by
  cases e with
  | non =>
    simp only [RepV] at ry
    subst ry
    refine ⟨rfl, ?_⟩
    by_cases hd : d = .non
    · subst hd
      simp only [RepV] at rx
      subst rx
      exact kNow (d := .bl false) R (by simp only [RepV]; rfl) k
    · rw [decide_eq_false (rx.non_iff hd)]
      have e : opIs true d .non S = .ok (.bl true) S := by cases d <;> first | exact absurd rfl hd | rfl
      rw [e] at k
      exact kNow R (by simp only [RepV]; rfl) k
  | _ => exact k.elim
end

/-! ## in -/
def flatD : D → Bool
  | .non => true
  | .bl _ => true
  | .int _ => true
  | .str _ => true
  | _ => false
def vOf : D → V
  | .bl b => .bl b
  | .int i => .int i
  | .str x => .str x
  | _ => .non
def inFlat (a : D) (ys : List D) : Bool := inV (vOf a) (ys.map vOf)
def opInN (neg : Bool) (a b : D) (S : Store) : Res D :=
  match b with
  | .str z => match a with
    | .str c => .ok (.bl (if neg then !(!(Builtin.Str.occurrences z c 0 z.length 1).isEmpty) else !(Builtin.Str.occurrences z c 0 z.length 1).isEmpty)) S
    | _ => .stuck
  | .tup ys => if flatD a = true ∧ ys.all flatD = true then .ok (.bl (if neg then !inFlat a ys else inFlat a ys)) S else .stuck
  | b => match lstOf S b with
    | some ys => if flatD a = true ∧ ys.all flatD = true then .ok (.bl (if neg then !inFlat a ys else inFlat a ys)) S
      else match deref 40 S a, deref 40 S (.lst ys) with
        | some a', some (.lst ys') => if SeqAt.shaped (py a') = true ∧ SeqAt.shaped (.list (pyL ys')) = true then
            .ok (.bl (if neg then !((pyL ys').any fun z => PyData.eqv z (py a')) else (pyL ys').any fun z => PyData.eqv z (py a'))) S else .stuck
        | _, _ => .stuck
    | none => .stuck
abbrev opIn := opInN false
abbrev opNotIn := opInN true
section
variable {K : PySem.W.Frag} {cl : Str → Option Addr}
theorem flat_rep {F : Hp} {ms : List Addr} {d : D} {x : V} (r : RepV K F ms d x) (h : flatD d = true) : x = vOf d ∧ flatV x = true := by
  cases d <;> simp only [flatD] at h <;> first
    | (simp only [RepV] at r; subst r; exact ⟨rfl, rfl⟩)
    | (cases h)
theorem flat_repL {F : Hp} {ms : List Addr} : ∀ {ds : List D} {vs : List V}, RepL K F ms ds vs → ds.all flatD = true → vs = ds.map vOf ∧ vs.all flatV = true
  | [], _, r, _ => by simp only [RepL] at r; subst r; exact ⟨rfl, rfl⟩
  | d :: ds, _, r, h => by
    simp only [RepL] at r
    obtain ⟨v, w, rfl, r1, r2⟩ := r
    rw [List.all_cons, Bool.and_eq_true] at h
    obtain ⟨a1, a2⟩ := flat_rep r1 h.1
    obtain ⟨b1, b2⟩ := flat_repL r2 h.2
    exact ⟨by rw [List.map_cons, ← a1, ← b1], by rw [List.all_cons, a2, b2]; rfl⟩
def rInAll (K : PySem.W.Frag) (neg : Bool) : R2 := fun x y H Q =>
  (∃ i j, x = .str i ∧ y = .str j ∧ Q (.bl (if neg then !(!(Builtin.Str.occurrences j i 0 j.length 1).isEmpty) else !(Builtin.Str.occurrences j i 0 j.length 1).isEmpty)) H) ∨ rIn K neg x y H Q ∨
  (∃ d ds, Dp K H x d ∧ Dp K H y (.list ds) ∧ SeqAt.shaped d = true ∧ SeqAt.shaped (.list ds) = true ∧ Q (.bl (if neg then !ds.any (fun z => PyData.eqv z d) else ds.any fun z => PyData.eqv z d)) H)
theorem ok_inN {neg : Bool} : OpOk K cl (rInAll K neg) (opInN neg) := fun F ms S H x y d e Q W' R rx ry k ns => by
  have lists : (match lstOf S e with
    | some ys => if flatD d = true ∧ ys.all flatD = true then Res.ok (D.bl (if neg then !inFlat d ys else inFlat d ys)) S
      else match deref 40 S d, deref 40 S (.lst ys) with
        | some a', some (.lst ys') => if SeqAt.shaped (py a') = true ∧ SeqAt.shaped (.list (pyL ys')) = true then
            .ok (.bl (if neg then !((pyL ys').any fun z => PyData.eqv z (py a')) else (pyL ys').any fun z => PyData.eqv z (py a'))) S else .stuck
        | _, _ => .stuck
    | none => .stuck) = opInN neg d e S → rInAll K neg x y H Q := fun q => by
    rw [← q] at k
    split at k
    · rename_i ys hy
      obtain ⟨b, ws, rfl, hb, rb⟩ := lstOf_rep R ry hy
      split at k
      · rename_i h
        obtain ⟨a1, a2⟩ := flat_rep rx h.1
        obtain ⟨b1, b2⟩ := flat_repL rb h.2
        refine .inr (.inl ⟨b, ws, rfl, .inl (SqL.of hb), a2, b2, ?_⟩)
        rw [a1, b1]
        exact kNow R (by simp only [RepV, inFlat]) k
      · split at k
        · rename_i a' ys' h1 h2
          split at k
          · rename_i h
            obtain ⟨p1, p2⟩ := deref_rep R _ _ _ _ rx h1
            have rl : RepV K H ms (.lst ys) (.ref b) := by simp only [RepV]; exact ⟨b, ws, rfl, hb, rb.up R⟩
            have RH : RelS K cl H ms ([] ++ S.map fun _ => none) H := ⟨Same.refl _, by rw [R.len]; simp, fun k o e => by simp at e, fun j k o o' a e => by simp at e⟩
            obtain ⟨q1, q2⟩ : RepV K H ms (.lst ys') (.ref b) ∧ refsB 0 (.lst ys') = true := by
              by_cases hz : refsB 0 (.lst ys) = true
              · have e2 : deref 40 S (.lst ys) = some (.lst ys) := by unfold deref; rw [if_pos hz]
                rw [e2] at h2
                cases h2
                exact ⟨rl, hz⟩
              · have e2 : deref 40 S (.lst ys) = (derefL (deref 39 S) ys).map .lst := by
                  conv => lhs; unfold deref
                  rw [if_neg hz]
                rw [e2] at h2
                simp only [Option.map_eq_some_iff, D.lst.injEq] at h2
                obtain ⟨es, h3, rfl⟩ := h2
                obtain ⟨b1, b2⟩ := derefL_rep (fun d e v => deref_rep R 39 d e v) rb h3
                exact ⟨by simp only [RepV]; exact ⟨b, ws, rfl, hb, b1⟩, by simp only [refsB, b2]⟩
            have dq := q1.dp q2
            simp only [py] at dq
            exact .inr (.inr ⟨_, _, p1.dp p2, dq, h.1, h.2, kNow R (by simp only [RepV]) k⟩)
          · exact k.elim
        · exact k.elim
    · exact k.elim
  cases e with
  | str z =>
    cases d with
    | str c =>
      simp only [RepV] at rx ry
      subst rx; subst ry
      exact .inl ⟨c, z, rfl, rfl, kNow R (by simp only [RepV]) k⟩
    | _ => exact k.elim
  | tup ys =>
    simp only [opInN] at k
    split at k
    · rename_i h
      simp only [RepV] at ry
      obtain ⟨b, ws, rfl, hb, rb⟩ := ry
      obtain ⟨a1, a2⟩ := flat_rep rx h.1
      obtain ⟨b1, b2⟩ := flat_repL rb h.2
      refine .inr (.inl ⟨b, ws, rfl, .inr (Same.seqT R.same hb), a2, b2, ?_⟩)
      rw [a1, b1]
      exact kNow R (by simp only [RepV, inFlat]) k
    · exact k.elim
  | _ => exact lists rfl
end
end Ev

namespace Ev
open PySem PySem.Spec L2

/-! ## arguments, displays -/
def evArgs : List EvE → Ev (List D)
  | [] => fun _ S => .ok [] S
  | e :: es => evBind e fun d => evBind (evArgs es) fun ds _ S => .ok (d :: ds) S
section
variable {X : Cx} {cl : Str → Option Addr} {W : L2.St → XK} {a b e : Expr} {es : List Expr} {ea eb ee : EvE} {evs : List EvE} {pos : Pos}
theorem a_nil : EA X cl W [] (evArgs []) := PA_wk pa_nil fun σ H Q ⟨F, ms, ρ, S, R, E, k⟩ => k F ms [] H (Ext.refl _ _) R RepL.nil
theorem a_cons (h : EE X cl W e ee) (hr : EA X cl W es (evArgs evs)) (hs : starEach (e :: es) X.env = (false, eval e X.env) :: starEach es X.env := by rfl) : EA X cl W (e :: es) (evArgs (ee :: evs)) := by
  refine PA_wk (pa_cons h hr hs) fun σ H Q hq => ?_
  obtain ⟨F, ms, ρ, S, R, E, k⟩ := hq
  refine tG_mono (kbind R E k) fun x H1 ⟨F1, m1, d1, S1, x1, R1, E1, r1, k1, _⟩ => ?_
  refine tG_mono (kbind R1 E1 k1) fun y H2 ⟨F2, m2, d2, S2, x2, R2, E2, r2, k2, _⟩ => ?_
  exact k2 F2 m2 _ H2 (Ext.refl _ _) R2 (RepL.cons (r1.mono x2) r2)
theorem evArgs_len : ∀ {evs : List EvE} {ρ : En} {S S' : Store} {ds : List D}, evArgs evs ρ S = .ok ds S' → ds.length = evs.length
  | [], ρ, S, S', ds, h => by simp only [evArgs] at h; cases h; rfl
  | e :: es, ρ, S, S', ds, h => by
    simp only [evArgs, evBind] at h
    cases q : e ρ S with
    | ok d S1 =>
      rw [q] at h
      simp only [Res.bind] at h
      cases q2 : evArgs es ρ S1 with
      | ok ds2 S2 =>
        rw [q2] at h
        cases h
        rw [List.length_cons, List.length_cons, evArgs_len q2]
      | exc c S2 => rw [q2] at h; cases h
      | stuck => rw [q2] at h; cases h
    | exc c S1 => rw [q] at h; cases h
    | stuck => rw [q] at h; cases h
def evTup (evs : List EvE) : EvE := evBind (evArgs evs) fun ds _ S => .ok (.tup ds) S
def evLst (evs : List EvE) : EvE := evBind (evArgs evs) fun ds _ S => .ok (.lst ds) S
/-- .. a list of the store -/
def evNewL (evs : List EvE) : EvE := evBind (evArgs evs) fun ds _ S => .ok (.ref S.length) (S ++ [some (.lst ds)])
theorem small_line {n : Nat} (h : n ≤ 1000) : n ≤ sizeLine := Nat.le_of_lt (small1000 h)
theorem e_tup {x1 : Nat} (h : EA X cl W es (evArgs evs)) (hz : evs.length ≤ 1000 := by exact Nat.le_of_ble_eq_true rfl) : EE X cl W (.Tuple es x1 pos) (evTup evs) := by
  refine PE_wk (pe_tup h) fun σ H Q hq => ?_
  obtain ⟨F, ms, ρ, S, R, E, k⟩ := hq
  refine tG_mono (kbind R E k) fun x H1 ⟨F1, m1, d1, S1, x1, R1, E1, r1, k1, e1⟩ => ?_
  exact ⟨by rw [r1.length, evArgs_len e1]; exact small_line hz, frzT R1 r1 k1⟩
theorem e_lst (h : EA X cl W es (evArgs evs)) (hz : evs.length ≤ 1000 := by exact Nat.le_of_ble_eq_true rfl) : EE X cl W (.List es pos) (evLst evs) := by
  refine PE_wk (pe_lst h) fun σ H Q hq => ?_
  obtain ⟨F, ms, ρ, S, R, E, k⟩ := hq
  refine tG_mono (kbind R E k) fun x H1 ⟨F1, m1, d1, S1, x1, R1, E1, r1, k1, e1⟩ => ?_
  exact ⟨by rw [r1.length, evArgs_len e1]; exact small_line hz, frzL R1 r1 k1⟩
theorem e_newL (h : EA X cl W es (evArgs evs)) (hz : evs.length ≤ 1000 := by exact Nat.le_of_ble_eq_true rfl) : EE X cl W (.List es pos) (evNewL evs) := by
  refine PE_wk (pe_lst h) fun σ H Q hq => ?_
  obtain ⟨F, ms, ρ, S, R, E, k⟩ := hq
  refine tG_mono (kbind R E k) fun x H1 ⟨F1, m1, d1, S1, x1, R1, E1, r1, k1, e1⟩ => ?_
  exact ⟨by rw [r1.length, evArgs_len e1]; exact small_line hz, newL R1 r1 k1⟩

/-! ## operators -/
theorem e_add (ha : EE X cl W a ea) (hb : EE X cl W b eb) : EE X cl W (.BinOp a .Add b pos) (evBin opAdd ea eb) :=
  e_bin (fun ha hb => pe_op (op_add.or (op_add_str.or (op_catA.or op_cat))) ha hb) ok_add ha hb
theorem OpR_wk {f : Value → Value → Sem Value} {r r' : R2} (h : OpR X f r) (w : ∀ x y H Q, r' x y H Q → r x y H Q) : OpR X f r' := fun pins s σ H x y v u Q I rx ry q => h pins s σ H x y v u Q I rx ry (w _ _ _ _ q)
theorem op_sub' : OpR X (binaryOp .Sub) (rI (fun _ _ => True) fun i j => .int (i - j)) := OpR_wk op_sub fun x y H Q ⟨i, j, h1, h2, _, q⟩ => ⟨i, j, h1, h2, q⟩
theorem e_sub (ha : EE X cl W a ea) (hb : EE X cl W b eb) : EE X cl W (.BinOp a .Sub b pos) (evBin opSub ea eb) := e_bin (pe_op op_sub') ok_2I ha hb
theorem e_mul (ha : EE X cl W a ea) (hb : EE X cl W b eb) : EE X cl W (.BinOp a .Mult b pos) (evBin opMul ea eb) := e_bin (pe_op (op_mul.or (op_mulS.or op_rep))) ok_mul ha hb
theorem e_mod (ha : EE X cl W a ea) (hb : EE X cl W b eb) : EE X cl W (.BinOp a .Mod b pos) (evBin opMod ea eb) := e_bin (pe_op op_mod) ok_2I ha hb
theorem e_div (ha : EE X cl W a ea) (hb : EE X cl W b eb) : EE X cl W (.BinOp a .FloorDiv b pos) (evBin opDiv ea eb) := e_bin (pe_op op_fdiv) ok_2I ha hb
theorem e_pow (ha : EE X cl W a ea) (hb : EE X cl W b eb) : EE X cl W (.BinOp a .Pow b pos) (evBin opPow ea eb) := e_bin (pe_op op_pow) ok_2I ha hb
theorem e_neg (ha : EE X cl W a ea) : EE X cl W (.UnaryOp .USub a pos) (evUn opNeg ea) := by
  refine PE_wk (pe_un un_neg ha) fun σ H Q hq => ?_
  obtain ⟨F, ms, ρ, S, R, E, k⟩ := hq
  refine tG_mono (kbind R E k) fun x H1 ⟨F1, m1, d1, S1, x1, R1, E1, r1, k1, e1⟩ => ?_
  cases d1 with
  | int i =>
    simp only [RepV] at r1
    subst r1
    exact ⟨i, rfl, kNow R1 (by simp only [RepV]) k1⟩
  | _ => exact k1.elim

/-! ## comparisons -/
theorem e_cmp {op : CmpOp} {r : R2} {f : D → D → Store → Res D} (ho : OpR X (compareOp op) r) (hf : OpOk X.K cl r f) (ha : EE X cl W a ea) (hb : EE X cl W b eb) (hm : behindInMarks op b = false) :
    EE X cl W (.Compare a [op] [b] pos) (evBin f ea eb) := e_bin (fun ha hb => pe_cmpR ho ha hb hm) hf ha hb
/-- a datum as a test -/
def evTest (e : EvE) : Ev Bool := evBind e fun d _ S => match d with
  | .bl b => .ok b S
  | _ => .stuck
theorem tTest_of {t : TE} (σ : L2.St) (H : Hp) (Q : Bool → Hp → Prop) (F : Hp) (ms : List Addr) (ρ : En) (S : Store) (R : RelS X.K cl F ms S H) (E : EnvR X.K F ms σ ρ) (k : Kont X.K cl (fun _ _ d v => v = d) F ms (evTest ea ρ S) Q (W σ)) :
    tE X.K cl W ea σ H (fun x H' => ∃ k, x = V.bl k ∧ Q k H') := by
  refine tG_mono (kbind R E k) fun x H1 ⟨F1, m1, d1, S1, x1, R1, E1, r1, k1, e1⟩ => ?_
  cases d1 with
  | bl b =>
    simp only [RepV] at r1
    exact ⟨b, r1, k1 F1 m1 b H1 (Ext.refl _ _) R1 rfl⟩
  | _ => exact k1.elim
theorem t_cmp {op : CmpOp} {r : R2} {f : D → D → Store → Res D} (ho : OpR X (compareOp op) r) (hf : OpOk X.K cl r f) (ha : EE X cl W a ea) (hb : EE X cl W b eb) (hm : behindInMarks op b = false) :
    ET X cl W (.Compare a [op] [b] pos) (evTest (evBin f ea eb)) := by
  refine PT_wk (pt_cmpR ho ha hb hm) fun σ H Q hq => ?_
  obtain ⟨F, ms, ρ, S, R, E, k⟩ := hq
  have h := tTest_of (t := tE X.K cl W ea) σ H Q F ms ρ S R E k
  obtain ⟨F, ms, ρ, S, R, E, k⟩ := h
  show tE X.K cl W ea σ H _
  refine tG_mono (kbind R E k) fun x H1 ⟨F1, m1, d1, S1, x1, R1, E1, r1, k1, _⟩ => ?_
  refine tG_mono (kbind R1 E1 k1) fun y H2 ⟨F2, m2, d2, S2, x2, R2, E2, r2, k2, _⟩ => ?_
  exact hf F2 m2 S2 H2 x y d1 d2 _ (W σ) R2 (r1.mono x2) r2 k2 k2.nst
theorem t_val (h : EE X cl W e ee) (he : ∀ whole, isTrue e X.env whole = (do let v ← whole; standAt e.pos; holding [v] (truthy v)) := by intro _; rfl) : ET X cl W e (evTest ee) := by
  refine PT_wk (pt_val h he) fun σ H Q hq => ?_
  obtain ⟨F, ms, ρ, S, R, E, k⟩ := hq
  exact tTest_of (t := tE X.K cl W ee) σ H Q F ms ρ S R E k
theorem op_notInA (hu : X.A.units + 65 < cLine) : OpR X (compareOp .NotIn) (rInAll X.K true) := op_notin_str.or (op_notIn_seq.or (op_notInD hu))
theorem op_inA (hu : X.A.units + 65 < cLine) : OpR X (compareOp .In) (rInAll X.K false) := op_in_str.or (op_in_seq.or (op_inD hu))
theorem e_eq (hu : X.A.units + 65 < cLine) (ha : EE X cl W a ea) (hb : EE X cl W b eb) (hm : behindInMarks .Eq b = false := by exact nomark _) : EE X cl W (.Compare a [.Eq] [b] pos) (evBin opEq ea eb) := e_cmp (op_eq.or (op_eqD (by omega))) ok_eq ha hb hm
theorem e_ne (hu : X.A.units + 65 < cLine) (ha : EE X cl W a ea) (hb : EE X cl W b eb) (hm : behindInMarks .NotEq b = false := by exact nomark _) : EE X cl W (.Compare a [.NotEq] [b] pos) (evBin opNe ea eb) := e_cmp (op_ne.or (op_neD (by omega))) ok_ne ha hb hm
theorem e_lt (ha : EE X cl W a ea) (hb : EE X cl W b eb) : EE X cl W (.Compare a [.Lt] [b] pos) (evBin opLtI ea eb) := e_cmp op_lt ok_2B ha hb (nomark _)
theorem e_le (ha : EE X cl W a ea) (hb : EE X cl W b eb) : EE X cl W (.Compare a [.LtE] [b] pos) (evBin opLe ea eb) := e_cmp op_le ok_2B ha hb (nomark _)
theorem e_gt (ha : EE X cl W a ea) (hb : EE X cl W b eb) : EE X cl W (.Compare a [.Gt] [b] pos) (evBin opGt ea eb) := e_cmp op_gt ok_2B ha hb (nomark _)
theorem e_ge (ha : EE X cl W a ea) (hb : EE X cl W b eb) : EE X cl W (.Compare a [.GtE] [b] pos) (evBin opGe ea eb) := e_cmp op_ge ok_2B ha hb (nomark _)
theorem e_is (ha : EE X cl W a ea) (hb : EE X cl W b eb) : EE X cl W (.Compare a [.Is] [b] pos) (evBin (opIs false) ea eb) := e_cmp op_isN ok_is ha hb (nomark _)
theorem e_isnot (ha : EE X cl W a ea) (hb : EE X cl W b eb) : EE X cl W (.Compare a [.IsNot] [b] pos) (evBin (opIs true) ea eb) := e_cmp op_notN ok_isnot ha hb (nomark _)
theorem e_in (hu : X.A.units + 65 < cLine) (ha : EE X cl W a ea) (hb : EE X cl W b eb) (hm : behindInMarks .In b = false := by rfl) : EE X cl W (.Compare a [.In] [b] pos) (evBin opIn ea eb) := e_cmp (op_inA hu) ok_inN ha hb hm
theorem e_notin (hu : X.A.units + 65 < cLine) (ha : EE X cl W a ea) (hb : EE X cl W b eb) (hm : behindInMarks .NotIn b = false := by rfl) : EE X cl W (.Compare a [.NotIn] [b] pos) (evBin opNotIn ea eb) := e_cmp (op_notInA hu) ok_inN ha hb hm
theorem t_eq (hu : X.A.units + 65 < cLine) (ha : EE X cl W a ea) (hb : EE X cl W b eb) (hm : behindInMarks .Eq b = false := by exact nomark _) : ET X cl W (.Compare a [.Eq] [b] pos) (evTest (evBin opEq ea eb)) := t_cmp (op_eq.or (op_eqD (by omega))) ok_eq ha hb hm
theorem t_ne (hu : X.A.units + 65 < cLine) (ha : EE X cl W a ea) (hb : EE X cl W b eb) (hm : behindInMarks .NotEq b = false := by exact nomark _) : ET X cl W (.Compare a [.NotEq] [b] pos) (evTest (evBin opNe ea eb)) := t_cmp (op_ne.or (op_neD (by omega))) ok_ne ha hb hm
theorem t_lt (ha : EE X cl W a ea) (hb : EE X cl W b eb) : ET X cl W (.Compare a [.Lt] [b] pos) (evTest (evBin opLtI ea eb)) := t_cmp op_lt ok_2B ha hb (nomark _)
theorem t_le (ha : EE X cl W a ea) (hb : EE X cl W b eb) : ET X cl W (.Compare a [.LtE] [b] pos) (evTest (evBin opLe ea eb)) := t_cmp op_le ok_2B ha hb (nomark _)
theorem t_gt (ha : EE X cl W a ea) (hb : EE X cl W b eb) : ET X cl W (.Compare a [.Gt] [b] pos) (evTest (evBin opGt ea eb)) := t_cmp op_gt ok_2B ha hb (nomark _)
theorem t_ge (ha : EE X cl W a ea) (hb : EE X cl W b eb) : ET X cl W (.Compare a [.GtE] [b] pos) (evTest (evBin opGe ea eb)) := t_cmp op_ge ok_2B ha hb (nomark _)
theorem t_is (ha : EE X cl W a ea) (hb : EE X cl W b eb) : ET X cl W (.Compare a [.Is] [b] pos) (evTest (evBin (opIs false) ea eb)) := t_cmp op_isN ok_is ha hb (nomark _)
theorem t_isnot (ha : EE X cl W a ea) (hb : EE X cl W b eb) : ET X cl W (.Compare a [.IsNot] [b] pos) (evTest (evBin (opIs true) ea eb)) := t_cmp op_notN ok_isnot ha hb (nomark _)
theorem t_in (hu : X.A.units + 65 < cLine) (ha : EE X cl W a ea) (hb : EE X cl W b eb) (hm : behindInMarks .In b = false := by rfl) : ET X cl W (.Compare a [.In] [b] pos) (evTest (evBin opIn ea eb)) := t_cmp (op_inA hu) ok_inN ha hb hm
theorem t_notin (hu : X.A.units + 65 < cLine) (ha : EE X cl W a ea) (hb : EE X cl W b eb) (hm : behindInMarks .NotIn b = false := by rfl) : ET X cl W (.Compare a [.NotIn] [b] pos) (evTest (evBin opNotIn ea eb)) := t_cmp (op_notInA hu) ok_inN ha hb hm

/-! ## and, or, not -/
def evAnd (a b : Ev Bool) : Ev Bool := evBind a fun c ρ S => if c = true then b ρ S else .ok false S
def evOr (a b : Ev Bool) : Ev Bool := evBind a fun c ρ S => if c = true then .ok true S else b ρ S
def evNot (a : Ev Bool) : Ev Bool := evBind a fun c _ S => .ok (!c) S
variable {rest : List Expr} {ta tb : Ev Bool}
theorem w_and1 (h : ET X cl W a ta) : EW X cl W (.BoolOp .And [a] pos) ta := pw_and1 h
theorem w_or1 (h : ET X cl W a ta) : EW X cl W (.BoolOp .Or [a] pos) ta := pw_or1 h
theorem w_and (ha : ET X cl W a ta) (hb : EW X cl W (.BoolOp .And (b :: rest) pos) tb) : EW X cl W (.BoolOp .And (a :: b :: rest) pos) (evAnd ta tb) := by
  refine PW_wk (pw_and ha hb) fun σ H Q hq => ?_
  obtain ⟨F, ms, ρ, S, R, E, k⟩ := hq
  refine tG_mono (kbind R E k) fun c H1 ⟨F1, m1, d1, S1, x1, R1, E1, r1, k1, _⟩ => ?_
  have r1 : c = d1 := r1
  subst r1
  cases c with
  | true => exact ⟨F1, m1, ρ, S1, R1, E1, k1⟩
  | false => exact k1 F1 m1 _ H1 (Ext.refl _ _) R1 rfl
theorem w_or (ha : ET X cl W a ta) (hb : EW X cl W (.BoolOp .Or (b :: rest) pos) tb) : EW X cl W (.BoolOp .Or (a :: b :: rest) pos) (evOr ta tb) := by
  refine PW_wk (pw_or ha hb) fun σ H Q hq => ?_
  obtain ⟨F, ms, ρ, S, R, E, k⟩ := hq
  refine tG_mono (kbind R E k) fun c H1 ⟨F1, m1, d1, S1, x1, R1, E1, r1, k1, _⟩ => ?_
  have r1 : c = d1 := r1
  subst r1
  cases c with
  | false => exact ⟨F1, m1, ρ, S1, R1, E1, k1⟩
  | true => exact k1 F1 m1 _ H1 (Ext.refl _ _) R1 rfl
theorem t_bool (h : EW X cl W e ta) : ET X cl W e ta := PW.pt h
theorem t_not (h : ET X cl W a ta) : ET X cl W (.UnaryOp .Not a pos) (evNot ta) := by
  refine PT_wk (pt_not h) fun σ H Q hq => ?_
  obtain ⟨F, ms, ρ, S, R, E, k⟩ := hq
  refine tG_mono (kbind R E k) fun c H1 ⟨F1, m1, d1, S1, x1, R1, E1, r1, k1, _⟩ => ?_
  have r1 : c = d1 := r1
  subst r1
  exact k1 F1 m1 _ H1 (Ext.refl _ _) R1 rfl
/-- .. as values -/
def evAndV (a b : EvE) : EvE := evBind a fun d ρ S => match d with
  | .bl true => b ρ S
  | .bl false => .ok (.bl false) S
  | _ => .stuck
def evOrV (a b : EvE) : EvE := evBind a fun d ρ S => match d with
  | .bl true => .ok (.bl true) S
  | .bl false => b ρ S
  | _ => .stuck
def evNotV (a : EvE) : EvE := evBind a fun d _ S => match d with
  | .bl c => .ok (.bl (!c)) S
  | _ => .stuck
theorem e_one {op : BoolOp} (h : EE X cl W a ea) : EE X cl W (.BoolOp op [a] pos) ea := pe_one h
theorem e_and (ha : EE X cl W a ea) (hb : EE X cl W (.BoolOp .And (b :: rest) pos) eb) : EE X cl W (.BoolOp .And (a :: b :: rest) pos) (evAndV ea eb) := by
  refine PE_wk (pe_and ha hb) fun σ H Q hq => ?_
  obtain ⟨F, ms, ρ, S, R, E, k⟩ := hq
  refine tG_mono (kbind R E k) fun c H1 ⟨F1, m1, d1, S1, x1, R1, E1, r1, k1, _⟩ => ?_
  cases d1 with
  | bl c' =>
    simp only [RepV] at r1
    subst r1
    cases c' with
    | true => exact ⟨true, rfl, ⟨F1, m1, ρ, S1, R1, E1, k1⟩⟩
    | false => exact ⟨false, rfl, kNow R1 (by simp only [RepV]) k1⟩
  | _ => exact k1.elim
theorem e_or (ha : EE X cl W a ea) (hb : EE X cl W (.BoolOp .Or (b :: rest) pos) eb) : EE X cl W (.BoolOp .Or (a :: b :: rest) pos) (evOrV ea eb) := by
  refine PE_wk (pe_or ha hb) fun σ H Q hq => ?_
  obtain ⟨F, ms, ρ, S, R, E, k⟩ := hq
  refine tG_mono (kbind R E k) fun c H1 ⟨F1, m1, d1, S1, x1, R1, E1, r1, k1, _⟩ => ?_
  cases d1 with
  | bl c' =>
    simp only [RepV] at r1
    subst r1
    cases c' with
    | false => exact ⟨false, rfl, ⟨F1, m1, ρ, S1, R1, E1, k1⟩⟩
    | true => exact ⟨true, rfl, kNow R1 (by simp only [RepV]) k1⟩
  | _ => exact k1.elim
theorem e_not (ha : EE X cl W a ea) : EE X cl W (.UnaryOp .Not a pos) (evNotV ea) := by
  refine PE_wk (pe_not ha) fun σ H Q hq => ?_
  obtain ⟨F, ms, ρ, S, R, E, k⟩ := hq
  refine tG_mono (kbind R E k) fun c H1 ⟨F1, m1, d1, S1, x1, R1, E1, r1, k1, _⟩ => ?_
  cases d1 with
  | bl c' =>
    simp only [RepV] at r1
    subst r1
    exact ⟨c', rfl, kNow R1 (by simp only [RepV]) k1⟩
  | _ => exact k1.elim
def evIfE (t : Ev Bool) (a b : EvE) : EvE := evBind t fun c ρ S => if c = true then a ρ S else b ρ S
theorem e_if {c : Expr} {tc : Ev Bool} (hc : ET X cl W c tc) (ha : EE X cl W a ea) (hb : EE X cl W b eb) : EE X cl W (.IfExp c a b pos) (evIfE tc ea eb) := by
  refine PE_wk (pe_ifExp hc ha hb) fun σ H Q hq => ?_
  obtain ⟨F, ms, ρ, S, R, E, k⟩ := hq
  refine tG_mono (kbind R E k) fun c H1 ⟨F1, m1, d1, S1, x1, R1, E1, r1, k1, _⟩ => ?_
  have r1 : c = d1 := r1
  subst r1
  cases c with
  | true => exact ⟨F1, m1, ρ, S1, R1, E1, k1⟩
  | false => exact ⟨F1, m1, ρ, S1, R1, E1, k1⟩

/-! ## a[b] -/
def opIx (a b : D) (S : Store) : Res D :=
  match b with
  | .int i => match a with
    | .tup xs => match atI xs i with
      | some d => .ok d S
      | none => .stuck
    | .str z => if z.length ≤ sizeLine then match atI z.cps.toList i with
        | some c => .ok (.str ⟨#[c]⟩) S
        | none => .stuck
      else .stuck
    | .scr ns => match atI ns i with
      | some n => .ok (.int n) S
      | none => .stuck
    | a => match lstOf S a with
      | some xs => match atI xs i with
        | some d => .ok d S
        | none => .stuck
      | none => .stuck
  | _ => .stuck
theorem atI_rep {K : PySem.W.Frag} {F : Hp} {ms : List Addr} {xs : List D} {vs : List V} {i : Int} {d : D} (r : RepL K F ms xs vs) (h : atI xs i = some d) : ∃ v, atI vs i = some v ∧ RepV K F ms d v := by
  unfold atI at h ⊢
  rw [r.length]
  cases q : ixN xs.length i with
  | none => rw [q] at h; cases h
  | some j =>
    rw [q] at h
    exact r.get h
theorem ok_ix {K : PySem.W.Frag} : OpOk K cl (rIx K) opIx := fun F ms S H x y d e Q W' R rx ry k ns => by
  cases e with
  | int i =>
    simp only [RepV] at ry
    subst ry
    have lists : (match lstOf S d with
      | some xs => match atI xs i with
        | some d => Res.ok d S
        | none => .stuck
      | none => .stuck) = opIx d (.int i) S → rIx K x (.int i) H Q := fun q => by
      rw [← q] at k
      split at k
      · rename_i xs hx
        obtain ⟨a, vs, rfl, ha, ra⟩ := lstOf_rep R rx hx
        split at k
        · rename_i d' hd
          obtain ⟨v, hv, rv⟩ := atI_rep ra hd
          exact .inl ⟨a, vs, i, v, rfl, rfl, SqL.of ha, hv, kNow R rv k⟩
        · exact k.elim
      · exact k.elim
    cases d with
    | tup xs =>
      simp only [RepV] at rx
      obtain ⟨a, vs, rfl, ha, ra⟩ := rx
      simp only [opIx] at k
      split at k
      · rename_i d' hd
        obtain ⟨v, hv, rv⟩ := atI_rep ra hd
        exact .inr (.inl ⟨a, vs, i, v, rfl, rfl, Same.seqT R.same ha, hv, kNow R rv k⟩)
      · exact k.elim
    | str z =>
      simp only [RepV] at rx
      subst rx
      simp only [opIx] at k
      split at k
      · rename_i hz
        split at k
        · rename_i c hc
          exact .inr (.inr ⟨z, i, c, rfl, rfl, hz, hc, kNow R (by simp only [RepV]) k⟩)
        · exact k.elim
      · exact k.elim
    | scr zs =>
      simp only [RepV] at rx
      obtain ⟨a, rfl, ha⟩ := rx
      simp only [opIx] at k
      split at k
      · rename_i c hc
        have hv : atI (zs.map V.int) i = some (.int c) := by
          unfold atI at hc ⊢
          rw [List.length_map]
          cases q : ixN zs.length i with
          | none => rw [q] at hc; cases hc
          | some j =>
            rw [q] at hc
            have hc' : zs[j]? = some c := hc
            show (zs.map V.int)[j]? = _
            rw [List.getElem?_map, hc']
            rfl
        exact .inl ⟨a, _, i, .int c, rfl, rfl, R.same.seq ha, hv, kNow R (by simp only [RepV]) k⟩
      · exact k.elim
    | _ => exact lists rfl
  | _ => exact k.elim
theorem e_ix (ha : EE X cl W a ea) (hb : EE X cl W b eb) (hs : PlainIx b := by exact fun _ _ => rfl) : EE X cl W (.Subscript a b pos) (evBin opIx ea eb) := e_bin (fun ha hb => pe_ix ix_seq ha hb hs) ok_ix ha hb
end
end Ev

namespace Ev
open PySem PySem.Spec L2

/-! ## freezing -/
def frzList (f : D → Store → Option (D × Store)) : List D → Store → Option (List D × Store)
  | [], S => some ([], S)
  | d :: ds, S => match f d S with
    | some (e, S1) => match frzList f ds S1 with
      | some (es, S2) => some (e :: es, S2)
      | none => none
    | none => none
def frz : Nat → D → Store → Option (D × Store)
  | 0, d, S => if refsB 0 d then some (d, S) else none
  | n + 1, d, S => if refsB 0 d then some (d, S) else match d with
    | .tup ds => match frzList (frz n) ds S with
      | some (es, S') => some (.tup es, S')
      | none => none
    | .lst ds => match frzList (frz n) ds S with
      | some (es, S') => some (.lst es, S')
      | none => none
    | .ref k => match S[k]? with
      | some (some (.lst ds)) => match frzList (frz n) ds (S.set k none) with
        | some (es, S') => some (.lst es, S')
        | none => none
      | _ => none
    | _ => none
section
variable {K : PySem.W.Frag} {cl : Str → Option Addr} {F F' : Hp} {ms ms' : List Addr} {S S' : Store} {H H' : Hp} {σ : L2.St} {ρ : En}
theorem frzList_rep {f : D → Store → Option (D × Store)}
    (hf : ∀ (F : Hp) (d e : D) (S S' : Store) (v : V), RelS K cl F ms S H → RepV K F ms d v → f d S = some (e, S') → ∃ F', Ext F F' ms ms ∧ RelS K cl F' ms S' H ∧ RepV K F' ms e v) :
    ∀ (ds es : List D) (F : Hp) (S S' : Store) (vs : List V), RelS K cl F ms S H → RepL K F ms ds vs → frzList f ds S = some (es, S') → ∃ F', Ext F F' ms ms ∧ RelS K cl F' ms S' H ∧ RepL K F' ms es vs
  | [], es, F, S, S', vs, R, r, e => by
    simp only [frzList, Option.some.injEq, Prod.mk.injEq] at e
    obtain ⟨rfl, rfl⟩ := e
    exact ⟨F, Ext.refl _ _, R, r⟩
  | d :: ds, es, F, S, S', vs, R, r, e => by
    simp only [RepL] at r
    obtain ⟨v, w, rfl, r1, r2⟩ := r
    simp only [frzList] at e
    split at e
    · rename_i e1 S1 h1
      split at e
      · rename_i es1 S2 h2
        simp only [Option.some.injEq, Prod.mk.injEq] at e
        obtain ⟨rfl, rfl⟩ := e
        obtain ⟨F1, x1, R1, q1⟩ := hf _ _ _ _ _ _ R r1 h1
        obtain ⟨F2, x2, R2, q2⟩ := frzList_rep hf ds _ F1 _ _ w R1 (r2.mono x1) h2
        exact ⟨F2, x1.trans x2, R2, RepL.cons (q1.mono x2) q2⟩
      · cases e
    · cases e
theorem frz_rep : ∀ (n : Nat) (F : Hp) (d e : D) (S S' : Store) (v : V), RelS K cl F ms S H → RepV K F ms d v → frz n d S = some (e, S') → ∃ F', Ext F F' ms ms ∧ RelS K cl F' ms S' H ∧ RepV K F' ms e v
  | 0, F, d, e, S, S', v, R, r, h => by
    simp only [frz] at h
    split at h
    · simp only [Option.some.injEq, Prod.mk.injEq] at h
      obtain ⟨rfl, rfl⟩ := h
      exact ⟨F, Ext.refl _ _, R, r⟩
    · cases h
  | n + 1, F, d, e, S, S', v, R, r, h => by
    simp only [frz] at h
    split at h
    · simp only [Option.some.injEq, Prod.mk.injEq] at h
      obtain ⟨rfl, rfl⟩ := h
      exact ⟨F, Ext.refl _ _, R, r⟩
    · cases d with
      | tup ds =>
        simp only at h
        split at h
        · rename_i es S1 h1
          simp only [Option.some.injEq, Prod.mk.injEq] at h
          obtain ⟨rfl, rfl⟩ := h
          simp only [RepV] at r
          obtain ⟨a, vs, rfl, ha, ra⟩ := r
          obtain ⟨F1, x1, R1, q1⟩ := frzList_rep (fun F d e S S' v => frz_rep n F d e S S' v) _ _ F _ _ _ R ra h1
          exact ⟨F1, x1, R1, by simp only [RepV]; exact ⟨a, vs, rfl, Same.seqT x1.same ha, q1⟩⟩
        · cases h
      | lst ds =>
        simp only at h
        split at h
        · rename_i es S1 h1
          simp only [Option.some.injEq, Prod.mk.injEq] at h
          obtain ⟨rfl, rfl⟩ := h
          simp only [RepV] at r
          obtain ⟨a, vs, rfl, ha, ra⟩ := r
          obtain ⟨F1, x1, R1, q1⟩ := frzList_rep (fun F d e S S' v => frz_rep n F d e S S' v) _ _ F _ _ _ R ra h1
          exact ⟨F1, x1, R1, by simp only [RepV]; exact ⟨a, vs, rfl, x1.same _ _ ha, q1⟩⟩
        · cases h
      | ref k =>
        simp only at h
        split at h
        · rename_i ds hs
          split at h
          · rename_i es S1 h1
            simp only [Option.some.injEq, Prod.mk.injEq] at h
            obtain ⟨rfl, rfl⟩ := h
            simp only [RepV] at r
            obtain ⟨a, ea, rfl⟩ := r
            obtain ⟨a', a1, a2, vs, a3, a4⟩ := R.ob k _ hs
            rw [ea] at a1; cases a1
            obtain ⟨R0, x0⟩ := R.toFrozen hs ea a3
            obtain ⟨F1, x1, R1, q1⟩ := frzList_rep (fun F d e S S' v => frz_rep n F d e S S' v) _ _ _ _ _ _ R0 (a4.mono x0) h1
            exact ⟨F1, x0.trans x1, R1, by simp only [RepV]; exact ⟨a, vs, rfl, x1.same _ _ upd_same, q1⟩⟩
          · cases h
        · cases h
      | _ => simp only at h; cases h
theorem frz_pure {d : D} (h : refsB 0 d = true) : frz 40 d S = some (d, S) := by
  unfold frz; rw [if_pos h]
end
def evFrz (e : EvE) : EvE := evBind e fun d _ S => match frz 40 d S with
  | some (d', S') => .ok d' S'
  | none => .stuck
section
variable {X : Cx} {cl : Str → Option Addr} {W : L2.St → XK} {a b e : Expr} {es : List Expr} {ea eb ee : EvE} {evs : List EvE} {pos : Pos}
theorem e_frz (h : EE X cl W e ee) : EE X cl W e (evFrz ee) := by
  refine PE_wk h fun σ H Q hq => ?_
  obtain ⟨F, ms, ρ, S, R, E, k⟩ := hq
  refine tG_mono (kbind R E k) fun x H1 ⟨F1, m1, d1, S1, x1, R1, E1, r1, k1, _⟩ => ?_
  split at k1
  · rename_i d' S' h1
    obtain ⟨F2, x2, R2, q2⟩ := frz_rep _ _ _ _ _ _ _ R1 r1 h1
    exact k1 F2 m1 _ H1 x2 R2 q2
  · exact k1.elim

/-! ## slices -/
def cutL {α : Type} (xs : List α) (lo hi : Option Int) : List α := (xs.drop (HT.sIx xs.length 0 lo)).take (HT.sIx xs.length xs.length hi - HT.sIx xs.length 0 lo)
def evPart (o : Option EvE) : Ev (Option Int) := match o with
  | none => fun _ S => .ok none S
  | some e => evBind e fun d _ S => match d with
    | .int i => .ok (some i) S
    | _ => .stuck
def opSl (a : D) (lo hi : Option Int) (S : Store) : Res D := match a with
  | .str z => if z.length ≤ sizeLine then .ok (.str (cutS z lo hi)) S else .stuck
  | .tup xs => .ok (.tup (cutL xs lo hi)) S
  | .scr ns => .ok (.lst ((cutL ns lo hi).map .int)) S
  | a => match lstOf S a with
    | some xs => .ok (.lst (cutL xs lo hi)) S
    | none => .stuck
def evSl (a : EvE) (lo hi : Option EvE) : EvE := evBind a fun d => evBind (evPart lo) fun l => evBind (evPart hi) fun h _ S => opSl d l h S
abbrev EO (X : Cx) (cl : Str → Option Addr) (W : L2.St → XK) (o : Option Expr) (ev : Option EvE) : Prop := PO X o (tG X.K cl (fun _ _ d v => v = d) W (evPart ev))
theorem PO_wk {o : Option Expr} {t t' : TO} (h : PO X o t) (w : ∀ σ H Q, t' σ H Q → t σ H Q) : PO X o t' := ⟨fun pins s σ H Q I q => h.run pins s σ H Q I (w _ _ _ q)⟩
theorem o_none : EO X cl W none none := PO_wk po_none fun σ H Q ⟨F, ms, ρ, S, R, E, k⟩ => k F ms none H (Ext.refl _ _) R rfl
theorem o_some (h : EE X cl W e ee) : EO X cl W (some e) (some ee) := PO_wk (po_some h) fun σ H Q hq => by
  obtain ⟨F, ms, ρ, S, R, E, k⟩ := hq
  simp only [evPart] at k
  refine tG_mono (kbind R E k) fun x H1 ⟨F1, m1, d1, S1, x1, R1, E1, r1, k1, _⟩ => ?_
  cases d1 with
  | int i =>
    simp only [RepV] at r1
    exact ⟨i, r1, k1 F1 m1 _ H1 (Ext.refl _ _) R1 rfl⟩
  | _ => exact k1.elim
theorem cut_rep {K : PySem.W.Frag} {F : Hp} {ms : List Addr} {xs : List D} {vs : List V} (lo hi : Option Int) (r : RepL K F ms xs vs) : RepL K F ms (cutL xs lo hi) (cutV vs lo hi) := by
  unfold cutL cutV
  rw [r.length]
  exact (r.drop _).take _
theorem cutV_ints (ns : List Int) (lo hi : Option Int) : cutV (ns.map V.int) lo hi = (cutL ns lo hi).map V.int := by
  unfold cutL cutV
  rw [List.length_map, List.map_take, List.map_drop]
theorem rep_ints {K : PySem.W.Frag} {F : Hp} {ms : List Addr} : ∀ ns : List Int, RepL K F ms (ns.map D.int) (ns.map V.int)
  | [] => RepL.nil
  | n :: ns => RepL.cons (by simp only [RepV]) (rep_ints ns)
theorem cutL_whole {α : Type} {xs : List α} {lo hi : Option Int} (h : HT.sIx xs.length 0 lo = 0 ∧ HT.sIx xs.length xs.length hi = xs.length) : cutL xs lo hi = xs := by
  unfold cutL
  rw [h.1, h.2]
  simp
theorem e_sl {lo hi : Option Expr} {el eh : Option EvE} {p2 : Pos} (ha : EE X cl W a ea) (hl : EO X cl W lo el) (hh : EO X cl W hi eh) : EE X cl W (.Subscript a (.Slice lo hi none p2) pos) (evSl ea el eh) := by
  refine PE_wk (pe_slice (sl_list.or (sl_tupA.or sl_str)) ha hl hh) fun σ H Q hq => ?_
  obtain ⟨F, ms, ρ, S, R, E, k⟩ := hq
  refine tG_mono (kbind R E k) fun x H1 ⟨F1, m1, d1, S1, x1, R1, E1, r1, k1, _⟩ => ?_
  refine tG_mono (kbind R1 E1 k1) fun l H2 ⟨F2, m2, l2, S2, x2, R2, E2, r2, k2, _⟩ => ?_
  refine tG_mono (kbind R2 E2 k2) fun h H3 ⟨F3, m3, h3, S3, x3, R3, E3, r3, k3, _⟩ => ?_
  have r2 : l = l2 := r2
  have r3 : h = h3 := r3
  subst r2; subst r3
  have r := (r1.mono x2).mono x3
  have lists : (match lstOf S3 d1 with
    | some xs => Res.ok (D.lst (cutL xs l h)) S3
    | none => .stuck) = opSl d1 l h S3 → rSlL X.K x l h H3 Q := fun q => by
    rw [← q] at k3
    split at k3
    · rename_i xs hx
      obtain ⟨a, vs, rfl, ha, ra⟩ := lstOf_rep R3 r hx
      exact ⟨a, vs, rfl, SqL.of ha, frzL R3 (cut_rep l h ra) k3⟩
    · exact k3.elim
  cases d1 with
  | str z =>
    simp only [RepV] at r
    subst r
    simp only [opSl] at k3
    split at k3
    · rename_i hz
      exact .inr (.inr ⟨z, rfl, hz, kNow R3 (by simp only [RepV]) k3⟩)
    · exact k3.elim
  | tup xs =>
    have r0 := r
    simp only [RepV] at r
    obtain ⟨a, vs, rfl, ha, ra⟩ := r
    refine .inr (.inl ⟨a, vs, rfl, Same.seqT R3.same ha, fun w => ?_, fun _ => frzT R3 (cut_rep l h ra) k3⟩)
    rw [ra.length] at w
    simp only [opSl, cutL_whole w] at k3
    exact kNow R3 r0 k3
  | scr ns =>
    simp only [RepV] at r
    obtain ⟨a, rfl, ha⟩ := r
    refine .inl ⟨a, _, rfl, R3.same.seq ha, ?_⟩
    rw [cutV_ints]
    exact frzL R3 (rep_ints _) k3
  | _ => exact .inl (lists rfl)

/-! ## calls of the program's own defs -/
def noX {α : Type} : Res α → Res α
  | .exc _ _ => .stuck
  | r => r
/-- a def from which nothing is raised; its defaults -/
def evCall0 (f : EvF) (evs : List EvE) (dd : List D) : EvE := evBind (evArgs evs) fun ds _ S => noX (f (ds ++ dd) S)
def evCall (f : EvF) (evs : List EvE) (dd : List D) : EvE := evBind (evArgs evs) fun ds _ S => f (ds ++ dd) S
abbrev sp0 (K : PySem.W.Frag) (cl : Str → Option Addr) (n : Nat) (ev : EvF) : Sp := fun vs H Q _ => spE K cl n ev vs H Q E0
theorem e_call0 {k n : Nat} {f : Addr} {fd : FuncData} {ps : List Str} {ev : EvF} {dvs : List V} {ds : List Value} {dd : List D} {x : Str} {p : Pos} (G : FnOk X.prog X.w X.K X.mg X.base CX0 k f fd ps (sp0 X.K cl n ev)) (hr : Room k X.A) (hg : Gl X x) (hm : X.mg x = some (.ref f))
    (hk : PySem.W.keepIn X.K (.ref f) = true) (hb : Binds X.K fd ps ds) (hd : Vals dvs ds) (hdd : ∀ F ms, RepL X.K F ms dd dvs) (hn : evs.length + dd.length = n) (ha : EA X cl W (e :: es) (evArgs evs)) (hdb : (x == ("__debug__" : Str)) = false := by decide)
    (he : starEach (e :: es) X.env = (false, eval e X.env) :: starEach es X.env := by rfl) (hpl : (backTo pos (starEach es X.env)).any (·.1) = false := by rfl) :
    EE X cl W (.Call (.Name x p) (e :: es) [] pos) (evCall0 ev evs dd) := by
  refine PE_wk (pe_call G hr hg hm hk hb hd pass0 ha hdb he hpl) fun σ H Q hq => ?_
  obtain ⟨F, ms, ρ, S, R, E, k⟩ := hq
  refine tG_mono (kbind R E k) fun x H1 ⟨F1, m1, d1, S1, x1, R1, E1, r1, k1, e1⟩ => ?_
  refine ⟨F1, m1, d1 ++ dd, S1, by rw [List.length_append, evArgs_len e1]; exact hn, R1, r1.append (hdd _ _), ?_⟩
  revert k1
  cases ev (d1 ++ dd) S1 with
  | ok d S' => exact fun k => k
  | exc c S' => exact fun k => k.elim
  | stuck => exact fun k => k
theorem e_call00 {k : Nat} {f : Addr} {fd : FuncData} {ps : List Str} {ev : EvF} {dvs : List V} {ds : List Value} {dd : List D} {x : Str} {p : Pos} {n : Nat} (G : FnOk X.prog X.w X.K X.mg X.base CX0 k f fd ps (sp0 X.K cl n ev)) (hr : Room k X.A) (hg : Gl X x) (hm : X.mg x = some (.ref f))
    (hk : PySem.W.keepIn X.K (.ref f) = true) (hb : Binds X.K fd ps ds) (hd : Vals dvs ds) (hdd : ∀ F ms, RepL X.K F ms dd dvs) (hn : dd.length = n) (hdb : (x == ("__debug__" : Str)) = false := by decide) :
    EE X cl W (.Call (.Name x p) [] [] pos) (evCall0 ev [] dd) := by
  refine PE_wk (pe_call0 G hr hg hm hk hb hd pass0 hdb) fun σ H Q hq => ?_
  obtain ⟨F, ms, ρ, S, R, E, k⟩ := hq
  refine ⟨F, ms, dd, S, hn, R, hdd _ _, ?_⟩
  have k' : Kont X.K cl (fun F ms d v => RepV X.K F ms d v) F ms (noX (ev dd S)) Q (W σ) := k
  revert k'
  cases ev dd S with
  | ok d S' => exact fun k => k
  | exc c S' => exact fun k => k.elim
  | stuck => exact fun k => k
theorem e_callX {CX : CXT} {Ex : XK} {k n : Nat} {f : Addr} {fd : FuncData} {ps : List Str} {ev : EvF} {dvs : List V} {ds : List Value} {dd : List D} {x : Str} {p : Pos} (G : FnOk X.prog X.w X.K X.mg X.base CX k f fd ps (spE X.K cl n ev)) (hr : Room k X.A) (hg : Gl X x) (hm : X.mg x = some (.ref f))
    (hk : PySem.W.keepIn X.K (.ref f) = true) (hb : Binds X.K fd ps ds) (hd : Vals dvs ds) (hdd : ∀ F ms, RepL X.K F ms dd dvs) (hn : evs.length + dd.length = n) (hx : Passes CX X Ex) (ha : EA X cl (fun _ => Ex) (e :: es) (evArgs evs)) (hdb : (x == ("__debug__" : Str)) = false := by decide)
    (he : starEach (e :: es) X.env = (false, eval e X.env) :: starEach es X.env := by rfl) (hpl : (backTo pos (starEach es X.env)).any (·.1) = false := by rfl) :
    EE X cl (fun _ => Ex) (.Call (.Name x p) (e :: es) [] pos) (evCall ev evs dd) := by
  refine PE_wk (pe_call G hr hg hm hk hb hd hx ha hdb he hpl) fun σ H Q hq => ?_
  obtain ⟨F, ms, ρ, S, R, E, k⟩ := hq
  refine tG_mono (kbind (W := fun _ => Ex) R E k) fun x H1 ⟨F1, m1, d1, S1, x1, R1, E1, r1, k1, e1⟩ => ?_
  exact ⟨F1, m1, d1 ++ dd, S1, by rw [List.length_append, evArgs_len e1]; exact hn, R1, r1.append (hdd _ _), k1⟩

/-! ## built-ins -/
def evB (f : List D → Store → Res D) (evs : List EvE) : EvE := evBind (evArgs evs) fun ds _ S => f ds S
def CallOk (K : PySem.W.Frag) (cl : Str → Option Addr) (r : List V → Hp → VK → Prop) (f : List D → Store → Res D) : Prop :=
  ∀ (F : Hp) (ms : List Addr) (S : Store) (H : Hp) (xs : List V) (ds : List D) (Q : VK) (W' : XK), RelS K cl F ms S H → RepL K F ms ds xs →
    Kont K cl (fun F ms d v => RepV K F ms d v) F ms (f ds S) Q W' → r xs H Q
theorem e_blt {r : List V → Hp → VK → Prop} {f : List D → Store → Res D} {e0 : Expr} {t0 : TA} (h : PE X e0 (tCB r t0)) (hf : CallOk X.K cl r f) (ht : t0 = tA X.K cl W (evArgs evs)) : EE X cl W e0 (evB f evs) := by
  subst ht
  refine PE_wk h fun σ H Q hq => ?_
  obtain ⟨F, ms, ρ, S, R, E, k⟩ := hq
  refine tG_mono (kbind R E k) fun x H1 ⟨F1, m1, d1, S1, x1, R1, E1, r1, k1, e1⟩ => ?_
  exact hf F1 m1 S1 H1 x d1 Q (W σ) R1 r1 k1
def opLen (ds : List D) (S : Store) : Res D := match ds with
  | [.str z] => if z.length ≤ sizeLine then .ok (.int z.length) S else .stuck
  | [.tup xs] => .ok (.int xs.length) S
  | [.scr ns] => .ok (.int ns.length) S
  | [d] => match lstOf S d with
    | some xs => .ok (.int xs.length) S
    | none => .stuck
  | _ => .stuck
theorem rep1 {K : PySem.W.Frag} {F : Hp} {ms : List Addr} {d : D} {vs : List V} (r : RepL K F ms [d] vs) : ∃ v, vs = [v] ∧ RepV K F ms d v := by
  simp only [RepL] at r
  obtain ⟨v, w, rfl, r1, rfl⟩ := r
  exact ⟨v, rfl, r1⟩
theorem rep2 {K : PySem.W.Frag} {F : Hp} {ms : List Addr} {d e : D} {vs : List V} (r : RepL K F ms [d, e] vs) : ∃ v w, vs = [v, w] ∧ RepV K F ms d v ∧ RepV K F ms e w := by
  simp only [RepL] at r
  obtain ⟨v, w, rfl, r1, v2, w2, rfl, r2, rfl⟩ := r
  exact ⟨v, v2, rfl, r1, r2⟩
end
end Ev

namespace Ev
open PySem PySem.Spec L2

/-! ## statements -/
def evNx : EvS := fun ρ S => .nx ρ S
def evSeq (a b : EvS) : EvS := fun ρ S => match a ρ S with
  | .nx ρ' S' => b ρ' S'
  | r => r
def resS {α : Type} (r : Res α) (ρ : En) (f : α → Store → RS) : RS := match r with
  | .ok a S' => f a S'
  | .exc c S' => .xc c ρ S'
  | .stuck => .stuck
def evSet (i : Nat) (e : EvE) : EvS := fun ρ S => resS (e ρ S) ρ fun d S' => .nx (ρ.set i (some d)) S'
def evDrop (e : EvE) : EvS := fun ρ S => resS (e ρ S) ρ fun _ S' => .nx ρ S'
def evRet (e : EvE) : EvS := fun ρ S => resS (e ρ S) ρ fun d S' => .rt d S'
def evRetN : EvS := fun _ S => .rt .non S
def evIf (t : Ev Bool) (a b : EvS) : EvS := fun ρ S => resS (t ρ S) ρ fun c S' => if c = true then a ρ S' else b ρ S'
def evBrk : EvS := fun ρ S => .bk ρ S
def evCnt : EvS := fun ρ S => .ct ρ S
section
variable {K : PySem.W.Frag} {cl : Str → Option Addr} {F F' : Hp} {ms ms' : List Addr} {S S' : Store} {H H' : Hp} {σ : L2.St} {ρ : En}
/-- the expression ahead of a statement's end -/
theorem ksBind {α β : Type} {Rp : Hp → List Addr → α → β → Prop} {W : L2.St → XK} {e : Ev α} {f : α → Store → RS} {D : Ends} (R : RelS K cl F ms S H) (E : EnvR K F ms σ ρ) (k : KontS K cl F ms (resS (e ρ S) ρ f) D W) :
    tG K cl Rp W e σ H fun x H1 => ∃ F1 m1 a S1, Ext F F1 ms m1 ∧ RelS K cl F1 m1 S1 H1 ∧ EnvR K F1 m1 σ ρ ∧ Rp F1 m1 a x ∧ KontS K cl F1 m1 (f a S1) D W ∧ e ρ S = .ok a S1 := by
  refine ⟨F, ms, ρ, S, R, E, ?_⟩
  cases q : e ρ S with
  | ok a S1 =>
    rw [q] at k
    exact fun F' ms' v H' x R' rp => ⟨F', ms', a, S1, x, R', E.mono x, rp, k.wk x, rfl⟩
  | exc c S1 =>
    rw [q] at k
    exact fun F' ms' H' x R' => k F' ms' σ H' x R' (E.mono x)
  | stuck =>
    rw [q] at k
    exact k
theorem KontS.mono {r : RS} {D D' : Ends} {W : L2.St → XK} (k : KontS K cl F ms r D W) (h1 : ∀ σ H, D.nx σ H → D'.nx σ H) (h2 : ∀ v H, D.rt v H → D'.rt v H) (h3 : ∀ σ H, D.bk σ H → D'.bk σ H) (h4 : ∀ σ H, D.ct σ H → D'.ct σ H) : KontS K cl F ms r D' W := by
  cases r with
  | rt d S' => exact fun F2 m2 v H2 y R q => h2 _ _ (k F2 m2 v H2 y R q)
  | stuck => exact k
  | nx ρ' S' => exact fun F2 m2 v H2 y R q => h1 _ _ (k F2 m2 v H2 y R q)
  | bk ρ' S' => exact fun F2 m2 v H2 y R q => h3 _ _ (k F2 m2 v H2 y R q)
  | ct ρ' S' => exact fun F2 m2 v H2 y R q => h4 _ _ (k F2 m2 v H2 y R q)
  | xc c ρ' S' => exact k
end
section
variable {X : Cx} {cl : Str → Option Addr} {W : L2.St → XK} {a b e : Expr} {es : List Expr} {ea eb ee : EvE} {evs : List EvE} {pos : Pos} {st : Stmt} {sts : List Stmt} {s1 s2 : EvS}
theorem ss_nil : ESs X cl W [] evNx := PSs_wk pss_nil fun D σ H ⟨F, ms, ρ, S, R, E, k⟩ => k F ms σ H (Ext.refl _ _) R E
theorem ss_one (h : ES X cl W st s1) : ESs X cl W [st] s1 := pss_one h
theorem ss_cons (h : ES X cl W st s1) (t : ESs X cl W sts s2) : ESs X cl W (st :: sts) (evSeq s1 s2) := by
  refine PSs_wk (pss_cons h t) fun D σ H hq => ?_
  obtain ⟨F, ms, ρ, S, R, E, k⟩ := hq
  refine ⟨F, ms, ρ, S, R, E, ?_⟩
  unfold evSeq at k
  revert k
  cases s1 ρ S with
  | nx ρ' S' => exact fun k F' ms' σ' H' x R' E' => ⟨F', ms', ρ', S', R', E', k.wk x⟩
  | rt d S' => exact fun k => k
  | bk ρ' S' => exact fun k => k
  | ct ρ' S' => exact fun k => k
  | xc c ρ' S' => exact fun k => k
  | stuck => exact fun k => k
theorem s_set (i : Nat) {x : Str} {p : Pos} (hN : X.N.Nodup) (h : EE X cl W e ee) (hi : X.N[i]? = some x := by rfl) (hx : Loc X.env.scope x := by first | exact Or.inl rfl | exact Or.inr rfl) (hs : swapsWith e (some (.Name x p)) pos.line X.env = pure false := by rfl)
    (hf : X.fn x = true ∨ X.env.scope.names.lookup x = some .local := by first | exact .inl rfl | exact .inr rfl) : ES X cl W (.Assign [.Name x p] e pos) (evSet i ee) := by
  refine PS_wk (ps_set hN hi hx h hs hf) fun D σ H hq => ?_
  obtain ⟨F, ms, ρ, S, R, E, k⟩ := hq
  refine tG_mono (ksBind R E k) fun x H1 ⟨F1, m1, d1, S1, x1, R1, E1, r1, k1, _⟩ => ?_
  exact k1 F1 m1 _ H1 (Ext.refl _ _) R1 (E1.set r1)
theorem s_expr (h : EE X cl W e ee) (hs : swapsWith e none pos.line X.env = pure false := by rfl) : ES X cl W (.Expr e pos) (evDrop ee) := by
  refine PS_wk (ps_expr h hs) fun D σ H hq => ?_
  obtain ⟨F, ms, ρ, S, R, E, k⟩ := hq
  refine tG_mono (ksBind R E k) fun x H1 ⟨F1, m1, d1, S1, x1, R1, E1, r1, k1, _⟩ => ?_
  exact k1 F1 m1 _ H1 (Ext.refl _ _) R1 E1
theorem s_ret (h : EE X cl W e ee) : ES X cl W (.Return (some e) pos) (evRet ee) := by
  refine PS_wk (ps_ret h) fun D σ H hq => ?_
  obtain ⟨F, ms, ρ, S, R, E, k⟩ := hq
  refine tG_mono (ksBind R E k) fun x H1 ⟨F1, m1, d1, S1, x1, R1, E1, r1, k1, _⟩ => ?_
  exact k1 F1 m1 _ H1 (Ext.refl _ _) R1 r1
theorem s_retN : ES X cl W (.Return none pos) evRetN := PS_wk ps_retN fun D σ H ⟨F, ms, ρ, S, R, E, k⟩ => k F ms _ H (Ext.refl _ _) R (by simp only [RepV])
theorem s_pass : ES X cl W (.Pass pos) evNx := PS_wk ps_pass fun D σ H ⟨F, ms, ρ, S, R, E, k⟩ => k F ms σ H (Ext.refl _ _) R E
theorem s_brk : ES X cl W (.Break pos) evBrk := PS_wk ps_break fun D σ H ⟨F, ms, ρ, S, R, E, k⟩ => k F ms σ H (Ext.refl _ _) R E
theorem s_cnt : ES X cl W (.Continue pos) evCnt := PS_wk ps_continue fun D σ H ⟨F, ms, ρ, S, R, E, k⟩ => k F ms σ H (Ext.refl _ _) R E
theorem s_if {c : Expr} {A B : List Stmt} {tc : Ev Bool} (hc : ET X cl W c tc) (ha : ESs X cl W A s1) (hb : ESs X cl W B s2) : ES X cl W (.If c A B pos) (evIf tc s1 s2) := by
  refine PS_wk (ps_if hc ha hb) fun D σ H hq => ?_
  obtain ⟨F, ms, ρ, S, R, E, k⟩ := hq
  refine tG_mono (ksBind R E k) fun x H1 ⟨F1, m1, d1, S1, x1, R1, E1, r1, k1, _⟩ => ?_
  have r1 : x = d1 := r1
  subst r1
  cases x with
  | true => exact ⟨F1, m1, ρ, S1, R1, E1, k1⟩
  | false => exact ⟨F1, m1, ρ, S1, R1, E1, k1⟩

/-! ## while -/
def evWhile (t : Ev Bool) (body : EvS) : Nat → EvS
  | 0 => fun _ _ => .stuck
  | n + 1 => fun ρ S => resS (t ρ S) ρ fun c S' => if c = true then match body ρ S' with
      | .nx ρ' S2 => evWhile t body n ρ' S2
      | .ct ρ' S2 => evWhile t body n ρ' S2
      | .bk ρ' S2 => .nx ρ' S2
      | r => r
    else .nx ρ S'
theorem s_while (n : Nat) {c : Expr} {B : List Stmt} {tc : Ev Bool} (hp : PassesOwn (model X.prog X.w) X.A X.env X.xe) (hc : ET X cl W c tc) (hb : ESs X cl W B s1) : ES X cl W (.While c B [] pos) (evWhile tc s1 n) := by
  refine PS_wk (ps_while hp hc hb) fun D σ H hq => ?_
  obtain ⟨F, ms, ρ, S, R, E, k⟩ := hq
  refine ⟨fun m σ H => ∃ F ms ρ S, RelS X.K cl F ms S H ∧ EnvR X.K F ms σ ρ ∧ KontS X.K cl F ms (evWhile tc s1 m ρ S) D W, ⟨n, F, ms, ρ, S, R, E, k⟩, fun m σ H hm => ?_⟩
  obtain ⟨F, ms, ρ, S, R, E, k⟩ := hm
  cases m with
  | zero => exact k.elim
  | succ m =>
    refine tG_mono (ksBind R E k) fun x H1 ⟨F1, m1, d1, S1, x1, R1, E1, r1, k1, _⟩ => ?_
    have r1 : x = d1 := r1
    subst r1
    cases x with
    | false => exact k1 F1 m1 σ H1 (Ext.refl _ _) R1 E1
    | true =>
      rw [if_pos rfl] at k1 ⊢
      refine ⟨fun σ' H' => ∃ F ms ρ S, RelS X.K cl F ms S H' ∧ EnvR X.K F ms σ' ρ ∧ KontS X.K cl F ms (evWhile tc s1 m ρ S) D W, fun σ' H' h => ⟨m, Nat.lt_succ_self m, h⟩, F1, m1, ρ, S1, R1, E1, ?_⟩
      revert k1
      cases s1 ρ S1 with
      | nx ρ' S' => exact fun k F' ms' σ' H' x R' E' => ⟨F', ms', ρ', S', R', E', k.wk x⟩
      | ct ρ' S' => exact fun k F' ms' σ' H' x R' E' => ⟨F', ms', ρ', S', R', E', k.wk x⟩
      | bk ρ' S' => exact fun k => k
      | rt d S' => exact fun k => k
      | xc c ρ' S' => exact fun k => k
      | stuck => exact fun k => k

/-! ## what is walked -/
inductive Src where
  | frz (xs : List D) | own (k : Nat) (xs : List D)
def Src.items : Src → List D
  | .frz xs => xs
  | .own _ xs => xs
def Src.live : Src → Store → Prop
  | .frz _, _ => True
  | .own k xs, S => S[k]? = some (some (.lst xs))
/-- the iterator yields just these -/
structure ItOk (K : PySem.W.Frag) (cl : Str → Option Addr) (F : Hp) (ms : List Addr) (s : Src) (J : It) : Prop where
  go : ∀ (F' : Hp) (ms' : List Addr) (S' : Store) (H' : Hp) (i : Nat) (d : D), Ext F F' ms ms' → RelS K cl F' ms' S' H' → s.live S' → s.items[i]? = some d →
    J.go i H' ∧ ∀ x H2, J.yld i H' x H2 → ∃ F2, Ext F' F2 ms' ms' ∧ RelS K cl F2 ms' S' H2 ∧ RepV K F2 ms' d x
  stop : ∀ (F' : Hp) (ms' : List Addr) (S' : Store) (H' : Hp) (i : Nat), Ext F F' ms ms' → RelS K cl F' ms' S' H' → s.live S' → s.items.length ≤ i → J.stop i H'
theorem ItOk.mono {K : PySem.W.Frag} {F F' : Hp} {ms ms' : List Addr} {s : Src} {J : It} (h : ItOk K cl F ms s J) (x : Ext F F' ms ms') : ItOk K cl F' ms' s J :=
  ⟨fun F2 m2 S2 H2 i d y R l e => h.go F2 m2 S2 H2 i d (x.trans y) R l e, fun F2 m2 S2 H2 i y R l e => h.stop F2 m2 S2 H2 i (x.trans y) R l e⟩
abbrev EI (X : Cx) (cl : Str → Option Addr) (W : L2.St → XK) (tg iter : Expr) (ev : Ev Src) : Prop := PI X tg iter (tG X.K cl (fun F ms s J => ItOk X.K cl F ms s J) W ev)
theorem PI_wk {tg iter : Expr} {t t' : TI} (h : PI X tg iter t) (w : ∀ σ H Q, t' σ H Q → t σ H Q) : PI X tg iter t' := ⟨fun pins s σ H Q I q => h.run pins s σ H Q I (w _ _ _ q)⟩
def evSrc (e : EvE) : Ev Src := evBind e fun d _ S => match d with
  | .lst xs => .ok (.frz xs) S
  | .tup xs => .ok (.frz xs) S
  | .scr ns => .ok (.frz (ns.map .int)) S
  | .str z => .ok (.frz (z.cps.toList.map fun c => .str ⟨#[c]⟩)) S
  | .ref k => match S[k]? with
    | some (some (.lst xs)) => .ok (.own k xs) S
    | _ => .stuck
  | _ => .stuck
theorem ItOk.lst {K : PySem.W.Frag} {F : Hp} {ms : List Addr} {a : Addr} {vs : List V} {s : Src} (h : ∀ (F' : Hp) (ms' : List Addr) (S' : Store) (H' : Hp), Ext F F' ms ms' → RelS K cl F' ms' S' H' → s.live S' → ∃ vs, SqL K H' a vs ∧ RepL K F' ms' s.items vs) : ItOk K cl F ms s (Itl K a) := by
  refine ⟨fun F' ms' S' H' i d x R l e => ?_, fun F' ms' S' H' i x R l e => ?_⟩
  · obtain ⟨vs, q, r⟩ := h F' ms' S' H' x R l
    obtain ⟨v, hv, rv⟩ := r.get e
    refine ⟨⟨vs, v, q, hv⟩, fun y H2 hy => ?_⟩
    obtain ⟨rfl, hy⟩ := hy
    have := hy vs q
    rw [hv] at this; cases this
    exact ⟨F', Ext.refl _ _, R, rv⟩
  · obtain ⟨vs, q, r⟩ := h F' ms' S' H' x R l
    exact ⟨vs, q, by rw [r.length]; exact e⟩
theorem ItOk.tup {K : PySem.W.Frag} {F : Hp} {ms : List Addr} {a : Addr} {vs : List V} {xs : List D} (q : SqT K F a vs) (r : RepL K F ms xs vs) : ItOk K cl F ms (.frz xs) (Itt K a) := by
  refine ⟨fun F' ms' S' H' i d x R l e => ?_, fun F' ms' S' H' i x R l e => ?_⟩
  · have q' : SqT K H' a vs := Same.seqT R.same (Same.seqT x.same q)
    obtain ⟨v, hv, rv⟩ := (r.mono x).get e
    refine ⟨⟨vs, v, q', hv⟩, fun y H2 hy => ?_⟩
    obtain ⟨rfl, hy⟩ := hy
    have := hy vs q'
    rw [hv] at this; cases this
    exact ⟨F', Ext.refl _ _, R, rv⟩
  · have q' : SqT K H' a vs := Same.seqT R.same (Same.seqT x.same q)
    exact ⟨vs, q', by rw [r.length]; exact e⟩
theorem i_seq {tg : Expr} (h : EE X cl W e ee) : EI X cl W tg e (evSrc ee) := by
  refine ⟨fun pins s σ H Q I hq => ?_⟩
  obtain ⟨F, ms, ρ, S, R, E, k⟩ := id hq
  -- the datum decides which of the library's rules is used
  have key : ∀ d S1, ee ρ S = .ok d S1 → True := fun _ _ _ => trivial
  cases q : ee ρ S with
  | stuck =>
    have k' : Kont X.K cl (fun F ms s J => ItOk X.K cl F ms s J) F ms (evSrc ee ρ S) Q (W σ) := k
    unfold evSrc evBind at k'
    rw [q] at k'
    exact k'.elim
  | exc c S1 =>
    refine (pi_list h).run pins s σ H Q I ⟨F, ms, ρ, S, R, E, ?_⟩
    unfold evSrc evBind at k
    rw [q] at k ⊢
    exact k
  | ok d S1 =>
    have rest : ∀ (P : V → Hp → Prop), (∀ F' ms' v H', Ext F F' ms ms' → RelS X.K cl F' ms' S1 H' → RepV X.K F' ms' d v → P v H') → tE X.K cl W ee σ H P := fun P hP => ⟨F, ms, ρ, S, R, E, by rw [q]; exact hP⟩
    unfold evSrc evBind at k
    rw [q] at k
    simp only [Res.bind] at k
    cases d with
    | lst xs =>
      refine (pi_list h).run pins s σ H Q I (rest _ fun F' ms' v H' x R' r => ?_)
      simp only [RepV] at r
      obtain ⟨a, vs, rfl, ha, ra⟩ := r
      refine ⟨a, rfl, ⟨vs, SqL.of (R'.same _ _ ha)⟩, k F' ms' _ H' x R' (ItOk.lst (vs := vs) fun F2 m2 S2 H2 y R2 _ => ⟨vs, SqL.of (R2.same _ _ (y.same _ _ ha)), ra.mono y⟩)⟩
    | scr ns =>
      refine (pi_list h).run pins s σ H Q I (rest _ fun F' ms' v H' x R' r => ?_)
      simp only [RepV] at r
      obtain ⟨a, rfl, ha⟩ := r
      refine ⟨a, rfl, ⟨_, R'.same.seq ha⟩, k F' ms' _ H' x R' (ItOk.lst (vs := ns.map V.int) fun F2 m2 S2 H2 y R2 _ => ⟨ns.map V.int, R2.same.seq (y.same.seq ha), rep_ints ns⟩)⟩
    | ref j =>
      simp only at k
      split at k
      · rename_i xs hj
        refine (pi_list h).run pins s σ H Q I (rest _ fun F' ms' v H' x R' r => ?_)
        simp only [RepV] at r
        obtain ⟨a, ea, rfl⟩ := r
        have at' : ∀ (F2 : Hp) (m2 : List Addr) (S2 : Store) (H2 : Hp), Ext F' F2 ms' m2 → RelS X.K cl F2 m2 S2 H2 → S2[j]? = some (some (.lst xs)) → ∃ vs, SqL X.K H2 a vs ∧ RepL X.K F2 m2 xs vs := fun F2 m2 S2 H2 y R2 l => by
          obtain ⟨a', a1, a2, vs, a3, a4⟩ := R2.ob j _ l
          rw [y.pre _ _ ea] at a1; cases a1
          exact ⟨vs, SqL.of a3, a4⟩
        obtain ⟨vs, h1, h2⟩ := at' F' ms' S1 H' (Ext.refl _ _) R' hj
        exact ⟨a, rfl, ⟨vs, h1⟩, k F' ms' _ H' x R' (ItOk.lst (vs := vs) fun F2 m2 S2 H2 y R2 l => at' F2 m2 S2 H2 y R2 l)⟩
      · exact k.elim
    | tup xs =>
      refine (pi_tup h).run pins s σ H Q I (rest _ fun F' ms' v H' x R' r => ?_)
      simp only [RepV] at r
      obtain ⟨a, vs, rfl, ha, ra⟩ := r
      exact ⟨a, rfl, ⟨vs, Same.seqT R'.same ha⟩, k F' ms' _ H' x R' (ItOk.tup ha ra)⟩
    | str z =>
      refine (pi_str h).run pins s σ H Q I (rest _ fun F' ms' v H' x R' r => ?_)
      simp only [RepV] at r
      subst r
      refine ⟨z, rfl, k F' ms' _ H' x R' ⟨fun F2 m2 S2 H2 i d y R2 l e => ?_, fun F2 m2 S2 H2 i y R2 l e => ?_⟩⟩
      · have R3 : RelS X.K cl F2 m2 S2 H2 := R2
        have e' : (z.cps.toList.map fun c => D.str ⟨#[c]⟩)[i]? = some d := e
        rw [List.getElem?_map] at e'
        cases hc : z.cps.toList[i]? with
        | none => rw [hc] at e'; cases e'
        | some c =>
          rw [hc] at e'
          cases e'
          have hi : i < z.cps.size := by simpa using (List.getElem?_eq_some_iff.mp hc).1
          refine ⟨hi, fun y2 H3 hy => ?_⟩
          obtain ⟨rfl, c', h1, h2⟩ := hy
          have : c' = c := by
            have h3 : z.cps.toList[i]? = some c' := by rw [Array.getElem?_toList]; exact h1
            rw [hc] at h3
            exact (Option.some.inj h3).symm
          subst this
          exact ⟨F2, Ext.refl _ _, R3, by simp only [RepV]; exact h2⟩
      · have e' : (z.cps.toList.map fun c => D.str ⟨#[c]⟩).length ≤ i := e
        rw [List.length_map, Array.length_toList] at e'
        exact e'
    | _ => exact k.elim
def rangeD (lo : Int) (n : Nat) : List D := (List.range n).map fun (i : Nat) => D.int (lo + (i : Int))
theorem ItOk.rng {K : PySem.W.Frag} {F : Hp} {ms : List Addr} (lo : Int) (n : Nat) : ItOk K cl F ms (.frz (rangeD lo n)) (Itr lo n) := by
  refine ⟨fun F' ms' S' H' i d x R l e => ?_, fun F' ms' S' H' i x R l e => ?_⟩
  · have e' : (rangeD lo n)[i]? = some d := e
    unfold rangeD at e'
    rw [List.getElem?_map] at e'
    by_cases hi : i < n
    · rw [List.getElem?_range hi] at e'
      cases e'
      refine ⟨hi, fun y H2 hy => ?_⟩
      obtain ⟨rfl, hy⟩ := hy
      exact ⟨F', Ext.refl _ _, R, by simp only [RepV]; exact hy⟩
    · rw [List.getElem?_eq_none (by simp; omega)] at e'
      cases e'
  · have e' : (rangeD lo n).length ≤ i := e
    unfold rangeD at e'
    rw [List.length_map, List.length_range] at e'
    exact e'
noncomputable def evRng (evs : List EvE) : Ev Src := evBind (evArgs evs) fun ds _ S => match ds with
  | [.int j] => @ite _ (-(2 ^ 62) ≤ j ∧ j < 2 ^ 62) (Classical.propDecidable _) (.ok (.frz (rangeD 0 j.toNat)) S) .stuck
  | [.int i, .int j] => @ite _ (-(2 ^ 62) ≤ i ∧ i < 2 ^ 62 ∧ -(2 ^ 62) ≤ j ∧ j < 2 ^ 62) (Classical.propDecidable _) (.ok (.frz (rangeD i (j - i).toNat)) S) .stuck
  | _ => .stuck
theorem i_rng1 {tg : Expr} {p : Pos} (hg : Gl X "range") (hm : X.mg "range" = none) (ha : EA X cl W [a] (evArgs [ea])) (hs : starEach [a] X.env = [(false, eval a X.env)] := by rfl) : EI X cl W tg (.Call (.Name "range" p) [a] [] pos) (evRng [ea]) := by
  refine PI_wk (pi_range1 hg hm ha hs) fun σ H Q hq => ?_
  obtain ⟨F, ms, ρ, S, R, E, k⟩ := hq
  refine tG_mono (kbind R E k) fun x H1 ⟨F1, m1, d1, S1, x1, R1, E1, r1, k1, e1⟩ => ?_
  have hl := evArgs_len e1
  match d1, hl with
  | [d], _ =>
    obtain ⟨v, rfl, rv⟩ := rep1 r1
    cases d with
    | int j =>
      simp only [RepV] at rv
      simp only at k1
      split at k1
      · rename_i h
        exact ⟨j, by rw [rv], h.1, h.2, k1 F1 m1 _ H1 (Ext.refl _ _) R1 (ItOk.rng 0 _)⟩
      · exact k1.elim
    | _ => exact k1.elim
theorem i_rng2 {tg : Expr} {p : Pos} (hg : Gl X "range") (hm : X.mg "range" = none) (ha : EA X cl W [a, b] (evArgs [ea, eb])) (hs : starEach [a, b] X.env = [(false, eval a X.env), (false, eval b X.env)] := by rfl) (hs2 : starEach [b] X.env = [(false, eval b X.env)] := by rfl) :
    EI X cl W tg (.Call (.Name "range" p) [a, b] [] pos) (evRng [ea, eb]) := by
  refine PI_wk (pi_range2 hg hm ha hs hs2) fun σ H Q hq => ?_
  obtain ⟨F, ms, ρ, S, R, E, k⟩ := hq
  refine tG_mono (kbind R E k) fun x H1 ⟨F1, m1, d1, S1, x1, R1, E1, r1, k1, e1⟩ => ?_
  have hl := evArgs_len e1
  match d1, hl with
  | [d, d'], _ =>
    obtain ⟨v, w, rfl, rv, rw'⟩ := rep2 r1
    cases d with
    | int i =>
      cases d' with
      | int j =>
        simp only [RepV] at rv rw'
        simp only at k1
        split at k1
        · rename_i h
          exact ⟨i, j, by rw [rv, rw'], h, k1 F1 m1 _ H1 (Ext.refl _ _) R1 (ItOk.rng i _)⟩
        · exact k1.elim
      | _ => exact k1.elim
    | _ => exact k1.elim

/-! ## targets -/
abbrev EvG := D → En → Option En
def gN (i : Nat) : EvG := fun d ρ => some (ρ.set i (some d))
def gAll : List EvG → List D → En → Option En
  | [], [], ρ => some ρ
  | g :: gs, d :: ds, ρ => match g d ρ with
    | some ρ' => gAll gs ds ρ'
    | none => none
  | _, _, _ => none
def gT (gs : List EvG) : EvG := fun d ρ => match d with
  | .tup ds => gAll gs ds ρ
  | _ => none
/-- what a target leaves: the slots is may have changed -/
def Outside (is : List Nat) (σ σ' : L2.St) : Prop := σ'.length = σ.length ∧ ∀ i, i ∉ is → σ'[i]? = σ[i]?
def tGt (K : PySem.W.Frag) (cl : Str → Option Addr) (is : List Nat) (g : EvG) : TG := fun v σ H Q => ∃ F ms S ρ d, RelS K cl F ms S H ∧ EnvR K F ms σ ρ ∧ RepV K F ms d v ∧ match g d ρ with
  | some ρ' => ∀ σ', EnvR K F ms σ' ρ' → Outside is σ σ' → Q σ' H
  | none => False
def tGts (K : PySem.W.Frag) (cl : Str → Option Addr) (is : List Nat) (gs : List EvG) : TGs := fun vs σ H Q => ∃ F ms S ρ ds, RelS K cl F ms S H ∧ EnvR K F ms σ ρ ∧ RepL K F ms ds vs ∧ match gAll gs ds ρ with
  | some ρ' => ∀ σ', EnvR K F ms σ' ρ' → Outside is σ σ' → Q σ' H
  | none => False
abbrev EG (X : Cx) (cl : Str → Option Addr) (tg : Expr) (is : List Nat) (g : EvG) : Prop := PG X tg (tGt X.K cl is g)
abbrev EGs (X : Cx) (cl : Str → Option Addr) (tg : List Expr) (is : List Nat) (g : List EvG) : Prop := PGs X tg (tGts X.K cl is g)
theorem PG_wk {tg : Expr} {t t' : TG} (h : PG X tg t) (w : ∀ v σ H Q, t' v σ H Q → t v σ H Q) : PG X tg t' := ⟨fun pins s σ H v u Q I r q => h.run pins s σ H v u Q I r (w _ _ _ _ q)⟩
theorem PGs_wk {tg : List Expr} {t t' : TGs} (h : PGs X tg t) (w : ∀ v σ H Q, t' v σ H Q → t v σ H Q) : PGs X tg t' := ⟨fun pins s σ H v u Q I r q => h.run pins s σ H v u Q I r (w _ _ _ _ q)⟩
theorem g_name (i : Nat) {x : Str} {p : Pos} (hN : X.N.Nodup) (hi : X.N[i]? = some x := by rfl) (hx : Loc X.env.scope x := by first | exact Or.inl rfl | exact Or.inr rfl) (hf : X.fn x = true ∨ X.env.scope.names.lookup x = some .local := by first | exact .inl rfl | exact .inr rfl) :
    EG X cl (.Name x p) [i] (gN i) := PG_wk (pg_name hN hi hx hf) fun v σ H Q ⟨F, ms, S, ρ, d, R, E, r, k⟩ => k _ (E.set r) ⟨by simp, fun j hj => by rw [List.getElem?_set_ne (fun e => hj (by simp [e]))]⟩
theorem gs_nil : EGs X cl [] [] [] := PGs_wk pgs_nil fun v σ H Q ⟨F, ms, S, ρ, ds, R, E, r, k⟩ => by
  cases ds with
  | nil =>
    simp only [RepL] at r
    exact ⟨r, k σ E ⟨rfl, fun _ _ => rfl⟩⟩
  | cons d ds => exact k.elim
theorem gs_cons {tg : Expr} {tgs : List Expr} {is1 is2 : List Nat} {g : EvG} {gs : List EvG} (h : EG X cl tg is1 g) (t : EGs X cl tgs is2 gs) (hs : (assignEach (tg :: tgs) X.env).map (·.2) = assign tg X.env :: (assignEach tgs X.env).map (·.2) := by rfl) : EGs X cl (tg :: tgs) (is1 ++ is2) (g :: gs) :=
  PGs_wk (pgs_cons h t hs) fun v σ H Q ⟨F, ms, S, ρ, ds, R, E, r, k⟩ => by
    cases ds with
    | nil => exact k.elim
    | cons d ds =>
      simp only [RepL] at r
      obtain ⟨v1, w, rfl, r1, r2⟩ := r
      refine ⟨v1, w, rfl, F, ms, S, ρ, d, R, E, r1, ?_⟩
      simp only [gAll] at k
      cases q : g d ρ with
      | none => rw [q] at k; exact k.elim
      | some ρ' =>
        rw [q] at k
        refine fun σ' E' o1 => ⟨F, ms, S, ρ', ds, R, E', r2, ?_⟩
        revert k
        simp only
        cases gAll gs ds ρ' with
        | none => exact fun k => k
        | some ρ2 => exact fun k σ2 E2 o2 => k σ2 E2 ⟨o2.1.trans o1.1, fun i hi => (o2.2 i fun z => hi (List.mem_append_right _ z)).trans (o1.2 i fun z => hi (List.mem_append_left _ z))⟩
theorem gAll_len : ∀ {gs : List EvG} {ds : List D} {ρ ρ' : En}, gAll gs ds ρ = some ρ' → ds.length = gs.length
  | [], [], _, _, _ => rfl
  | [], _ :: _, _, _, h => by simp [gAll] at h
  | _ :: _, [], _, _, h => by simp [gAll] at h
  | g :: gs, d :: ds, ρ, ρ', h => by
    simp only [gAll] at h
    split at h
    · rw [List.length_cons, List.length_cons, gAll_len h]
    · cases h
theorem g_tup {tgs : List Expr} {j : Nat} {is : List Nat} {gs : List EvG} {n : Nat} (hc : X.calm = true) (h : EGs X cl tgs is gs) (hgs : gs.length = n := by rfl) (hn : (assignEach tgs X.env).length = n := by rfl) (hst : (assignEach tgs X.env).findIdx? (·.1) = none := by rfl) :
    EG X cl (.Tuple tgs j pos) is (gT gs) := PG_wk (pg_tup hc h hn hst) fun v σ H Q ⟨F, ms, S, ρ, d, R, E, r, k⟩ => by
  cases d with
  | tup ds =>
    simp only [RepV] at r
    obtain ⟨a, vs, rfl, ha, ra⟩ := r
    have k' : match gAll gs ds ρ with | some ρ' => ∀ σ', EnvR X.K F ms σ' ρ' → Outside is σ σ' → Q σ' H | none => False := k
    refine ⟨a, vs, rfl, Same.seqT R.same ha, ?_, F, ms, S, ρ, ds, R, E, ra, k'⟩
    cases q : gAll gs ds ρ with
    | none => rw [q] at k'; exact k'.elim
    | some ρ' => rw [ra.length, gAll_len q, hgs]
  | _ => exact k.elim
/-- target = value -/
def evAsg (g : EvG) (e : EvE) : EvS := fun ρ S => resS (e ρ S) ρ fun d S' => match g d ρ with
  | some ρ' => .nx ρ' S'
  | none => .stuck
theorem s_asg {tg : Expr} {is : List Nat} {g : EvG} (hg : EG X cl tg is g) (h : EE X cl W e ee) (hs : swapsWithSole [tg] e pos.line X.env = pure false := by rfl) (hw : swappedStores [tg] e X.env = pure none := by rfl)
    (h1 : (assignEach [tg] X.env).map (·.2) = [assign tg X.env] := by rfl) : ES X cl W (.Assign [tg] e pos) (evAsg g ee) := by
  refine PS_wk (ps_asg h hg hs hw h1) fun D σ H hq => ?_
  obtain ⟨F, ms, ρ, S, R, E, k⟩ := hq
  refine tG_mono (ksBind R E k) fun x H1 ⟨F1, m1, d1, S1, x1, R1, E1, r1, k1, _⟩ => ?_
  refine ⟨F1, m1, S1, ρ, d1, R1, E1, r1, ?_⟩
  revert k1
  cases g d1 ρ with
  | none => exact fun k => k
  | some ρ' => exact fun k σ' E' _ => k F1 m1 σ' H1 (Ext.refl _ _) R1 E'

/-! ## for -/
open Classical in
noncomputable def forL (s : Src) (g : EvG) (body : EvS) : List D → En → Store → RS
  | [], ρ, S => if s.live S then .nx ρ S else .stuck
  | x :: xs, ρ, S => if s.live S then match g x ρ with
      | none => .stuck
      | some ρ1 => match body ρ1 S with
        | .nx ρ' S' => forL s g body xs ρ' S'
        | .ct ρ' S' => forL s g body xs ρ' S'
        | .bk ρ' S' => .nx ρ' S'
        | r => r
    else .stuck
noncomputable def evFor (g : EvG) (src : Ev Src) (body : EvS) : EvS := fun ρ S => resS (src ρ S) ρ fun s S' => forL s g body s.items ρ S'
theorem s_for {tg iter : Expr} {B : List Stmt} {is : List Nat} {g : EvG} {src : Ev Src} (hp : PassesOwn (model X.prog X.w) X.A X.env X.xe) (hc : X.calm = true) (hi : EI X cl W tg iter src) (hg : EG X cl tg is g) (hb : ESs X cl W B s1)
    (hs : ∀ x, foldedSetIterable iter X.env x = pure x := by intro _; rfl) : ES X cl W (.For tg iter B [] pos) (evFor g src s1) := by
  refine PS_wk (ps_for hp hc hi hg hb hs) fun D σ H hq => ?_
  obtain ⟨F, ms, ρ, S, R, E, k⟩ := hq
  refine tG_mono (ksBind R E k) fun J H1 ⟨F1, m1, s, S1, x1, R1, E1, r1, k1, _⟩ => ?_
  refine ⟨fun i m σ H => ∃ F2 m2 ρ S, Ext F1 F2 m1 m2 ∧ RelS X.K cl F2 m2 S H ∧ EnvR X.K F2 m2 σ ρ ∧ m = s.items.length - i ∧ i ≤ s.items.length ∧ KontS X.K cl F2 m2 (forL s g s1 (s.items.drop i) ρ S) D W,
    ⟨s.items.length, F1, m1, ρ, S1, Ext.refl _ _, R1, E1, by simp, Nat.zero_le _, k1⟩, fun i m σ H hm => ?_⟩
  obtain ⟨F2, m2, ρ, S, x2, R2, E2, rfl, hil, k2⟩ := hm
  by_cases hi : i < s.items.length
  · rw [List.drop_eq_getElem_cons hi] at k2
    unfold forL at k2
    split at k2
    · rename_i hl
      obtain ⟨hgo, hyl⟩ := r1.go F2 m2 S H i _ x2 R2 hl (List.getElem?_eq_getElem hi)
      refine .inr ⟨hgo, fun σ' H' => ∃ F3 m3 ρ S, Ext F1 F3 m1 m3 ∧ RelS X.K cl F3 m3 S H' ∧ EnvR X.K F3 m3 σ' ρ ∧ KontS X.K cl F3 m3 (forL s g s1 (s.items.drop (i + 1)) ρ S) D W, fun σ' H' ⟨F3, m3, ρ3, S3, x3, R3, E3, k3⟩ => ⟨s.items.length - (i + 1), by omega, F3, m3, ρ3, S3, x3, R3, E3, rfl, hi, k3⟩, fun x H' hy => ?_⟩
      obtain ⟨F3, x3, R3, rx⟩ := hyl x H' hy
      refine ⟨F3, m2, S, ρ, _, R3, E2.mono x3, rx, ?_⟩
      revert k2
      cases g s.items[i] ρ with
      | none => exact fun k => k
      | some ρ1 =>
        intro k2 σ1 E3 _
        refine ⟨F3, m2, ρ1, S, R3, E3, ?_⟩
        simp only at k2
        have k3 := k2.wk x3
        revert k3
        cases s1 ρ1 S with
        | nx ρ' S' => exact fun k F' ms' σ' H' y R' E' => ⟨F', ms', ρ', S', x2.trans (x3.trans y), R', E', k.wk y⟩
        | ct ρ' S' => exact fun k F' ms' σ' H' y R' E' => ⟨F', ms', ρ', S', x2.trans (x3.trans y), R', E', k.wk y⟩
        | bk ρ' S' => exact fun k => k
        | rt d S' => exact fun k => k
        | xc c ρ' S' => exact fun k => k
        | stuck => exact fun k => k
    · exact k2.elim
  · rw [List.drop_eq_nil_of_le (by omega)] at k2
    unfold forL at k2
    split at k2
    · rename_i hl
      exact .inl ⟨r1.stop F2 m2 S H i x2 R2 hl (by omega), k2 F2 m2 σ H (Ext.refl _ _) R2 E2⟩
    · exact k2.elim
end
end Ev

namespace Ev
open PySem PySem.Spec L2

/-! ## list comprehensions -/
def wipeE (ρ : En) : List Nat → En
  | [] => ρ
  | v :: vs => (wipeE ρ vs).set v none
open Classical in
noncomputable def lcL (s : Src) (g : EvG) (tt : Ev Bool) (elt : EvE) (ρw : En) (n : Nat) : List D → Store → Option Store
  | [], S => if s.live S then some S else none
  | x :: xs, S => if s.live S then match g x ρw with
      | none => none
      | some ρ2 => match tt ρ2 S with
        | .ok true S1 => match elt ρ2 S1 with
          | .ok d S2 => match S2[n]? with
            | some (some (.lst acc)) => if acc.length < sizeLine then lcL s g tt elt ρw n xs (S2.set n (some (.lst (acc ++ [d])))) else none
            | _ => none
          | _ => none
        | .ok false S1 => lcL s g tt elt ρw n xs S1
        | _ => none
    else none
open Classical in
noncomputable def lcEnd (S1 : Store) (r : Option Store) : Res D := match r with
  | none => .stuck
  | some S2 => match S2[S1.length]? with
    | some (some (.lst ds)) => if S2.take S1.length = S1 ∧ refsL S1.length ds = true then .ok (.lst ds) S1 else .ok (.lst ds) (S2.set S1.length none)
    | _ => .stuck
/-- .. a list of the store -/
def lcEndO (S1 : Store) (r : Option Store) : Res D := match r with
  | none => .stuck
  | some S2 => .ok (.ref S1.length) S2
noncomputable def evLc (src : Ev Src) (g : EvG) (tt : Ev Bool) (elt : EvE) (vs : List Nat) : EvE := evBind src fun s ρ S1 => lcEnd S1 (lcL s g tt elt (wipeE ρ vs) S1.length s.items (S1 ++ [some (.lst [])]))
noncomputable def evLcO (src : Ev Src) (g : EvG) (tt : Ev Bool) (elt : EvE) (vs : List Nat) : EvE := evBind src fun s ρ S1 => lcEndO S1 (lcL s g tt elt (wipeE ρ vs) S1.length s.items (S1 ++ [some (.lst [])]))
theorem wipe_at (σ : L2.St) (i : Nat) : ∀ vs : List Nat, i ∈ vs → i < σ.length → (wipe σ vs)[i]? = some none
  | [], h, _ => by cases h
  | v :: vs, h, hl => by
    unfold wipe
    by_cases hv : v = i
    · subst hv
      rw [List.getElem?_set_self (by rw [wipe_length]; exact hl)]
    · rw [List.getElem?_set_ne hv]
      rcases List.mem_cons.mp h with e | h
      · exact absurd e.symm hv
      · exact wipe_at σ i vs h hl
theorem wipe_eq {σ σ' : L2.St} {is vs : List Nat} (h : Outside is (wipe σ vs) σ') (hi : ∀ i ∈ is, i ∈ vs) : wipe σ' vs = wipe σ vs := by
  have hl : σ'.length = σ.length := by rw [h.1, wipe_length]
  apply List.ext_getElem?
  intro i
  by_cases hv : i ∈ vs
  · by_cases hlt : i < σ.length
    · rw [wipe_at σ' i vs hv (by omega), wipe_at σ i vs hv hlt]
    · rw [List.getElem?_eq_none (by rw [wipe_length]; omega), List.getElem?_eq_none (by rw [wipe_length]; omega)]
  · rw [wipe_out hv, h.2 i (fun z => hv (hi i z))]
theorem EnvR.wipe {K : PySem.W.Frag} {F : Hp} {ms : List Addr} {σ : L2.St} {ρ : En} (h : EnvR K F ms σ ρ) : ∀ vs : List Nat, EnvR K F ms (L2.wipe σ vs) (wipeE ρ vs)
  | [] => h
  | v :: vs => by
    have ih := EnvR.wipe h vs
    unfold L2.wipe wipeE
    refine ⟨by rw [List.length_set, List.length_set]; exact ih.1, fun i d e => ?_⟩
    by_cases hv : v = i
    · subst hv
      by_cases hl : v < (wipeE ρ vs).length
      · rw [List.getElem?_set_self hl] at e; cases e
      · rw [List.getElem?_eq_none (by simpa using hl)] at e; cases e
    · rw [List.getElem?_set_ne hv] at e ⊢
      exact ih.2 i d e
def evTrue : Ev Bool := fun _ S => .ok true S
abbrev ETs (X : Cx) (cl : Str → Option Addr) (W : L2.St → XK) (ifs : List Expr) (tt : Ev Bool) : Prop := PTs X ifs (tT X.K cl W tt)
theorem PTs_wk {X : Cx} {e : List Expr} {t t' : TT} (h : PTs X e t) (w : ∀ σ H Q, t' σ H Q → t σ H Q) : PTs X e t' := ⟨fun pins s σ H Q I q => h.run pins s σ H Q I (w _ _ _ q)⟩
section
variable {X : Cx} {cl : Str → Option Addr} {W : L2.St → XK}
theorem ts_nil : ETs X cl W [] evTrue := PTs_wk pts_nil fun σ H Q ⟨F, ms, ρ, S, R, E, k⟩ => k F ms true H (Ext.refl _ _) R rfl
theorem ts_one {c : Expr} {tt : Ev Bool} (h : ET X cl W c tt) : ETs X cl W [c] tt := pts_one h
/-- the reading of a comprehension -/
theorem lc_read {src : Ev Src} {g : EvG} {is : List Nat} {tt : Ev Bool} {elt : EvE} {vs : List Nat} (fin : Store → Option Store → Res D) (his : ∀ i ∈ is, i ∈ vs)
    (hfin : ∀ (F1 : Hp) (m1 : List Addr) (S1 : Store) (H1 : Hp) (D : Addr) (F2 : Hp) (m2 : List Addr) (S2 : Store) (H2 : Hp) (Q : VK) (W' : XK), RelS X.K cl F1 m1 S1 H1 → H1 D = none → Ext F1 F2 (m1 ++ [D]) m2 → RelS X.K cl F2 m2 S2 H2 → (m1 ++ [D])[S1.length]? = some D →
      Kont X.K cl (fun F ms d v => RepV X.K F ms d v) F1 m1 (fin S1 (some S2)) Q W' → Q (.ref D) H2)
    (hnone : ∀ S1, fin S1 none = .stuck) {σ : L2.St} {H : Hp} {Q : VK}
    (h : tE X.K cl W (evBind src fun s ρ S1 => fin S1 (lcL s g tt elt (wipeE ρ vs) S1.length s.items (S1 ++ [some (.lst [])]))) σ H Q) :
    tLc (tG X.K cl (fun F ms s J => ItOk X.K cl F ms s J) W src) (tGt X.K cl is g) (tT X.K cl (fun _ => E0) tt) (tE X.K cl (fun _ => E0) elt) vs σ H Q := by
  obtain ⟨F, ms, ρ, S, R, E, k⟩ := h
  refine tG_mono (kbind R E k) fun J H1 ⟨F1, m1, s, S1, x1, R1, E1, r1, k1, _⟩ D hD => ?_
  obtain ⟨Ra, xa, ata⟩ := R1.alloc (u := .lst []) (o := .lst []) hD ⟨[], upd_same, RepL.nil⟩
  generalize hf : lcL s g tt elt (wipeE ρ vs) S1.length s.items (S1 ++ [some (.lst [])]) = fn at k1
  cases fn with
  | none => rw [hnone] at k1; exact k1.elim
  | some Sf =>
  refine ⟨fun i m H => ∃ F2 m2 S2, Ext F1 F2 (m1 ++ [D]) m2 ∧ RelS X.K cl F2 m2 S2 H ∧ m = s.items.length - i ∧ i ≤ s.items.length ∧ lcL s g tt elt (wipeE ρ vs) S1.length (s.items.drop i) S2 = some Sf,
    ⟨s.items.length, F1, _, _, Ext.refl _ _, Ra, by simp, Nat.zero_le _, hf⟩, fun i m H hm => ?_⟩
  obtain ⟨F2, m2, S2, x2, R2, rfl, hil, k2⟩ := hm
  have x12 : Ext F1 F2 m1 m2 := xa.trans x2
  by_cases hi : i < s.items.length
  · rw [List.drop_eq_getElem_cons hi] at k2
    unfold lcL at k2
    split at k2
    · rename_i hl
      obtain ⟨hgo, hyl⟩ := r1.go F2 m2 S2 H i _ x12 R2 hl (List.getElem?_eq_getElem hi)
      refine .inr ⟨hgo, fun H' => ∃ F3 m3 S3, Ext F1 F3 (m1 ++ [D]) m3 ∧ RelS X.K cl F3 m3 S3 H' ∧ lcL s g tt elt (wipeE ρ vs) S1.length (s.items.drop (i + 1)) S3 = some Sf, fun H' ⟨F3, m3, S3, x3, R3, k3⟩ => ⟨s.items.length - (i + 1), by omega, F3, m3, S3, x3, R3, rfl, hi, k3⟩, fun x H' hy => ?_⟩
      obtain ⟨F3, x3, R3, rx⟩ := hyl x H' hy
      refine ⟨F3, m2, S2, wipeE ρ vs, _, R3, ((E1.mono x12).mono x3).wipe vs, rx, ?_⟩
      revert k2
      cases g s.items[i] (wipeE ρ vs) with
      | none => exact fun k => by cases k
      | some ρ2 =>
        intro k2 σ2 E3 o2
        simp only at k2
        refine ⟨wipe_eq o2 his, F3, m2, ρ2, S2, R3, E3, ?_⟩
        revert k2
        cases tt ρ2 S2 with
        | stuck => exact fun k => by cases k
        | exc c S3 => exact fun k => by cases k
        | ok b S3 =>
          intro k2 F4 m4 b' H4 x4 R4 hb
          have hb : b' = b := hb
          subst hb
          cases b' with
          | false =>
            rw [if_neg Bool.false_ne_true]
            exact ⟨F4, m4, S3, x2.trans (x3.trans x4), R4, k2⟩
          | true =>
            rw [if_pos rfl]
            refine ⟨F4, m4, ρ2, S3, R4, E3.mono x4, ?_⟩
            simp only at k2
            revert k2
            cases elt ρ2 S3 with
            | stuck => exact fun k => by cases k
            | exc c S3 => exact fun k => by cases k
            | ok d S4 =>
              intro k2 F5 m5 v H5 x5 R5 rv
              simp only at k2
              split at k2
              · rename_i acc hacc
                split at k2
                · rename_i hz
                  have xx : Ext F1 F5 (m1 ++ [D]) m5 := x2.trans (x3.trans (x4.trans x5))
                  have hD5 : m5[S1.length]? = some D := xx.pre _ _ ata
                  obtain ⟨a', a1, a2, vs5, a3, a4⟩ := R5.ob _ _ hacc
                  rw [hD5] at a1; cases a1
                  refine ⟨vs5, a3, by rw [a4.length]; exact hz, F5, m5, _, xx, ?_, k2⟩
                  exact R5.write hacc hD5 ⟨_, upd_same, a4.append (RepL.cons rv RepL.nil)⟩
                · cases k2
              · cases k2
    · cases k2
  · rw [List.drop_eq_nil_of_le (by omega)] at k2
    unfold lcL at k2
    split at k2
    · rename_i hl
      cases k2
      exact .inl ⟨r1.stop F2 m2 _ H i x12 R2 hl (by omega), hfin F1 m1 S1 H1 D F2 m2 _ H Q (W σ) R1 hD x2 R2 ata k1⟩
    · cases k2
theorem fin_lc (F1 : Hp) (m1 : List Addr) (S1 : Store) (H1 : Hp) (D : Addr) (F2 : Hp) (m2 : List Addr) (S2 : Store) (H2 : Hp) (Q : VK) (W' : XK) (R1 : RelS X.K cl F1 m1 S1 H1) (hD : H1 D = none) (x : Ext F1 F2 (m1 ++ [D]) m2) (R2 : RelS X.K cl F2 m2 S2 H2) (ata : (m1 ++ [D])[S1.length]? = some D)
    (k : Kont X.K cl (fun F ms d v => RepV X.K F ms d v) F1 m1 (lcEnd S1 (some S2)) Q W') : Q (.ref D) H2 := by
  have pre1 : ∀ (k : Nat) (a : Addr), m1[k]? = some a → m2[k]? = some a := fun k a e => x.pre k a (by rw [List.getElem?_append_left (List.getElem?_eq_some_iff.mp e).1]; exact e)
  have hD2 : m2[S1.length]? = some D := x.pre _ _ ata
  unfold lcEnd at k
  simp only at k
  split at k
  · rename_i ds hds
    obtain ⟨a', a1, a2, vs, a3, a4⟩ := R2.ob _ _ hds
    rw [hD2] at a1; cases a1
    obtain ⟨Rf, xf⟩ := R2.toFrozen hds hD2 a3
    have xa : Ext F1 (upd F2 D (.lst vs)) m1 m2 := ⟨x.same.trans xf.same, pre1⟩
    have hrep : RepV X.K (upd F2 D (.lst vs)) m2 (.lst ds) (.ref D) := by simp only [RepV]; exact ⟨D, vs, rfl, upd_same, a4.mono xf⟩
    split at k
    · rename_i h
      have et : (S2.set S1.length none).take S1.length = S1 := by
        rw [List.take_set_of_le (Nat.le_refl _), h.1]
      have T := R1.trunc Rf xa (by rw [et]; exact R1.refs)
      rw [et] at T
      refine k _ m1 _ H2 (Ext.ofSame xa.same m1) T (hrep.narrow pre1 ?_)
      simp only [refsB]
      rw [R1.len]; exact h.2
    · exact k _ m2 _ H2 xa Rf hrep
  · exact k.elim
theorem fin_lcO (F1 : Hp) (m1 : List Addr) (S1 : Store) (H1 : Hp) (D : Addr) (F2 : Hp) (m2 : List Addr) (S2 : Store) (H2 : Hp) (Q : VK) (W' : XK) (R1 : RelS X.K cl F1 m1 S1 H1) (hD : H1 D = none) (x : Ext F1 F2 (m1 ++ [D]) m2) (R2 : RelS X.K cl F2 m2 S2 H2) (ata : (m1 ++ [D])[S1.length]? = some D)
    (k : Kont X.K cl (fun F ms d v => RepV X.K F ms d v) F1 m1 (lcEndO S1 (some S2)) Q W') : Q (.ref D) H2 := by
  have pre1 : ∀ (k : Nat) (a : Addr), m1[k]? = some a → m2[k]? = some a := fun k a e => x.pre k a (by rw [List.getElem?_append_left (List.getElem?_eq_some_iff.mp e).1]; exact e)
  exact k F2 m2 _ H2 ⟨x.same, pre1⟩ R2 (by simp only [RepV]; exact ⟨D, x.pre _ _ ata, rfl⟩)
section
variable {elt tg iter : Expr} {ifs : List Expr} {scope : Scope} {own : List (Str × Nat)} {is : List Nat} {pos spos py : Pos} {src : Ev Src} {g : EvG} {tt : Ev Bool} {ee : EvE} {i : Nat} {y : Str}
theorem e_lc (own : List (Str × Nat)) (hc : X.calm = true) (hN : X.N.Nodup) (hi : EI X cl W tg iter src) (ok : BlkOk X.N X.env.scope scope own) (hg : ∀ (s : Shared) (H : Hp) (C : Addr) (c : List (Str × Addr)) (fp : List Addr), EG (X.blk s H scope (compEnvC scope c C X.env) fp) cl tg is g)
    (ht : ∀ (s : Shared) (H : Hp) (C : Addr) (c : List (Str × Addr)) (fp : List Addr), ETs (X.blk s H scope (compEnvC scope c C X.env) fp) cl (fun _ => E0) ifs tt)
    (he : ∀ (s : Shared) (H : Hp) (C : Addr) (c : List (Str × Addr)) (fp : List Addr), EE (X.blk s H scope (compEnvC scope c C X.env) fp) cl (fun _ => E0) elt ee) (his : ∀ i ∈ is, i ∈ own.map (·.2) := by decide) (hs : ∀ x, foldedSetIterable iter X.env x = pure x := by intro _; rfl) :
    EE X cl W (.ListComp elt [⟨tg, iter, ifs, 0⟩] scope pos) (evLc src g tt ee (own.map (·.2))) :=
  PE_wk (pe_lc hc hN hi ok hg ht he hs) fun σ H Q h => lc_read lcEnd his fin_lc (fun _ => rfl) h
theorem e_lcO (own : List (Str × Nat)) (hc : X.calm = true) (hN : X.N.Nodup) (hi : EI X cl W tg iter src) (ok : BlkOk X.N X.env.scope scope own) (hg : ∀ (s : Shared) (H : Hp) (C : Addr) (c : List (Str × Addr)) (fp : List Addr), EG (X.blk s H scope (compEnvC scope c C X.env) fp) cl tg is g)
    (ht : ∀ (s : Shared) (H : Hp) (C : Addr) (c : List (Str × Addr)) (fp : List Addr), ETs (X.blk s H scope (compEnvC scope c C X.env) fp) cl (fun _ => E0) ifs tt)
    (he : ∀ (s : Shared) (H : Hp) (C : Addr) (c : List (Str × Addr)) (fp : List Addr), EE (X.blk s H scope (compEnvC scope c C X.env) fp) cl (fun _ => E0) elt ee) (his : ∀ i ∈ is, i ∈ own.map (·.2) := by decide) (hs : ∀ x, foldedSetIterable iter X.env x = pure x := by intro _; rfl) :
    EE X cl W (.ListComp elt [⟨tg, iter, ifs, 0⟩] scope pos) (evLcO src g tt ee (own.map (·.2))) :=
  PE_wk (pe_lc hc hN hi ok hg ht he hs) fun σ H Q h => lc_read lcEndO his fin_lcO (fun _ => rfl) h
theorem s_setLc (i : Nat) (own : List (Str × Nat)) (hc : X.calm = true) (hN : X.N.Nodup) (hi : EI X cl W tg iter src) (ok : BlkOk X.N X.env.scope scope own) (hg : ∀ (s : Shared) (H : Hp) (C : Addr) (c : List (Str × Addr)) (fp : List Addr), EG (X.blk s H scope (compEnvC scope c C X.env) fp) cl tg is g)
    (ht : ∀ (s : Shared) (H : Hp) (C : Addr) (c : List (Str × Addr)) (fp : List Addr), ETs (X.blk s H scope (compEnvC scope c C X.env) fp) cl (fun _ => E0) ifs tt)
    (he : ∀ (s : Shared) (H : Hp) (C : Addr) (c : List (Str × Addr)) (fp : List Addr), EE (X.blk s H scope (compEnvC scope c C X.env) fp) cl (fun _ => E0) elt ee)
    (hsw : swapsWith (.ListComp elt [⟨tg, iter, ifs, 0⟩] scope pos) (some (.Name y py)) spos.line X.env = pure true)
    (hy : X.N[i]? = some y := by rfl) (hyl : X.env.scope.names.lookup y = some .local := by rfl)
    (his : ∀ i ∈ is, i ∈ own.map (·.2) := by decide) (hs : ∀ x, foldedSetIterable iter X.env x = pure x := by intro _; rfl) :
    ES X cl W (.Assign [.Name y py] (.ListComp elt [⟨tg, iter, ifs, 0⟩] scope pos) spos) (evSet i (evLc src g tt ee (own.map (·.2)))) :=
  PS_wk (ps_setLc hc hN hy hyl hsw hi ok hg ht he hs) fun D σ H ⟨F, ms, ρ, S, R, E, k⟩ => lc_read lcEnd his fin_lc (fun _ => rfl)
    (tG_mono (ksBind R E k) fun x H1 ⟨F1, m1, d1, S1, x1, R1, E1, r1, k1, _⟩ => k1 F1 m1 _ H1 (Ext.refl _ _) R1 (E1.set r1))
theorem s_setLcO (i : Nat) (own : List (Str × Nat)) (hc : X.calm = true) (hN : X.N.Nodup) (hi : EI X cl W tg iter src) (ok : BlkOk X.N X.env.scope scope own) (hg : ∀ (s : Shared) (H : Hp) (C : Addr) (c : List (Str × Addr)) (fp : List Addr), EG (X.blk s H scope (compEnvC scope c C X.env) fp) cl tg is g)
    (ht : ∀ (s : Shared) (H : Hp) (C : Addr) (c : List (Str × Addr)) (fp : List Addr), ETs (X.blk s H scope (compEnvC scope c C X.env) fp) cl (fun _ => E0) ifs tt)
    (he : ∀ (s : Shared) (H : Hp) (C : Addr) (c : List (Str × Addr)) (fp : List Addr), EE (X.blk s H scope (compEnvC scope c C X.env) fp) cl (fun _ => E0) elt ee)
    (hsw : swapsWith (.ListComp elt [⟨tg, iter, ifs, 0⟩] scope pos) (some (.Name y py)) spos.line X.env = pure true)
    (hy : X.N[i]? = some y := by rfl) (hyl : X.env.scope.names.lookup y = some .local := by rfl)
    (his : ∀ i ∈ is, i ∈ own.map (·.2) := by decide) (hs : ∀ x, foldedSetIterable iter X.env x = pure x := by intro _; rfl) :
    ES X cl W (.Assign [.Name y py] (.ListComp elt [⟨tg, iter, ifs, 0⟩] scope pos) spos) (evSet i (evLcO src g tt ee (own.map (·.2)))) :=
  PS_wk (ps_setLc hc hN hy hyl hsw hi ok hg ht he hs) fun D σ H ⟨F, ms, ρ, S, R, E, k⟩ => lc_read lcEndO his fin_lcO (fun _ => rfl)
    (tG_mono (ksBind R E k) fun x H1 ⟨F1, m1, d1, S1, x1, R1, E1, r1, k1, _⟩ => k1 F1 m1 _ H1 (Ext.refl _ _) R1 (E1.set r1))
end
end
end Ev

namespace Ev
open PySem PySem.Spec L2

section
variable {K : PySem.W.Frag} {cl : Str → Option Addr}
theorem ok_len : CallOk K cl (fun xs H Q => ∃ x n, xs = [x] ∧ LenV K x H n ∧ Q (.int n) H) opLen := fun F ms S H xs ds Q W' R r k => by
  match ds, r, k with
  | [], _, k => exact k.elim
  | _ :: _ :: _, _, k => exact absurd k (by intro k; exact (show False by
      revert k
      unfold opLen
      split <;> first | (rename_i h; cases h; done) | exact fun k => k.elim | skip))
  | [d], r, k =>
    obtain ⟨v, rfl, rv⟩ := rep1 r
    have lists : (match lstOf S d with
      | some xs => Res.ok (D.int xs.length) S
      | none => .stuck) = opLen [d] S → ∃ x n, [v] = [x] ∧ LenV K x H n ∧ Q (.int n) H := fun q => by
      rw [← q] at k
      split at k
      · rename_i xs hx
        obtain ⟨a, vs, rfl, ha, ra⟩ := lstOf_rep R rv hx
        exact ⟨_, xs.length, rfl, .inl ⟨vs, SqL.of ha, ra.length.symm⟩, kNow R (by simp only [RepV]) k⟩
      · exact k.elim
    cases d with
    | str z =>
      simp only [RepV] at rv
      subst rv
      simp only [opLen] at k
      split at k
      · rename_i hz
        exact ⟨_, z.length, rfl, ⟨hz, rfl⟩, kNow R (by simp only [RepV]) k⟩
      · exact k.elim
    | tup xs =>
      simp only [RepV] at rv
      obtain ⟨a, vs, rfl, ha, ra⟩ := rv
      exact ⟨_, xs.length, rfl, .inr ⟨vs, Same.seqT R.same ha, ra.length.symm⟩, kNow R (by simp only [RepV]) k⟩
    | scr ns =>
      simp only [RepV] at rv
      obtain ⟨a, rfl, ha⟩ := rv
      exact ⟨_, ns.length, rfl, .inl ⟨_, R.same.seq ha, (List.length_map _).symm⟩, kNow R (by simp only [RepV]) k⟩
    | _ => exact lists rfl

/-! ## isinstance -/
def tyName (S : Store) : D → Option String
  | .non => some "NoneType"
  | .bl _ => some "bool"
  | .int _ => some "int"
  | .str _ => some "str"
  | .tup _ => some "tuple"
  | .lst _ => some "list"
  | .scr _ => some "list"
  | .ref k => match S[k]? with
    | some (some (.lst _)) => some "list"
    | some (some (.dct _)) => some "dict"
    | _ => none
theorem tyName_ok {F : Hp} {ms : List Addr} {S : Store} {H : Hp} {d : D} {v : V} {n : String} (R : RelS K cl F ms S H) (r : RepV K F ms d v) (h : tyName S d = some n) : TyX K H v (.type n) := by
  cases d with
  | non => simp only [RepV] at r; subst r; simp only [tyName, Option.some.injEq] at h; subst h; exact .base .non
  | bl b => simp only [RepV] at r; subst r; simp only [tyName, Option.some.injEq] at h; subst h; exact .base (.bl b)
  | int b => simp only [RepV] at r; subst r; simp only [tyName, Option.some.injEq] at h; subst h; exact .base (.int b)
  | str b => simp only [RepV] at r; subst r; simp only [tyName, Option.some.injEq] at h; subst h; exact .base (.str b)
  | tup ds =>
    simp only [RepV] at r
    obtain ⟨a, vs, rfl, ha, ra⟩ := r
    simp only [tyName, Option.some.injEq] at h; subst h
    rcases Same.seqT R.same ha with (q | ⟨o, q⟩) | ⟨o, its, m, hk, hc, _⟩
    · exact .base (.tup q)
    · exact .fTuple q
    · exact .kTuple hk hc
  | lst ds =>
    simp only [RepV] at r
    obtain ⟨a, vs, rfl, ha, ra⟩ := r
    simp only [tyName, Option.some.injEq] at h; subst h
    exact .base (.lst (R.same _ _ ha))
  | scr ns =>
    simp only [RepV] at r
    obtain ⟨a, rfl, ha⟩ := r
    simp only [tyName, Option.some.injEq] at h; subst h
    rcases R.same.seq ha with (q | ⟨o, q⟩) | ⟨o, its, m, hk, hc, _⟩
    · exact .base (.lst q)
    · exact .base (.frz q)
    · exact .kList hk hc
  | ref k =>
    simp only [tyName] at h
    simp only [RepV] at r
    obtain ⟨a, ea, rfl⟩ := r
    split at h
    · rename_i xs hs
      cases h
      obtain ⟨a', a1, a2, vs, a3, a4⟩ := R.ob k _ hs
      rw [ea] at a1; cases a1
      exact .base (.lst a3)
    · rename_i xs hs
      cases h
      obtain ⟨a', a1, a2, vs, a3, a4⟩ := R.ob k _ hs
      rw [ea] at a1; cases a1
      exact .base (.dK a3)
    · cases h
end
def evIsI (T : String) (e : EvE) : EvE := evBind e fun d _ S => match tyName S d with
  | some n => match kitB n T with
    | some b => .ok (.bl b) S
    | none => .stuck
  | none => .stuck
section
variable {X : Cx} {cl : Str → Option Addr} {W : L2.St → XK} {a b e : Expr} {es : List Expr} {ea eb ee : EvE} {evs : List EvE} {pos p q : Pos}
theorem e_len (hg : Gl X "len") (hm : X.mg "len" = none) (ha : EA X cl W (e :: es) (evArgs evs)) (he : starEach (e :: es) X.env = (false, eval e X.env) :: starEach es X.env := by rfl) (hpl : (backTo pos (starEach es X.env)).any (·.1) = false := by rfl) :
    EE X cl W (.Call (.Name "len" p) (e :: es) [] pos) (evB opLen evs) := e_blt (pe_callB call_len hg hm PySem.boot_len ha (by decide) (by decide) he hpl) ok_len rfl
theorem boot_isi : bootBuiltins "isinstance" = some (.builtin "isinstance") := by decide +kernel
theorem e_isi {T : Str} {n : String} (hg : Gl X "isinstance") (hm : X.mg "isinstance" = none) (hg2 : Gl X T) (hm2 : X.mg T = none) (hT : bootBuiltins T = some (.type n)) (h : EE X cl W e ee)
    (hn : T ≠ "__name__" := by decide) (hdb : (T == ("__debug__" : Str)) = false := by decide)
    (he1 : starEach [.Name T q] X.env = (false, eval (.Name T q) X.env) :: starEach [] X.env := by rfl)
    (he : starEach [e, .Name T q] X.env = (false, eval e X.env) :: starEach [.Name T q] X.env := by rfl) (hpl : (backTo pos (starEach [.Name T q] X.env)).any (·.1) = false := by rfl) :
    EE X cl W (.Call (.Name "isinstance" p) [e, .Name T q] [] pos) (evIsI n ee) := by
  refine PE_wk (pe_callB call_isi hg hm boot_isi (pa_cons h (pa_cons (pe_bltn (v := .ty n) hg2 hm2 hT rfl hn hdb) pa_nil he1) he) (by decide) (by decide) he hpl) fun σ H Q hq => ?_
  obtain ⟨F, ms, ρ, S, R, E, k⟩ := hq
  refine tG_mono (kbind R E k) fun x H1 ⟨F1, m1, d1, S1, x1, R1, E1, r1, k1, e1⟩ => ?_
  split at k1
  · rename_i m hm
    split at k1
    · rename_i b hb
      exact ⟨x, .ty n, .type m, .type n, b, rfl, .ty n, tyName_ok R1 r1 hm, kit_ty hb, kNow R1 (by simp only [RepV]) k1⟩
    · exact k1.elim
  · exact k1.elim

/-! ## texts -/
def strsOf : List D → Option (List Str)
  | [] => some []
  | .str x :: r => match strsOf r with
    | some xs => some (x :: xs)
    | none => none
  | _ => none
theorem strsOf_rep {K : PySem.W.Frag} {F : Hp} {ms : List Addr} : ∀ {ds : List D} {vs : List V} {xs : List Str}, RepL K F ms ds vs → strsOf ds = some xs → vs = xs.map V.str
  | [], vs, xs, r, h => by
    simp only [strsOf, Option.some.injEq] at h
    subst h
    simp only [RepL] at r
    exact r
  | d :: ds, vs, xs, r, h => by
    simp only [RepL] at r
    obtain ⟨v, w, rfl, r1, r2⟩ := r
    cases d with
    | str x =>
      simp only [strsOf] at h
      split at h
      · rename_i ys hy
        cases h
        simp only [RepV] at r1
        rw [r1, strsOf_rep r2 hy]
        rfl
      · cases h
    | _ => simp only [strsOf] at h; cases h
theorem strsOf_map (xs : List Str) : strsOf (xs.map D.str) = some xs := by
  induction xs with
  | nil => rfl
  | cons x xs ih => simp only [List.map_cons, strsOf, ih]
/-- a text's method of one argument -/
def evStr1 (f : Str → D → Store → Res D) (eo ee : EvE) : EvE := evBind eo fun d ρ S => match d with
  | .str z => evBind ee (fun y _ S => f z y S) ρ S
  | _ => .stuck
theorem e_str1 {r : V → List V → Hp → VK → Prop} {f : Str → D → Store → Res D} {e0 : Expr} {eo : EvE} (h : PE X e0 (tM1 r (tE X.K cl W eo) (tE X.K cl W ee)))
    (hf : ∀ (F : Hp) (ms : List Addr) (S : Store) (H : Hp) (z : Str) (y : V) (d : D) (Q : VK) (W' : XK), RelS X.K cl F ms S H → RepV X.K F ms d y → Kont X.K cl (fun F ms d v => RepV X.K F ms d v) F ms (f z d S) Q W' → r (.str z) [y] H Q) :
    EE X cl W e0 (evStr1 f eo ee) := by
  refine PE_wk h fun σ H Q hq => ?_
  obtain ⟨F, ms, ρ, S, R, E, k⟩ := hq
  refine tG_mono (kbind R E k) fun x H1 ⟨F1, m1, d1, S1, x1, R1, E1, r1, k1, e1⟩ => ?_
  cases d1 with
  | str z =>
    simp only [RepV] at r1
    subst r1
    refine ⟨⟨z, rfl⟩, tG_mono (kbind R1 E1 k1) fun y H2 ⟨F2, m2, d2, S2, x2, R2, E2, r2, k2, _⟩ => ?_⟩
    exact hf F2 m2 S2 H2 z y d2 Q (W σ) R2 r2 k2
  | _ => exact k1.elim
def opJoin (z : Str) (b : D) (S : Store) : Res D := match lstOf S b with
  | some ds => match strsOf ds with
    | some xs => if (xs.map (·.length)).sum + xs.length * z.length ≤ 16777216 then .ok (.str (Txt.join z xs)) S else .stuck
    | none => .stuck
  | none => .stuck
theorem e_join {o : Expr} {eo : EvE} {apos : Pos} (ho : EE X cl W o eo) (h : EE X cl W e ee) (hs : starEach [e] X.env = [(false, eval e X.env)] := by rfl) (hbase : attributeBase o "join" X.env (eval o X.env) = eval o X.env := by rfl) (hline : (apos.endLine == pos.line) = true := by rfl) :
    EE X cl W (.Call (.Attribute o "join" apos) [e] [] pos) (evStr1 opJoin eo ee) := by
  refine e_str1 (pe_join ho h hs hbase hline) fun F ms S H z y d Q W' R r k => ?_
  unfold opJoin at k
  split at k
  · rename_i ds hd
    obtain ⟨a, vs, rfl, ha, ra⟩ := lstOf_rep R r hd
    split at k
    · rename_i xs hx
      split at k
      · rename_i hz
        have e := strsOf_rep ra hx
        subst e
        exact ⟨z, a, xs, rfl, rfl, .inl (SqL.of ha), hz, kNow R (by simp only [RepV]) k⟩
      · exact k.elim
    · exact k.elim
  · exact k.elim
end
end Ev

namespace Ev
open PySem PySem.Spec L2

/-! ## for the printed text -/
/-- a def's evaluator, hidden from the kernel's own reckoning -/
theorem hide_ex {α : Type} (a : α) : ∃ b, b = a := ⟨a, rfl⟩
noncomputable def hide {α : Type} (a : α) : α := Classical.choose (hide_ex a)
theorem hide_eq {α : Type} (a : α) : hide a = a := Classical.choose_spec (hide_ex a)
theorem hu65 {k : Nat} {A : Around} (hr : Room k A) : A.units + 65 < cLine := by have := hr.un; omega
theorem e_glob {X : Cx} {cl : Str → Option Addr} {W : L2.St → XK} {x : Str} {v : V} {u : Value} {d : D} {pos : Pos} (hg : Gl X x) (hm : X.mg x = some u) (hr : RelV v u ∧ ∀ F ms, RepV X.K F ms d v) (hd : (x == ("__debug__" : Str)) = false := by decide) : EE X cl W (.Name x pos) (evC d) :=
  e_c (pe_glob hg hm hr.1 hd) hr.2
theorem fn_stuck {P : Program} {w : World} {K : PySem.W.Frag} {mg : Str → Option Value} {base : Heap} {cl : Str → Option Addr} {k n : Nat} {f : Addr} {fd : FuncData} {ps : List Str} {ev : EvF} (h : ∀ ds S, ev ds S = .stuck) : FnOk P w K mg base CX0 k f fd ps (sp0 K cl n ev) := by
  have no : ∀ vs H Q E, ¬ sp0 K cl n ev vs H Q E := fun vs H Q E ⟨F, ms, ds, S, _, _, _, k⟩ => by
    rw [h] at k
    exact k
  exact ⟨fun vs H Q E h => absurd h (no vs H Q E), fun A outer s H args us vs Q E _ _ _ _ h => absurd h (no vs H Q E)⟩
theorem rep_const {K : PySem.W.Frag} {F : Hp} {ms : List Addr} {a : Addr} {dd : Option Addr} {its : Array Value} {n : Nat} {sl : Array (Option Value)} {vs : List V} {ds : List D} (h : K.lookup a = some ⟨.type "tuple", dd, .seq its n, sl⟩) (hv : Vals vs its.toList) (hr : RepL K F ms ds vs) (hz : its.size ≤ sizeLine) :
    RepV K F ms (.tup ds) (.ref a) := by
  simp only [RepV]
  exact ⟨a, vs, rfl, .inr ⟨_, its, n, h, rfl, rfl, hz, hv⟩, hr⟩
theorem law_end {K : Params → PySem.W.Frag} {cl : Str → Option Addr} {E : EvF} (h : ∀ ns : List Int, ns.length ≤ 63 → ∃ S', E [.scr ns] [] = .ok (.bl true) S') :
    ∀ (w : World) (H : Hp) (a : Addr) (ns : List Int), ns.length ≤ 63 → Only H → SqL (K w.params) H a (ns.map V.int) → sp0 (K w.params) cl 1 E [.ref a] H (fun v _ => v = .bl true) fun _ _ _ => False := fun w H a ns hn _ hS => by
  obtain ⟨S', e⟩ := h ns hn
  refine ⟨H, [], [.scr ns], [], rfl, ⟨Same.refl _, rfl, fun k o e => by simp at e, fun j k o o' a e => by simp at e⟩, RepL.cons (by simp only [RepV]; exact ⟨a, rfl, hS⟩) RepL.nil, ?_⟩
  rw [e]
  exact fun F' ms' v H' x R r => by simp only [RepV] at r; exact r
theorem boot_bool' : bootBuiltins "bool" = some (.type "bool") := by decide +kernel
theorem boot_int' : bootBuiltins "int" = some (.type "int") := by decide +kernel
theorem boot_str' : bootBuiltins "str" = some (.type "str") := by decide +kernel
theorem boot_list' : bootBuiltins "list" = some (.type "list") := by decide +kernel
theorem boot_tuple' : bootBuiltins "tuple" = some (.type "tuple") := by decide +kernel
theorem boot_dict' : bootBuiltins "dict" = some (.type "dict") := by decide +kernel
theorem rep_nons1 {K : PySem.W.Frag} : ∀ F ms, RepL K F ms [D.non] [V.non] := fun F ms => RepL.cons (by simp only [RepV]) RepL.nil
end Ev

namespace Ev
open PySem PySem.Spec L2
/-! # the plain side: how evaluators reckon -/
section
variable {a b c e : EvE} {t u : Ev Bool} {f : D → D → Store → Res D} {g : D → Store → Res D} {ρ : En} {S : Store} {es : List EvE}
theorem q_bin : evBin f a b ρ S = (a ρ S).bind fun x S1 => (b ρ S1).bind fun y S2 => f x y S2 := rfl
theorem q_un : evUn g a ρ S = (a ρ S).bind fun x S1 => g x S1 := rfl
theorem q_test : evTest a ρ S = (a ρ S).bind fun d S => match d with
  | .bl b => .ok b S
  | _ => .stuck := rfl
theorem q_and : evAnd t u ρ S = (t ρ S).bind fun c S => if c = true then u ρ S else .ok false S := rfl
theorem q_or : evOr t u ρ S = (t ρ S).bind fun c S => if c = true then .ok true S else u ρ S := rfl
theorem q_not : evNot t ρ S = (t ρ S).bind fun c S => .ok (!c) S := rfl
theorem q_andV : evAndV a b ρ S = (a ρ S).bind fun d S => match d with
  | .bl true => b ρ S
  | .bl false => .ok (.bl false) S
  | _ => .stuck := rfl
theorem q_orV : evOrV a b ρ S = (a ρ S).bind fun d S => match d with
  | .bl true => .ok (.bl true) S
  | .bl false => b ρ S
  | _ => .stuck := rfl
theorem q_notV : evNotV a ρ S = (a ρ S).bind fun d S => match d with
  | .bl c => .ok (.bl (!c)) S
  | _ => .stuck := rfl
theorem q_ifE : evIfE t a b ρ S = (t ρ S).bind fun c S => if c = true then a ρ S else b ρ S := rfl
theorem q_args0 : evArgs [] ρ S = .ok [] S := rfl
theorem q_args1 : evArgs (e :: es) ρ S = (e ρ S).bind fun d S1 => (evArgs es ρ S1).bind fun ds S2 => .ok (d :: ds) S2 := rfl
theorem q_tup : evTup es ρ S = (evArgs es ρ S).bind fun ds S => .ok (.tup ds) S := rfl
theorem q_lst : evLst es ρ S = (evArgs es ρ S).bind fun ds S => .ok (.lst ds) S := rfl
theorem q_newL : evNewL es ρ S = (evArgs es ρ S).bind fun ds S => .ok (.ref S.length) (S ++ [some (.lst ds)]) := rfl
theorem q_part0 : evPart none ρ S = .ok none S := rfl
theorem q_part1 : evPart (some e) ρ S = (e ρ S).bind fun d S => match d with
    | .int i => .ok (some i) S
    | _ => .stuck := rfl
theorem q_sl {lo hi : Option EvE} : evSl a lo hi ρ S = (a ρ S).bind fun d S1 => (evPart lo ρ S1).bind fun l S2 => (evPart hi ρ S2).bind fun h S3 => opSl d l h S3 := rfl
theorem q_call0 {f : EvF} {dd : List D} : evCall0 f es dd ρ S = (evArgs es ρ S).bind fun ds S => noX (f (ds ++ dd) S) := rfl
theorem q_call {f : EvF} {dd : List D} : evCall f es dd ρ S = (evArgs es ρ S).bind fun ds S => f (ds ++ dd) S := rfl
theorem q_b {f : List D → Store → Res D} : evB f es ρ S = (evArgs es ρ S).bind fun ds S => f ds S := rfl
theorem q_str1 {f : Str → D → Store → Res D} : evStr1 f a b ρ S = (a ρ S).bind fun d S => match d with
  | .str z => (b ρ S).bind fun y S => f z y S
  | _ => .stuck := rfl
theorem q_isi {T : String} : evIsI T a ρ S = (a ρ S).bind fun d S => match tyName S d with
  | some n => match kitB n T with
    | some b => .ok (.bl b) S
    | none => .stuck
  | none => .stuck := rfl
theorem q_src : evSrc a ρ S = (a ρ S).bind fun d S => match d with
  | .lst xs => .ok (.frz xs) S
  | .tup xs => .ok (.frz xs) S
  | .scr ns => .ok (.frz (ns.map .int)) S
  | .str z => .ok (.frz (z.cps.toList.map fun c => .str ⟨#[c]⟩)) S
  | .ref k => match S[k]? with
    | some (some (.lst xs)) => .ok (.own k xs) S
    | _ => .stuck
  | _ => .stuck := rfl
noncomputable def opRng (ds : List D) (S : Store) : Res Src := match ds with
  | [.int j] => @ite _ (-(2 ^ 62) ≤ j ∧ j < 2 ^ 62) (Classical.propDecidable _) (.ok (.frz (rangeD 0 j.toNat)) S) .stuck
  | [.int i, .int j] => @ite _ (-(2 ^ 62) ≤ i ∧ i < 2 ^ 62 ∧ -(2 ^ 62) ≤ j ∧ j < 2 ^ 62) (Classical.propDecidable _) (.ok (.frz (rangeD i (j - i).toNat)) S) .stuck
  | _ => .stuck
theorem q_rng : evRng es ρ S = (evArgs es ρ S).bind fun ds S => opRng ds S := rfl
theorem opRng_1 {j : Int} {S : Store} (h0 : -(2 ^ 62) ≤ j) (h1 : j < 2 ^ 62) : opRng [.int j] S = .ok (.frz (rangeD 0 j.toNat)) S := by
  simp only [opRng]
  rw [if_pos ⟨h0, h1⟩]
theorem opRng_2 {i j : Int} {S : Store} (h0 : -(2 ^ 62) ≤ i) (h1 : i < 2 ^ 62) (h2 : -(2 ^ 62) ≤ j) (h3 : j < 2 ^ 62) : opRng [.int i, .int j] S = .ok (.frz (rangeD i (j - i).toNat)) S := by
  simp only [opRng]
  rw [if_pos ⟨h0, h1, h2, h3⟩]
theorem q_frz : evFrz a ρ S = (a ρ S).bind fun d S => match frz 40 d S with
  | some (d', S') => .ok d' S'
  | none => .stuck := rfl
end
theorem opMul_l {i j : Int} {S : Store} (h1 : -(2 ^ 64) < i) (h2 : i < 2 ^ 64) : opMul (.int i) (.int j) S = .ok (.int (i * j)) S := by
  simp only [opMul, opMulI, op2I]
  rw [if_pos (.inl ⟨h1, h2⟩)]
theorem opMul_r {i j : Int} {S : Store} (h1 : -(2 ^ 64) < j) (h2 : j < 2 ^ 64) : opMul (.int i) (.int j) S = .ok (.int (i * j)) S := by
  simp only [opMul, opMulI, op2I]
  rw [if_pos (.inr ⟨h1, h2⟩)]
theorem opMod_i {i j : Int} {S : Store} (h : 0 < j) : opMod (.int i) (.int j) S = .ok (.int (i % j)) S := by
  simp only [opMod, op2I]
  rw [if_pos h]
theorem opDiv_i {i j : Int} {S : Store} (h : 0 < j) (h2 : j < 1073741824) : opDiv (.int i) (.int j) S = .ok (.int (i / j)) S := by
  simp only [opDiv, op2I]
  rw [if_pos (show CDiv i j from ⟨h, h2⟩)]
theorem opAdd_i {i j : Int} {S : Store} : opAdd (.int i) (.int j) S = .ok (.int (i + j)) S := rfl
theorem opSub_i {i j : Int} {S : Store} : opSub (.int i) (.int j) S = .ok (.int (i - j)) S := by
  simp only [opSub, op2I]
  rw [if_pos trivial]
theorem opNeg_i {i : Int} {S : Store} : opNeg (.int i) S = .ok (.int (-i)) S := rfl
theorem opLt_i {i j : Int} {S : Store} : opLtI (.int i) (.int j) S = .ok (.bl (decide (i < j))) S := rfl
theorem opLe_i {i j : Int} {S : Store} : opLe (.int i) (.int j) S = .ok (.bl (decide (i ≤ j))) S := rfl
theorem opGt_i {i j : Int} {S : Store} : opGt (.int i) (.int j) S = .ok (.bl (decide (j < i))) S := rfl
theorem opGe_i {i j : Int} {S : Store} : opGe (.int i) (.int j) S = .ok (.bl (decide (j ≤ i))) S := rfl
theorem opEq_i {i j : Int} {S : Store} : opEq (.int i) (.int j) S = .ok (.bl (decide (i = j))) S := rfl
theorem opNe_i {i j : Int} {S : Store} : opNe (.int i) (.int j) S = .ok (.bl (!decide (i = j))) S := rfl
theorem opEq_s {i j : Str} {S : Store} : opEq (.str i) (.str j) S = .ok (.bl (decide (i = j))) S := rfl
theorem opNe_s {i j : Str} {S : Store} : opNe (.str i) (.str j) S = .ok (.bl (!decide (i = j))) S := rfl
theorem opEq_b {i j : Bool} {S : Store} : opEq (.bl i) (.bl j) S = .ok (.bl (decide (i = j))) S := rfl
theorem opNe_b {i j : Bool} {S : Store} : opNe (.bl i) (.bl j) S = .ok (.bl (!decide (i = j))) S := rfl
theorem line16 : sizeLine = 16777216 := sizeLine_eq
theorem opAdd_s {x y : Str} {S : Store} (h : x.length + y.length ≤ 16777216) : opAdd (.str x) (.str y) S = .ok (.str (x ++ y)) S := by
  simp only [opAdd]
  rw [if_pos (by rw [line16]; exact h)]
theorem opAdd_l {x y : List D} {S : Store} (h : x.length + y.length ≤ 16777216) : opAdd (.lst x) (.lst y) S = .ok (.lst (x ++ y)) S := by
  simp only [opAdd, lstOf]
  rw [if_pos (by rw [line16]; exact h)]
theorem opAdd_t {x y : List D} {S : Store} (h : x.length + y.length ≤ 16777216) : opAdd (.tup x) (.tup y) S = .ok (.tup (x ++ y)) S := by
  simp only [opAdd]
  rw [if_pos (by rw [line16]; exact h)]
mutual
theorem refs_up : ∀ {d : D} {n : Nat}, refsB 0 d = true → refsB n d = true
  | .ref k, n, h => by simp [refsB] at h
  | .tup ds, n, h => by simp only [refsB] at h ⊢; exact refsL_up h
  | .lst ds, n, h => by simp only [refsB] at h ⊢; exact refsL_up h
  | .non, n, h => by simp only [refsB]
  | .bl _, n, h => by simp only [refsB]
  | .int _, n, h => by simp only [refsB]
  | .str _, n, h => by simp only [refsB]
  | .scr _, n, h => by simp only [refsB]
theorem refsL_up : ∀ {ds : List D} {n : Nat}, refsL 0 ds = true → refsL n ds = true
  | [], n, h => by simp only [refsL]
  | d :: ds, n, h => by
    simp only [refsL, Bool.and_eq_true] at h ⊢
    exact ⟨refs_up h.1, refsL_up h.2⟩
end
theorem refsL_iff {n : Nat} : ∀ {ds : List D}, refsL n ds = true ↔ ∀ d ∈ ds, refsB n d = true
  | [] => by simp [refsL]
  | d :: ds => by simp only [refsL, Bool.and_eq_true, List.mem_cons, forall_eq_or_imp, refsL_iff (ds := ds)]
theorem refsL_map {α : Type} {n : Nat} {f : α → D} {xs : List α} (h : ∀ x ∈ xs, refsB n (f x) = true) : refsL n (xs.map f) = true :=
  refsL_iff.mpr fun d hd => by
    obtain ⟨x, hx, rfl⟩ := List.mem_map.mp hd
    exact h x hx
theorem dn_pure {S : Store} {d : D} (h : refsB 0 d = true) : fin S S d = .ok d S := by
  unfold fin
  rw [if_pos ⟨List.take_length, refs_up h⟩]
theorem dn_app {S G : Store} {d : D} (h : refsB 0 d = true) : fin S (S ++ G) d = .ok d S := by
  unfold fin
  rw [if_pos ⟨List.take_left, refs_up h⟩]
theorem dn_bl {S : Store} {b : Bool} : fin S S (.bl b) = .ok (.bl b) S := dn_pure (by simp only [refsB])
theorem dn_int {S : Store} {b : Int} : fin S S (.int b) = .ok (.int b) S := dn_pure (by simp only [refsB])
theorem dn_str {S : Store} {b : Str} : fin S S (.str b) = .ok (.str b) S := dn_pure (by simp only [refsB])
theorem dn_non {S : Store} : fin S S .non = .ok .non S := dn_pure (by simp only [refsB])
theorem dn_blA {S G : Store} {b : Bool} : fin S (S ++ G) (.bl b) = .ok (.bl b) S := dn_app (by simp only [refsB])
theorem dn_intA {S G : Store} {b : Int} : fin S (S ++ G) (.int b) = .ok (.int b) S := dn_app (by simp only [refsB])
theorem dn_strA {S G : Store} {b : Str} : fin S (S ++ G) (.str b) = .ok (.str b) S := dn_app (by simp only [refsB])

/-! ## subscripts -/
theorem atI_of {α : Type} {xs : List α} {i : Int} {d : α} (h0 : 0 ≤ i) (h : xs[i.toNat]? = some d) : atI xs i = some d := by
  obtain ⟨k, rfl⟩ : ∃ k : Nat, i = (k : Int) := ⟨i.toNat, by omega⟩
  exact atI_nat (by simpa using h)
theorem opIx_l {xs : List D} {i : Int} {d : D} {S : Store} (h0 : 0 ≤ i) (h : xs[i.toNat]? = some d) : opIx (.lst xs) (.int i) S = .ok d S := by
  simp only [opIx, lstOf, atI_of h0 h]
theorem opIx_t {xs : List D} {i : Int} {d : D} {S : Store} (h0 : 0 ≤ i) (h : xs[i.toNat]? = some d) : opIx (.tup xs) (.int i) S = .ok d S := by
  simp only [opIx, atI_of h0 h]
theorem opIx_scr {xs : List Int} {i : Int} {d : Int} {S : Store} (h0 : 0 ≤ i) (h : xs[i.toNat]? = some d) : opIx (.scr xs) (.int i) S = .ok (.int d) S := by
  simp only [opIx, atI_of h0 h]
theorem opIx_s {z : Str} {i : Int} {c : Nat} {S : Store} (hz : z.length ≤ 16777216) (h0 : 0 ≤ i) (h : z.cps.toList[i.toNat]? = some c) : opIx (.str z) (.int i) S = .ok (.str ⟨#[c]⟩) S := by
  simp only [opIx, atI_of h0 h]
  rw [if_pos (by rw [line16]; exact hz)]

/-! ## comprehensions -/
theorem get_last {S : Store} {o : Option Ob} : (S ++ [o])[S.length]? = some o := by simp
theorem set_last {S : Store} {o o' : Option Ob} : (S ++ [o]).set S.length o' = S ++ [o'] := by
  rw [List.set_append_right _ _ (Nat.le_refl _)]; simp
theorem lcL_go {α : Type} {s : Src} {g : EvG} {tt : Ev Bool} {elt : EvE} {ρw : En} (enc : α → D) (ρ2 : α → En) (p : α → Bool) (f : α → D) (S : Store) (hl : ∀ acc, s.live (S ++ [some (.lst acc)])) :
    ∀ (ys : List α) (acc : List D), (∀ y ∈ ys, g (enc y) ρw = some (ρ2 y)) → (∀ y ∈ ys, ∀ acc, tt (ρ2 y) (S ++ [some (.lst acc)]) = .ok (p y) (S ++ [some (.lst acc)])) →
      (∀ y ∈ ys, p y = true → ∀ acc, elt (ρ2 y) (S ++ [some (.lst acc)]) = .ok (f y) (S ++ [some (.lst acc)])) → acc.length + ys.length ≤ 16000000 →
      lcL s g tt elt ρw S.length (ys.map enc) (S ++ [some (.lst acc)]) = some (S ++ [some (.lst (acc ++ (ys.filter p).map f))])
  | [], acc, _, _, _, _ => by
    simp only [List.map_nil, lcL, List.filter_nil, List.append_nil]
    rw [if_pos (hl acc)]
  | y :: ys, acc, hg, ht, he, hz => by
    have hy := hg y List.mem_cons_self
    have hty := ht y List.mem_cons_self acc
    simp only [List.map_cons, lcL]
    rw [if_pos (hl acc), hy]
    simp only
    rw [hty]
    rw [List.length_cons] at hz
    cases hp : p y with
    | false =>
      simp only
      rw [lcL_go enc ρ2 p f S hl ys acc (fun z h => hg z (List.mem_cons_of_mem _ h)) (fun z h => ht z (List.mem_cons_of_mem _ h)) (fun z h => he z (List.mem_cons_of_mem _ h)) (by omega), List.filter_cons_of_neg (by rw [hp]; exact Bool.false_ne_true)]
    | true =>
      simp only
      rw [he y List.mem_cons_self hp acc]
      simp only [get_last, set_last]
      rw [if_pos (by rw [line16]; omega), lcL_go enc ρ2 p f S hl ys _ (fun z h => hg z (List.mem_cons_of_mem _ h)) (fun z h => ht z (List.mem_cons_of_mem _ h)) (fun z h => he z (List.mem_cons_of_mem _ h)) (by rw [List.length_append, List.length_singleton]; omega), List.filter_cons_of_pos hp]
      simp
/-- a comprehension whose parts change nothing -/
theorem evLc_go {α : Type} {src : Ev Src} {s : Src} {g : EvG} {tt : Ev Bool} {elt : EvE} {vs : List Nat} {ρ : En} {S : Store} (ys : List α) (enc : α → D) (ρ2 : α → En) (p : α → Bool) (f : α → D) (hs : src ρ S = .ok s S) (hi : s.items = ys.map enc) (hl : ∀ acc, s.live (S ++ [some (.lst acc)]))
    (hg : ∀ y ∈ ys, g (enc y) (wipeE ρ vs) = some (ρ2 y)) (ht : ∀ y ∈ ys, ∀ acc, tt (ρ2 y) (S ++ [some (.lst acc)]) = .ok (p y) (S ++ [some (.lst acc)]))
    (he : ∀ y ∈ ys, p y = true → ∀ acc, elt (ρ2 y) (S ++ [some (.lst acc)]) = .ok (f y) (S ++ [some (.lst acc)])) (hr : ∀ y ∈ ys, p y = true → refsB 0 (f y) = true) (hz : ys.length ≤ 16000000) :
    evLc src g tt elt vs ρ S = .ok (.lst ((ys.filter p).map f)) S := by
  unfold evLc evBind
  rw [hs]
  simp only [Res.bind]
  rw [hi, lcL_go enc ρ2 p f S hl ys [] hg ht he (by simpa using hz)]
  simp only [lcEnd, get_last, List.nil_append]
  rw [if_pos ⟨List.take_left, refsL_up (refsL_map fun y hy => hr y (List.mem_filter.mp hy).1 (List.mem_filter.mp hy).2)⟩]
theorem evLc_map {α : Type} {src : Ev Src} {s : Src} {g : EvG} {elt : EvE} {vs : List Nat} {ρ : En} {S : Store} (ys : List α) (enc : α → D) (ρ2 : α → En) (f : α → D) (hs : src ρ S = .ok s S) (hi : s.items = ys.map enc) (hl : ∀ acc, s.live (S ++ [some (.lst acc)]))
    (hg : ∀ y ∈ ys, g (enc y) (wipeE ρ vs) = some (ρ2 y)) (he : ∀ y ∈ ys, ∀ acc, elt (ρ2 y) (S ++ [some (.lst acc)]) = .ok (f y) (S ++ [some (.lst acc)])) (hr : ∀ y ∈ ys, refsB 0 (f y) = true) (hz : ys.length ≤ 16000000) :
    evLc src g evTrue elt vs ρ S = .ok (.lst (ys.map f)) S := by
  have := evLc_go (tt := evTrue) ys enc ρ2 (fun _ => true) f hs hi hl hg (fun _ _ _ => rfl) (fun y hy _ => he y hy) (fun y hy _ => hr y hy) hz
  rw [List.filter_eq_self.mpr (fun _ _ => rfl)] at this
  exact this

/-! ## loops -/
theorem forL_inv {α : Type} {s : Src} {g : EvG} {body : EvS} (enc : α → D) (I : List α → En → Store → Prop) (ys : List α)
    (step : ∀ pre y post ρ S, pre ++ y :: post = ys → I pre ρ S → s.live S ∧ ∃ ρ1, g (enc y) ρ = some ρ1 ∧ ∃ ρ' S', (body ρ1 S = .nx ρ' S' ∨ body ρ1 S = .ct ρ' S') ∧ I (pre ++ [y]) ρ' S')
    (fin : ∀ ρ S, I ys ρ S → s.live S) : ∀ (post pre : List α) (ρ : En) (S : Store), pre ++ post = ys → I pre ρ S → ∃ ρ' S', forL s g body (post.map enc) ρ S = .nx ρ' S' ∧ I ys ρ' S'
  | [], pre, ρ, S, e, h => by
    rw [List.append_nil] at e
    subst e
    simp only [List.map_nil, forL]
    rw [if_pos (fin ρ S h)]
    exact ⟨ρ, S, rfl, h⟩
  | y :: post, pre, ρ, S, e, h => by
    obtain ⟨hl, ρ1, hg, ρ', S', hb, h'⟩ := step pre y post ρ S e h
    simp only [List.map_cons, forL]
    rw [if_pos hl, hg]
    simp only
    have := forL_inv enc I ys step fin post (pre ++ [y]) ρ' S' (by simpa using e) h'
    rcases hb with hb | hb <;> (rw [hb]; exact this)
/-- a search: the first bad item ends it -/
theorem forL_find {α : Type} {s : Src} {g : EvG} {body : EvS} {S : Store} (enc : α → D) (I : En → Prop) (bad : α → Bool) (r : α → D) (hl : s.live S) :
    ∀ (ys : List α) (ρ : En), (∀ y ∈ ys, ∀ ρ, I ρ → ∃ ρ1, g (enc y) ρ = some ρ1 ∧ (bad y = true → body ρ1 S = .rt (r y) S) ∧ (bad y = false → ∃ ρ', I ρ' ∧ (body ρ1 S = .nx ρ' S ∨ body ρ1 S = .ct ρ' S))) → I ρ →
      (∃ y, ys.find? bad = some y ∧ forL s g body (ys.map enc) ρ S = .rt (r y) S) ∨ (ys.find? bad = none ∧ ∃ ρ', I ρ' ∧ forL s g body (ys.map enc) ρ S = .nx ρ' S)
  | [], ρ, _, hI => by
    simp only [List.map_nil, forL]
    rw [if_pos hl]
    exact .inr ⟨rfl, ρ, hI, rfl⟩
  | y :: ys, ρ, h, hI => by
    obtain ⟨ρ1, hg, h1, h2⟩ := h y List.mem_cons_self ρ hI
    simp only [List.map_cons, forL]
    rw [if_pos hl, hg]
    simp only
    cases hb : bad y with
    | true =>
      rw [h1 hb]
      exact .inl ⟨y, by rw [List.find?_cons_of_pos hb], rfl⟩
    | false =>
      obtain ⟨ρ', hI', hb'⟩ := h2 hb
      have ih := forL_find enc I bad r hl ys ρ' (fun z hz => h z (List.mem_cons_of_mem _ hz)) hI'
      have e : ∀ z, List.find? bad (y :: ys) = z ↔ List.find? bad ys = z := fun z => by rw [List.find?_cons_of_neg (by rw [hb]; exact Bool.false_ne_true)]
      rcases hb' with hb' | hb' <;>
      · rw [hb']
        rcases ih with ⟨z, e1, e2⟩ | ⟨e1, e2⟩
        · exact .inl ⟨z, (e _).mpr e1, e2⟩
        · exact .inr ⟨(e _).mpr e1, e2⟩
/-! ## texts as lists of codes -/
abbrev sOf (l : List Nat) : Str := ⟨l.toArray⟩
theorem str_ext {x y : Str} (h : x.cps.toList = y.cps.toList) : x = y := by
  obtain ⟨a⟩ := x
  obtain ⟨b⟩ := y
  have : a = b := Array.toList_inj.mp h
  rw [this]
theorem len_cps (x : Str) : x.cps.toList.length = x.length := by simp [Str.length]
theorem len_app (x y : Str) : (x ++ y).length = x.length + y.length := by
  show (x.cps ++ y.cps).size = _
  simp [Str.length]
theorem cps_app (x y : Str) : (x ++ y).cps.toList = x.cps.toList ++ y.cps.toList := by
  show (x.cps ++ y.cps).toList = _
  simp
theorem joinL_nil : ∀ ps : List (List Nat), TL.joinL [] ps = ps.flatten
  | [] => rfl
  | [p] => by simp [TL.joinL]
  | p :: q :: r => by
    have := joinL_nil (q :: r)
    show p ++ ([] ++ TL.joinL [] (q :: r)) = _
    rw [this]
    simp
theorem join_empty (xs : List Str) : (Txt.join "" xs).cps.toList = (xs.map fun x => x.cps.toList).flatten := by
  have e : TL.tl ("" : Str) = [] := by decide +kernel
  have h : TL.tl (Txt.join "" xs) = TL.joinL (TL.tl ("" : Str)) (xs.map TL.tl) := by rw [TL.join_eq, TL.tl_join]
  rw [e, joinL_nil] at h
  exact h
theorem join_singles {α : Type} (g : α → Nat) (ks : List α) : Txt.join "" (ks.map fun k => sOf [g k]) = sOf (ks.map g) := by
  apply str_ext
  rw [join_empty]
  rw [List.map_map]
  show (ks.map fun k => [g k]).flatten = ks.map g
  induction ks with
  | nil => rfl
  | cons k ks ih => rw [List.map_cons, List.flatten_cons, ih]; rfl
theorem opJoin_go {xs : List Str} {z : Str} {S : Store} (h : (xs.map (·.length)).sum + xs.length * z.length ≤ 16777216) : opJoin z (.lst (xs.map D.str)) S = .ok (.str (Txt.join z xs)) S := by
  simp only [opJoin, lstOf, strsOf_map]
  rw [if_pos h]
theorem opJoin_singles {α : Type} {g : α → Nat} {ks : List α} {S : Store} (h : ks.length ≤ 1000000) : opJoin "" (.lst (ks.map fun k => D.str (sOf [g k]))) S = .ok (.str (sOf (ks.map g))) S := by
  have e : (ks.map fun k => D.str (sOf [g k])) = (ks.map fun k => sOf [g k]).map D.str := by simp [List.map_map, Function.comp_def]
  rw [e, opJoin_go, join_singles]
  have e0 : ("" : Str).length = 0 := by decide +kernel
  have e1 : ((ks.map fun k => sOf [g k]).map (·.length)).sum = ks.length := by
    rw [List.map_map]
    have : ((fun x : Str => x.length) ∘ fun k => sOf [g k]) = fun _ => 1 := by funext k; simp [sOf, Str.length]
    rw [this]
    clear h e this
    induction ks with
    | nil => rfl
    | cons k ks ih => rw [List.map_cons, List.sum_cons, ih, List.length_cons]; omega
  rw [e0, e1]
  omega
theorem cutS_len (z : Str) (lo hi : Option Int) : (L2.cutS z lo hi).length ≤ z.length := L2.cutS_length z lo hi
theorem opSl_s {z : Str} {lo hi : Option Int} {S : Store} (h : z.length ≤ 16777216) : opSl (.str z) lo hi S = .ok (.str (L2.cutS z lo hi)) S := by
  simp only [opSl]
  rw [if_pos (by rw [line16]; exact h)]
theorem opLen_s {z : Str} {S : Store} (h : z.length ≤ 16777216) : opLen [.str z] S = .ok (.int z.length) S := by
  simp only [opLen]
  rw [if_pos (by rw [line16]; exact h)]
theorem opLen_l {xs : List D} {S : Store} : opLen [.lst xs] S = .ok (.int xs.length) S := rfl
theorem opLen_t {xs : List D} {S : Store} : opLen [.tup xs] S = .ok (.int xs.length) S := rfl
theorem opLen_scr {xs : List Int} {S : Store} : opLen [.scr xs] S = .ok (.int xs.length) S := rfl
theorem opIn_l {a : D} {ys : List D} {S : Store} (h : flatD a = true ∧ ys.all flatD = true) : opIn a (.lst ys) S = .ok (.bl (inFlat a ys)) S := by
  simp only [opIn, opInN, lstOf]
  rw [if_pos h]
  rfl
theorem opNotIn_l {a : D} {ys : List D} {S : Store} (h : flatD a = true ∧ ys.all flatD = true) : opNotIn a (.lst ys) S = .ok (.bl (!inFlat a ys)) S := by
  simp only [opNotIn, opInN, lstOf]
  rw [if_pos h]
  rfl
theorem opIn_t {a : D} {ys : List D} {S : Store} (h : flatD a = true ∧ ys.all flatD = true) : opIn a (.tup ys) S = .ok (.bl (inFlat a ys)) S := by
  simp only [opIn, opInN]
  rw [if_pos h]
  rfl
theorem opNotIn_t {a : D} {ys : List D} {S : Store} (h : flatD a = true ∧ ys.all flatD = true) : opNotIn a (.tup ys) S = .ok (.bl (!inFlat a ys)) S := by
  simp only [opNotIn, opInN]
  rw [if_pos h]
  rfl
theorem rng1_go {e : EvE} {ρ : En} {S S' : Store} {j : Int} (h : e ρ S = .ok (.int j) S') (h0 : -(2 ^ 62) ≤ j) (h1 : j < 2 ^ 62) : evRng [e] ρ S = .ok (.frz (rangeD 0 j.toNat)) S' := by
  simp only [q_rng, q_args1, q_args0, h, Res.bind, opRng_1 h0 h1]
theorem rangeD_map (n : Nat) : rangeD 0 n = (List.range n).map fun (i : Nat) => D.int (i : Int) := by
  unfold rangeD
  simp
/-! ## step by step -/
theorem seq_go {a b : EvS} {ρ ρ' : En} {S S' : Store} {r : RS} (h : a ρ S = .nx ρ' S') (t : b ρ' S' = r) : evSeq a b ρ S = r := by
  unfold evSeq; rw [h]; exact t
theorem seq_rt {a b : EvS} {ρ : En} {S S' : Store} {d : D} (h : a ρ S = .rt d S') : evSeq a b ρ S = .rt d S' := by
  unfold evSeq; rw [h]
theorem set_go {i : Nat} {e : EvE} {ρ : En} {S S' : Store} {d : D} (h : e ρ S = .ok d S') : evSet i e ρ S = .nx (ρ.set i (some d)) S' := by
  unfold evSet; rw [h]; rfl
theorem drop_go {e : EvE} {ρ : En} {S S' : Store} {d : D} (h : e ρ S = .ok d S') : evDrop e ρ S = .nx ρ S' := by
  unfold evDrop; rw [h]; rfl
theorem ret_go {e : EvE} {ρ : En} {S S' : Store} {d : D} (h : e ρ S = .ok d S') : evRet e ρ S = .rt d S' := by
  unfold evRet; rw [h]; rfl
theorem if_go {t : Ev Bool} {a b : EvS} {ρ : En} {S S' : Store} {c : Bool} {r : RS} (h : t ρ S = .ok c S') (h1 : c = true → a ρ S' = r) (h2 : c = false → b ρ S' = r) : evIf t a b ρ S = r := by
  unfold evIf; rw [h]
  cases c with
  | true => exact h1 rfl
  | false => exact h2 rfl
theorem run_rt {m : Nat} {body : EvS} {ds : List D} {S : Store} {d : D} (h : body (ds.map some ++ List.replicate m none) S = .rt d S) (hr : refsB 0 d = true) : runDef m body ds S = .ok d S := by
  unfold runDef; rw [h]; exact dn_pure hr
theorem run_rtA {m : Nat} {body : EvS} {ds : List D} {S G : Store} {d : D} (h : body (ds.map some ++ List.replicate m none) S = .rt d (S ++ G)) (hr : refsB 0 d = true) : runDef m body ds S = .ok d S := by
  unfold runDef; rw [h]; exact dn_app hr
theorem for_go {g : EvG} {src : Ev Src} {body : EvS} {ρ : En} {S S' : Store} {s : Src} {r : RS} (h : src ρ S = .ok s S') (t : forL s g body s.items ρ S' = r) : evFor g src body ρ S = r := by
  unfold evFor; rw [h]; exact t
theorem flow_ret {a : EvS} {ρ : En} {S : Store} {r : RS} (h : a ρ S = r) : a ρ S = r := h
end Ev

namespace Ev
open PySem PySem.Spec L2

/-! ## methods of lists -/
/-- a list's method of one argument, of none -/
def evL1 (f : D → D → Store → Res D) (eo ee : EvE) : EvE := fun ρ S => (eo ρ S).bind fun d S => match lstOf S d with
  | some _ => (ee ρ S).bind fun y S => f d y S
  | none => .stuck
def evL0 (f : D → Store → Res D) (eo : EvE) : EvE := fun ρ S => (eo ρ S).bind fun d S => match lstOf S d with
  | some _ => f d S
  | none => .stuck
def mtAppend (d y : D) (S : Store) : Res D := match d with
  | .ref k => match S[k]? with
    | some (some (.lst xs)) => if xs.length < sizeLine then .ok .non (S.set k (some (.lst (xs ++ [y])))) else .stuck
    | _ => .stuck
  | _ => .stuck
def mtExtend (d y : D) (S : Store) : Res D := match d with
  | .ref k => match S[k]? with
    | some (some (.lst xs)) => match lstOf S y with
      | some ys => if xs.length + ys.length ≤ sizeLine then .ok .non (S.set k (some (.lst (xs ++ ys)))) else .stuck
      | none => .stuck
    | _ => .stuck
  | _ => .stuck
def mtClear (d : D) (S : Store) : Res D := match d with
  | .ref k => match S[k]? with
    | some (some (.lst xs)) => .ok .non (S.set k (some (.lst [])))
    | _ => .stuck
  | _ => .stuck
def mtPop0 (d : D) (S : Store) : Res D := match d with
  | .ref k => match S[k]? with
    | some (some (.lst xs)) => match xs[xs.length - 1]? with
      | some y => .ok y (S.set k (some (.lst xs.dropLast)))
      | none => .stuck
    | _ => .stuck
  | _ => .stuck
section
variable {X : Cx} {cl : Str → Option Addr} {W : L2.St → XK} {a b e : Expr} {es : List Expr} {ea eb ee eo : EvE} {evs : List EvE} {pos : Pos}
theorem kbind' {K : PySem.W.Frag} {F : Hp} {ms : List Addr} {S : Store} {H : Hp} {σ : L2.St} {ρ : En} {α β α' β' : Type} {Rp : Hp → List Addr → α → β → Prop} {Rp' : Hp → List Addr → α' → β' → Prop} {e : Ev α} {f : α → Store → Res α'} {Q : β' → Hp → Prop}
    (R : RelS K cl F ms S H) (E : EnvR K F ms σ ρ) (k : Kont K cl Rp' F ms ((e ρ S).bind f) Q (W σ)) :
    tG K cl Rp W e σ H fun x H1 => ∃ F1 m1 a S1, Ext F F1 ms m1 ∧ RelS K cl F1 m1 S1 H1 ∧ EnvR K F1 m1 σ ρ ∧ Rp F1 m1 a x ∧ Kont K cl Rp' F1 m1 (f a S1) Q (W σ) ∧ e ρ S = .ok a S1 :=
  kbind (f := fun a _ S => f a S) R E k
theorem e_L1 {r : V → List V → Hp → VK → Prop} {f : D → D → Store → Res D} {e0 : Expr} (h : PE X e0 (tBM X.K "list" r (tE X.K cl W eo) (tA X.K cl W (evArgs [ee]))))
    (hf : ∀ (F : Hp) (ms : List Addr) (S : Store) (H : Hp) (x y : V) (d d' : D) (Q : VK) (W' : XK), RelS X.K cl F ms S H → RepV X.K F ms d x → RepV X.K F ms d' y → Kont X.K cl (fun F ms d v => RepV X.K F ms d v) F ms (f d d' S) Q W' → r x [y] H Q) :
    EE X cl W e0 (evL1 f eo ee) := by
  refine PE_wk h fun σ H Q hq => ?_
  obtain ⟨F, ms, ρ, S, R, E, k⟩ := hq
  refine tG_mono (kbind' R E k) fun x H1 ⟨F1, m1, d1, S1, x1, R1, E1, r1, k1, e1⟩ => ?_
  cases q : lstOf S1 d1 with
  | none => rw [q] at k1; exact k1.elim
  | some xs =>
    rw [q] at k1
    obtain ⟨a, vs, rfl, ha, ra⟩ := lstOf_rep R1 r1 q
    refine ⟨.inl ⟨rfl, vs, SqL.of ha⟩, ?_⟩
    have k2 : Kont X.K cl (fun F ms d v => RepV X.K F ms d v) F1 m1 ((evArgs [ee] ρ S1).bind fun ys S => match ys with
      | [y] => f d1 y S
      | _ => .stuck) Q (W σ) := by
      simp only at k1
      rw [q_args1]
      revert k1
      cases ee ρ S1 with
      | ok d S2 => exact fun k => k
      | exc c S2 => exact fun k => k
      | stuck => exact fun k => k
    refine tG_mono (kbind' R1 E1 k2) fun ys H2 ⟨F2, m2, d2, S2, x2, R2, E2, r2, k3, e2⟩ => ?_
    have hl := evArgs_len e2
    match d2, hl with
    | [d], _ =>
      obtain ⟨v, rfl, rv⟩ := rep1 r2
      exact hf F2 m2 S2 H2 _ v d1 d Q (W σ) R2 (r1.mono x2) rv k3
theorem e_L0 {r : V → List V → Hp → VK → Prop} {f : D → Store → Res D} {e0 : Expr} (h : PE X e0 (tBM0 X.K "list" r (tE X.K cl W eo)))
    (hf : ∀ (F : Hp) (ms : List Addr) (S : Store) (H : Hp) (x : V) (d : D) (Q : VK) (W' : XK), RelS X.K cl F ms S H → RepV X.K F ms d x → Kont X.K cl (fun F ms d v => RepV X.K F ms d v) F ms (f d S) Q W' → r x [] H Q) :
    EE X cl W e0 (evL0 f eo) := by
  refine PE_wk h fun σ H Q hq => ?_
  obtain ⟨F, ms, ρ, S, R, E, k⟩ := hq
  refine tG_mono (kbind' R E k) fun x H1 ⟨F1, m1, d1, S1, x1, R1, E1, r1, k1, e1⟩ => ?_
  cases q : lstOf S1 d1 with
  | none => rw [q] at k1; exact k1.elim
  | some xs =>
    rw [q] at k1
    obtain ⟨a, vs, rfl, ha, ra⟩ := lstOf_rep R1 r1 q
    exact ⟨.inl ⟨rfl, vs, SqL.of ha⟩, hf F1 m1 S1 H1 _ d1 Q (W σ) R1 r1 k1⟩
section
variable {K : PySem.W.Frag} {F : Hp} {ms : List Addr} {S : Store} {H : Hp}
theorem ownL (R : RelS K cl F ms S H) {k : Nat} {x : V} {xs : List D} (r : RepV K F ms (.ref k) x) (h : S[k]? = some (some (.lst xs))) : ∃ a vs, x = .ref a ∧ ms[k]? = some a ∧ H a = some (.lst vs) ∧ RepL K F ms xs vs := by
  simp only [RepV] at r
  obtain ⟨a, ea, rfl⟩ := r
  obtain ⟨a', a1, a2, vs, a3, a4⟩ := R.ob k _ h
  rw [ea] at a1; cases a1
  exact ⟨a, vs, rfl, ea, a3, a4⟩
theorem putL (R : RelS K cl F ms S H) {k : Nat} {a : Addr} {xs ys : List D} {vs : List V} (h : S[k]? = some (some (.lst xs))) (ha : ms[k]? = some a) (r : RepL K F ms ys vs) : RelS K cl F ms (S.set k (some (.lst ys))) (upd H a (.lst vs)) :=
  R.write h ha ⟨vs, upd_same, r⟩
end
theorem ok_append {F : Hp} {ms : List Addr} {S : Store} {H : Hp} {x y : V} {d d' : D} {Q : VK} {W' : XK} (R : RelS X.K cl F ms S H) (rx : RepV X.K F ms d x) (ry : RepV X.K F ms d' y) (k : Kont X.K cl (fun F ms d v => RepV X.K F ms d v) F ms (mtAppend d d' S) Q W') : rAppend x [y] H Q := by
  cases d with
  | ref j =>
    simp only [mtAppend] at k
    split at k
    · rename_i xs hx
      split at k
      · rename_i hz
        obtain ⟨a, vs, rfl, ea, ha, ra⟩ := ownL R rx hx
        exact ⟨a, vs, y, rfl, rfl, ha, by rw [ra.length]; exact hz, kNow (putL R hx ea (ra.append (RepL.cons ry RepL.nil))) (by simp only [RepV]) k⟩
      · exact k.elim
    · exact k.elim
  | _ => exact k.elim
theorem ok_extend {F : Hp} {ms : List Addr} {S : Store} {H : Hp} {x y : V} {d d' : D} {Q : VK} {W' : XK} (R : RelS X.K cl F ms S H) (rx : RepV X.K F ms d x) (ry : RepV X.K F ms d' y) (k : Kont X.K cl (fun F ms d v => RepV X.K F ms d v) F ms (mtExtend d d' S) Q W') : rExtend x [y] H Q := by
  cases d with
  | ref j =>
    simp only [mtExtend] at k
    split at k
    · rename_i xs hx
      split at k
      · rename_i ys hy
        split at k
        · rename_i hz
          obtain ⟨a, vs, rfl, ea, ha, ra⟩ := ownL R rx hx
          obtain ⟨b, ws, rfl, hb, rb⟩ := lstOf_rep R ry hy
          exact ⟨a, b, vs, ws, rfl, rfl, ha, hb, by rw [ra.length, rb.length]; exact hz, kNow (putL R hx ea (ra.append rb)) (by simp only [RepV]) k⟩
        · exact k.elim
      · exact k.elim
    · exact k.elim
  | _ => exact k.elim
theorem ok_clear {F : Hp} {ms : List Addr} {S : Store} {H : Hp} {x : V} {d : D} {Q : VK} {W' : XK} (R : RelS X.K cl F ms S H) (rx : RepV X.K F ms d x) (k : Kont X.K cl (fun F ms d v => RepV X.K F ms d v) F ms (mtClear d S) Q W') : rClear x [] H Q := by
  cases d with
  | ref j =>
    simp only [mtClear] at k
    split at k
    · rename_i xs hx
      obtain ⟨a, vs, rfl, ea, ha, ra⟩ := ownL R rx hx
      exact ⟨a, vs, rfl, rfl, ha, kNow (putL R hx ea RepL.nil) (by simp only [RepV]) k⟩
    · exact k.elim
  | _ => exact k.elim
theorem RepL.dropLast {K : PySem.W.Frag} {F : Hp} {ms : List Addr} {ds : List D} {vs : List V} (r : RepL K F ms ds vs) : RepL K F ms ds.dropLast vs.dropLast := by
  rw [List.dropLast_eq_take, List.dropLast_eq_take, r.length]
  exact r.take _
theorem ok_pop0 {F : Hp} {ms : List Addr} {S : Store} {H : Hp} {x : V} {d : D} {Q : VK} {W' : XK} (R : RelS X.K cl F ms S H) (rx : RepV X.K F ms d x) (k : Kont X.K cl (fun F ms d v => RepV X.K F ms d v) F ms (mtPop0 d S) Q W') : rPop x [] H Q := by
  cases d with
  | ref j =>
    simp only [mtPop0] at k
    split at k
    · rename_i xs hx
      split at k
      · rename_i y hy
        obtain ⟨a, vs, rfl, ea, ha, ra⟩ := ownL R rx hx
        obtain ⟨v, hv, rv⟩ := ra.get hy
        exact ⟨a, vs, v, rfl, rfl, ha, by rw [ra.length]; exact hv, kNow (putL R hx ea ra.dropLast) rv k⟩
      · exact k.elim
    · exact k.elim
  | _ => exact k.elim
variable {o : Expr} {apos : Pos}
theorem e_append (ho : EE X cl W o eo) (ha : EE X cl W e ee)
    (hbase : attributeBase o "append" X.env (eval o X.env) = eval o X.env := by rfl)
    (hfew : ((backTo pos (starEach [e] X.env)).all (fun x => !x.1) && (backToKw pos (keywordEach [] X.env)).all (fun x => x.1.isSome)
      && decide ([e].length + ([] : List Keyword).length + (if ([] : List Keyword).isEmpty then 0 else 1) < 30)) = true := by rfl)
    (hline : (apos.endLine == pos.line) = true := by rfl) (hs : starEach [e] X.env = (false, eval e X.env) :: starEach [] X.env := by rfl) (hplain : (backTo pos (starEach [] X.env)).any (·.1) = false := by rfl) :
    EE X cl W (.Call (.Attribute o "append" apos) [e] [] pos) (evL1 mtAppend eo ee) :=
  e_L1 (pe_bm PySem.F.plainAttrs_list PySem.F.slot_list_append PySem.F.type_list_append mt_append ho (a_cons ha a_nil hs) hbase hfew hline hs hplain) fun F ms S H x y d d' Q W' R rx ry k => ok_append R rx ry k
theorem e_extend (ho : EE X cl W o eo) (ha : EE X cl W e ee)
    (hbase : attributeBase o "extend" X.env (eval o X.env) = eval o X.env := by rfl)
    (hfew : ((backTo pos (starEach [e] X.env)).all (fun x => !x.1) && (backToKw pos (keywordEach [] X.env)).all (fun x => x.1.isSome)
      && decide ([e].length + ([] : List Keyword).length + (if ([] : List Keyword).isEmpty then 0 else 1) < 30)) = true := by rfl)
    (hline : (apos.endLine == pos.line) = true := by rfl) (hs : starEach [e] X.env = (false, eval e X.env) :: starEach [] X.env := by rfl) (hplain : (backTo pos (starEach [] X.env)).any (·.1) = false := by rfl) :
    EE X cl W (.Call (.Attribute o "extend" apos) [e] [] pos) (evL1 mtExtend eo ee) :=
  e_L1 (pe_bm PySem.F.plainAttrs_list PySem.F.slot_list_extend PySem.F.type_list_extend mt_extend ho (a_cons ha a_nil hs) hbase hfew hline hs hplain) fun F ms S H x y d d' Q W' R rx ry k => ok_extend R rx ry k
theorem e_clear (ho : EE X cl W o eo) (hbase : attributeBase o "clear" X.env (eval o X.env) = eval o X.env := by rfl) (hline : (apos.endLine == pos.line) = true := by rfl) :
    EE X cl W (.Call (.Attribute o "clear" apos) [] [] pos) (evL0 mtClear eo) :=
  e_L0 (pe_bm0 PySem.F.plainAttrs_list PySem.F.slot_list_clear PySem.F.type_list_clear mt_clear ho hbase hline) fun F ms S H x d Q W' R rx k => ok_clear R rx k
theorem e_pop0 (ho : EE X cl W o eo) (hbase : attributeBase o "pop" X.env (eval o X.env) = eval o X.env := by rfl) (hline : (apos.endLine == pos.line) = true := by rfl) :
    EE X cl W (.Call (.Attribute o "pop" apos) [] [] pos) (evL0 mtPop0 eo) :=
  e_L0 (pe_bm0 PySem.F.plainAttrs_list PySem.F.slot_list_pop PySem.F.type_list_pop mt_pop ho hbase hline) fun F ms S H x d Q W' R rx k => ok_pop0 R rx k

/-! ## max, min, int, list, tuple, sorted -/
def opMax (ds : List D) (S : Store) : Res D := match ds with
  | [.int i, .int j] => .ok (.int (if j > i then j else i)) S
  | _ => .stuck
def opMin (ds : List D) (S : Store) : Res D := match ds with
  | [.int i, .int j] => .ok (.int (if j < i then j else i)) S
  | _ => .stuck
def opInt (ds : List D) (S : Store) : Res D := match ds with
  | [.int i] => .ok (.int i) S
  | [.bl k] => .ok (.int (if k then 1 else 0)) S
  | _ => .stuck
def seqOf (S : Store) : D → Option (List D)
  | .tup xs => some xs
  | .scr ns => some (ns.map .int)
  | d => lstOf S d
def opList (ds : List D) (S : Store) : Res D := match ds with
  | [d] => match seqOf S d with
    | some xs => .ok (.lst xs) S
    | none => .stuck
  | _ => .stuck
def opListO (ds : List D) (S : Store) : Res D := match ds with
  | [d] => match seqOf S d with
    | some xs => .ok (.ref S.length) (S ++ [some (.lst xs)])
    | none => .stuck
  | _ => .stuck
def opTuple (ds : List D) (S : Store) : Res D := match ds with
  | [d] => match d with
    | .tup xs => .ok d S
    | d => match lstOf S d with
      | some xs => .ok (.tup xs) S
      | none => .stuck
  | _ => .stuck
section
variable {K : PySem.W.Frag}
theorem seqOf_rep {F : Hp} {ms : List Addr} {S : Store} {H : Hp} {d : D} {v : V} {xs : List D} (R : RelS K cl F ms S H) (r : RepV K F ms d v) (h : seqOf S d = some xs) : ∃ a vs, v = .ref a ∧ (SqL K H a vs ∨ SqT K H a vs) ∧ RepL K F ms xs vs := by
  have lists : lstOf S d = some xs → ∃ a vs, v = .ref a ∧ (SqL K H a vs ∨ SqT K H a vs) ∧ RepL K F ms xs vs := fun h => by
    obtain ⟨a, vs, e, ha, ra⟩ := lstOf_rep R r h
    exact ⟨a, vs, e, .inl (SqL.of ha), ra⟩
  cases d with
  | tup ys =>
    simp only [seqOf, Option.some.injEq] at h
    subst h
    simp only [RepV] at r
    obtain ⟨a, vs, e, ha, ra⟩ := r
    exact ⟨a, vs, e, .inr (Same.seqT R.same ha), ra⟩
  | scr ns =>
    simp only [seqOf, Option.some.injEq] at h
    subst h
    simp only [RepV] at r
    obtain ⟨a, e, ha⟩ := r
    exact ⟨a, _, e, .inl (R.same.seq ha), rep_ints ns⟩
  | _ => exact lists h
theorem ok_max : CallOk K cl (fun xs H Q => ∃ i j, xs = [.int i, .int j] ∧ Q (.int (if j > i then j else i)) H) opMax := fun F ms S H xs ds Q W' R r k => by
  unfold opMax at k
  split at k
  · obtain ⟨v, w, rfl, r1, r2⟩ := rep2 r
    simp only [RepV] at r1 r2
    subst r1; subst r2
    exact ⟨_, _, rfl, kNow R (by simp only [RepV]) k⟩
  · exact k.elim
theorem ok_min : CallOk K cl (fun xs H Q => ∃ i j, xs = [.int i, .int j] ∧ Q (.int (if j < i then j else i)) H) opMin := fun F ms S H xs ds Q W' R r k => by
  unfold opMin at k
  split at k
  · obtain ⟨v, w, rfl, r1, r2⟩ := rep2 r
    simp only [RepV] at r1 r2
    subst r1; subst r2
    exact ⟨_, _, rfl, kNow R (by simp only [RepV]) k⟩
  · exact k.elim
theorem ok_int : CallOk K cl (fun xs H Q => (∃ i, xs = [.int i] ∧ Q (.int i) H) ∨ ∃ k, xs = [.bl k] ∧ Q (.int (if k then 1 else 0)) H) opInt := fun F ms S H xs ds Q W' R r k => by
  unfold opInt at k
  split at k
  · obtain ⟨v, rfl, r1⟩ := rep1 r
    simp only [RepV] at r1
    subst r1
    exact .inl ⟨_, rfl, kNow R (by simp only [RepV]) k⟩
  · obtain ⟨v, rfl, r1⟩ := rep1 r
    simp only [RepV] at r1
    subst r1
    exact .inr ⟨_, rfl, kNow R (by simp only [RepV]) k⟩
  · exact k.elim
theorem ok_list : CallOk K cl (fun xs H Q => ∃ p ys, xs = [.ref p] ∧ (SqL K H p ys ∨ SqT K H p ys) ∧ ∀ l, H l = none → Q (.ref l) (upd H l (.lst ys))) opList := fun F ms S H xs ds Q W' R r k => by
  unfold opList at k
  split at k
  · obtain ⟨v, rfl, r1⟩ := rep1 r
    split at k
    · rename_i ys hy
      obtain ⟨a, vs, rfl, ha, ra⟩ := seqOf_rep R r1 hy
      exact ⟨a, vs, rfl, ha, frzL R ra k⟩
    · exact k.elim
  · exact k.elim
theorem ok_listO : CallOk K cl (fun xs H Q => ∃ p ys, xs = [.ref p] ∧ (SqL K H p ys ∨ SqT K H p ys) ∧ ∀ l, H l = none → Q (.ref l) (upd H l (.lst ys))) opListO := fun F ms S H xs ds Q W' R r k => by
  unfold opListO at k
  split at k
  · obtain ⟨v, rfl, r1⟩ := rep1 r
    split at k
    · rename_i ys hy
      obtain ⟨a, vs, rfl, ha, ra⟩ := seqOf_rep R r1 hy
      exact ⟨a, vs, rfl, ha, newL R ra k⟩
    · exact k.elim
  · exact k.elim
theorem ok_tuple : CallOk K cl (fun xs H Q => ∃ p ys, xs = [.ref p] ∧ ((SqL K H p ys ∧ ∀ l, H l = none → Q (.ref l) (upd H l (.tup ys))) ∨ (SqT K H p ys ∧ Q (.ref p) H))) opTuple := fun F ms S H xs ds Q W' R r k => by
  unfold opTuple at k
  split at k
  · obtain ⟨v, rfl, r1⟩ := rep1 r
    split at k
    · have r0 := r1
      simp only [RepV] at r1
      obtain ⟨a, vs, rfl, ha, ra⟩ := r1
      exact ⟨a, vs, rfl, .inr ⟨Same.seqT R.same ha, kNow R r0 k⟩⟩
    · split at k
      · rename_i ys hy
        obtain ⟨a, vs, rfl, ha, ra⟩ := lstOf_rep R r1 hy
        exact ⟨a, vs, rfl, .inl ⟨SqL.of ha, frzT R ra k⟩⟩
      · exact k.elim
  · exact k.elim
end
variable {p : Pos}
theorem boot_max' : bootBuiltins "max" = some (.builtin "max") := by decide +kernel
theorem boot_min' : bootBuiltins "min" = some (.builtin "min") := by decide +kernel
theorem e_max (hc : X.calm = true) (hg : Gl X "max") (hm : X.mg "max" = none) (ha : EA X cl W (e :: es) (evArgs evs)) (he : starEach (e :: es) X.env = (false, eval e X.env) :: starEach es X.env := by rfl) (hpl : (backTo pos (starEach es X.env)).any (·.1) = false := by rfl) :
    EE X cl W (.Call (.Name "max" p) (e :: es) [] pos) (evB opMax evs) := e_blt (pe_callB (call_max2 hc) hg hm boot_max' ha (by decide) (by decide) he hpl) ok_max rfl
theorem e_min (hc : X.calm = true) (hg : Gl X "min") (hm : X.mg "min" = none) (ha : EA X cl W (e :: es) (evArgs evs)) (he : starEach (e :: es) X.env = (false, eval e X.env) :: starEach es X.env := by rfl) (hpl : (backTo pos (starEach es X.env)).any (·.1) = false := by rfl) :
    EE X cl W (.Call (.Name "min" p) (e :: es) [] pos) (evB opMin evs) := e_blt (pe_callB (call_min2 hc) hg hm boot_min' ha (by decide) (by decide) he hpl) ok_min rfl
theorem e_toint (hg : Gl X "int") (hm : X.mg "int" = none) (ha : EA X cl W (e :: es) (evArgs evs)) (he : starEach (e :: es) X.env = (false, eval e X.env) :: starEach es X.env := by rfl) (hpl : (backTo pos (starEach es X.env)).any (·.1) = false := by rfl) :
    EE X cl W (.Call (.Name "int" p) (e :: es) [] pos) (evB opInt evs) := e_blt (pe_callTy call_int1 hg hm boot_int' ha (by decide) (by decide) he hpl) ok_int rfl
theorem e_list (hg : Gl X "list") (hm : X.mg "list" = none) (ha : EA X cl W (e :: es) (evArgs evs)) (he : starEach (e :: es) X.env = (false, eval e X.env) :: starEach es X.env := by rfl) (hpl : (backTo pos (starEach es X.env)).any (·.1) = false := by rfl) :
    EE X cl W (.Call (.Name "list" p) (e :: es) [] pos) (evB opList evs) := e_blt (pe_callTy call_list_of hg hm boot_list' ha (by decide) (by decide) he hpl) ok_list rfl
theorem e_listO (hg : Gl X "list") (hm : X.mg "list" = none) (ha : EA X cl W (e :: es) (evArgs evs)) (he : starEach (e :: es) X.env = (false, eval e X.env) :: starEach es X.env := by rfl) (hpl : (backTo pos (starEach es X.env)).any (·.1) = false := by rfl) :
    EE X cl W (.Call (.Name "list" p) (e :: es) [] pos) (evB opListO evs) := e_blt (pe_callTy call_list_of hg hm boot_list' ha (by decide) (by decide) he hpl) ok_listO rfl
theorem e_tuple (hg : Gl X "tuple") (hm : X.mg "tuple" = none) (ha : EA X cl W (e :: es) (evArgs evs)) (he : starEach (e :: es) X.env = (false, eval e X.env) :: starEach es X.env := by rfl) (hpl : (backTo pos (starEach es X.env)).any (·.1) = false := by rfl) :
    EE X cl W (.Call (.Name "tuple" p) (e :: es) [] pos) (evB opTuple evs) := e_blt (pe_callTy call_tuple_of hg hm boot_tuple' ha (by decide) (by decide) he hpl) ok_tuple rfl
end
end Ev

namespace Ev
open PySem PySem.Spec L2
/-! # more of the plain side -/
theorem ofStr_inj {a b : String} : Str.ofString a = Str.ofString b ↔ a = b := by
  refine ⟨fun h => ?_, fun h => by rw [h]⟩
  rw [Str.ofString_eq_toList, Str.ofString_eq_toList] at h
  have h1 : (a.toList.map Char.toNat) = b.toList.map Char.toNat := by
    have := congrArg (fun s : Str => s.cps.toList) h
    simpa using this
  have inj : ∀ (xs ys : List Char), xs.map Char.toNat = ys.map Char.toNat → xs = ys := fun xs => by
    induction xs with
    | nil => intro ys h; cases ys with
      | nil => rfl
      | cons y ys => simp at h
    | cons x xs ih => intro ys h; cases ys with
      | nil => simp at h
      | cons y ys =>
        simp only [List.map_cons, List.cons.injEq] at h
        rw [ih ys h.2, Char.ext (UInt32.toNat_inj.mp h.1)]
  exact String.toList_inj.mp (inj _ _ h1)
section
variable {a b c d : D} {r : List D} {S : Store}
theorem opIx_t0 : opIx (.tup (a :: r)) (.int 0) S = .ok a S := opIx_t (by decide) rfl
theorem opIx_t1 : opIx (.tup (a :: b :: r)) (.int 1) S = .ok b S := opIx_t (by decide) rfl
theorem opIx_t2 : opIx (.tup (a :: b :: c :: r)) (.int 2) S = .ok c S := opIx_t (by decide) rfl
theorem opIx_t3 : opIx (.tup (a :: b :: c :: d :: r)) (.int 3) S = .ok d S := opIx_t (by decide) rfl
theorem opIx_l0 : opIx (.lst (a :: r)) (.int 0) S = .ok a S := opIx_l (by decide) rfl
theorem opIx_l1 : opIx (.lst (a :: b :: r)) (.int 1) S = .ok b S := opIx_l (by decide) rfl
theorem opIx_l2 : opIx (.lst (a :: b :: c :: r)) (.int 2) S = .ok c S := opIx_l (by decide) rfl
theorem opIx_l3 : opIx (.lst (a :: b :: c :: d :: r)) (.int 3) S = .ok d S := opIx_l (by decide) rfl
end
theorem opIx_li {d e : D} {xs : List D} {i : Int} {S : Store} (hl : lstOf S d = some xs) (h0 : 0 ≤ i) (h : xs[i.toNat]? = some e) : opIx d (.int i) S = .ok e S := by
  have key : ∀ d, (∀ z, d ≠ .str z) → (∀ z, d ≠ .tup z) → (∀ z, d ≠ .scr z) → lstOf S d = some xs → opIx d (.int i) S = .ok e S := fun d h1 h2 h3 hl => by
    cases d with
    | str z => exact absurd rfl (h1 z)
    | tup z => exact absurd rfl (h2 z)
    | scr z => exact absurd rfl (h3 z)
    | _ => simp only [opIx, hl, atI_of h0 h]
  cases d with
  | str z => simp only [lstOf] at hl; cases hl
  | tup z => simp only [lstOf] at hl; cases hl
  | scr z => simp only [lstOf] at hl; cases hl
  | _ => exact key _ (fun _ h => by cases h) (fun _ h => by cases h) (fun _ h => by cases h) hl
theorem opLen_li {d : D} {xs : List D} {S : Store} (hl : lstOf S d = some xs) : opLen [d] S = .ok (.int xs.length) S := by
  cases d with
  | str z => simp only [lstOf] at hl; cases hl
  | tup z => simp only [lstOf] at hl; cases hl
  | scr z => simp only [lstOf] at hl; cases hl
  | _ => simp only [opLen, hl]
theorem opMax_i {i j : Int} {S : Store} : opMax [.int i, .int j] S = .ok (.int (if j > i then j else i)) S := rfl
theorem opMin_i {i j : Int} {S : Store} : opMin [.int i, .int j] S = .ok (.int (if j < i then j else i)) S := rfl
/-! ## plain data -/
structure Good (n : Nat) (d : D) : Prop where
  refs : refsB 0 d = true
  lay : (py d).canLay0 = true
  dep : (py d).depth ≤ n
theorem Good.mono {n m : Nat} {d : D} (h : Good n d) (e : n ≤ m) : Good m d := ⟨h.refs, h.lay, Nat.le_trans h.dep e⟩
theorem good_seq {n : Nat} : ∀ {ds : List D}, (∀ d ∈ ds, Good n d) → refsL 0 ds = true ∧ PyData.canLayAll0 (pyL ds) = true ∧ PyData.depthAll (pyL ds) ≤ n
  | [], _ => ⟨by simp only [refsL], by simp only [pyL, PyData.canLayAll0], by simp [pyL, PyData.depthAll]⟩
  | d :: ds, h => by
    obtain ⟨h1, h2, h3⟩ := good_seq (ds := ds) fun e he => h e (List.mem_cons_of_mem _ he)
    have g := h d List.mem_cons_self
    refine ⟨by simp only [refsL, g.refs, h1, Bool.and_self], by simp only [pyL, PyData.canLayAll0, g.lay, h2, Bool.and_self], ?_⟩
    simp only [pyL, PyData.depthAll]
    exact Nat.max_le.mpr ⟨g.dep, h3⟩
theorem Good.tup {n : Nat} {ds : List D} (h : ∀ d ∈ ds, Good n d) : Good (n + 1) (.tup ds) := by
  obtain ⟨h1, h2, h3⟩ := good_seq h
  exact ⟨by simp only [refsB, h1], by simp only [py, PyData.canLay0, h2], by simp only [py, PyData.depth]; omega⟩
theorem Good.lst {n : Nat} {ds : List D} (h : ∀ d ∈ ds, Good n d) : Good (n + 1) (.lst ds) := by
  obtain ⟨h1, h2, h3⟩ := good_seq h
  exact ⟨by simp only [refsB, h1], by simp only [py, PyData.canLay0, h2], by simp only [py, PyData.depth]; omega⟩
theorem Good.str {s : Str} (h : PyData.strOk s = true) : Good 0 (.str s) := ⟨by simp only [refsB], by simp only [py, PyData.canLay0, h], by simp [py, PyData.depth]⟩
theorem Good.int {i : Int} : Good 0 (.int i) := ⟨by simp only [refsB], by simp only [py, PyData.canLay0], by simp [py, PyData.depth]⟩
theorem Good.bl {i : Bool} : Good 0 (.bl i) := ⟨by simp only [refsB], by simp only [py, PyData.canLay0], by simp [py, PyData.depth]⟩
theorem Good.non : Good 0 .non := ⟨by simp only [refsB], by simp only [py, PyData.canLay0], by simp [py, PyData.depth]⟩
theorem deref_pure {S : Store} {d : D} (h : refsB 0 d = true) : deref 40 S d = some d := by unfold deref; rw [if_pos h]
theorem shaped_of {n : Nat} {d : D} (h : Good n d) (hn : n ≤ 64) : SeqAt.shaped (py d) = true := by
  unfold SeqAt.shaped
  rw [h.lay, decide_eq_true (Nat.le_trans h.dep hn)]
  rfl
theorem eqv_same {n : Nat} {d : D} (h : Good n d) : PyData.eqv (py d) (py d) = true := by
  exact SeqAt.eqv_refl _ h.lay
theorem opEqN_same {n : Nat} {d : D} {neg : Bool} {S : Store} (h : Good n d) (hn : n ≤ 64) : opEqN neg d d S = .ok (.bl (!neg)) S := by
  have deep : eqDeep neg d d S = .ok (.bl (!neg)) S := by
    unfold eqDeep
    rw [deref_pure h.refs]
    simp only
    rw [if_pos ⟨shaped_of h hn, shaped_of h hn⟩, eqv_same h]
    cases neg <;> rfl
  unfold opEqN
  cases d with
  | int i => simp only [eqSc, decide_true]; cases neg <;> rfl
  | str i => simp only [eqSc, decide_true]; cases neg <;> rfl
  | bl i => simp only [eqSc, decide_true]; cases neg <;> rfl
  | non => simp only [eqSc]; cases neg <;> rfl
  | tup ds => exact deep
  | lst ds => exact deep
  | scr ds => exact deep
  | ref k => have := h.refs; simp [refsB] at this
theorem opNe_same {n : Nat} {d : D} {S : Store} (h : Good n d) (hn : n ≤ 64) : opNe d d S = .ok (.bl false) S := opEqN_same h hn
theorem opEq_same {n : Nat} {d : D} {S : Store} (h : Good n d) (hn : n ≤ 64) : opEq d d S = .ok (.bl true) S := opEqN_same h hn
theorem dn_good {n : Nat} {S : Store} {d : D} (h : Good n d) : fin S S d = .ok d S := dn_pure h.refs
theorem q_L1 {f : D → D → Store → Res D} {a b : EvE} {ρ : En} {S : Store} : evL1 f a b ρ S = (a ρ S).bind fun d S1 => match lstOf S1 d with
  | some _ => (b ρ S1).bind fun e S2 => f d e S2
  | none => .stuck := rfl
theorem q_L0 {f : D → Store → Res D} {a : EvE} {ρ : En} {S : Store} : evL0 f a ρ S = (a ρ S).bind fun d S1 => match lstOf S1 d with
  | some _ => f d S1
  | none => .stuck := rfl
/-! ## the list made last -/
section
variable {S : Store} {xs ys : List D} {d : D} {i : Int}
theorem lst_last : lstOf (S ++ [some (.lst xs)]) (.ref S.length) = some xs := by simp only [lstOf, get_last]
theorem len_last : opLen [.ref S.length] (S ++ [some (.lst xs)]) = .ok (.int xs.length) (S ++ [some (.lst xs)]) := opLen_li lst_last
theorem ix_last (h0 : 0 ≤ i) (h : xs[i.toNat]? = some d) : opIx (.ref S.length) (.int i) (S ++ [some (.lst xs)]) = .ok d (S ++ [some (.lst xs)]) := opIx_li lst_last h0 h
theorem app_last (h : xs.length ≤ 1000000) : mtAppend (.ref S.length) d (S ++ [some (.lst xs)]) = .ok .non (S ++ [some (.lst (xs ++ [d]))]) := by
  simp only [mtAppend, get_last, set_last]
  rw [if_pos (by rw [line16]; omega)]
end
theorem ix_neg {S : Store} {d e : D} {xs : List D} (hl : lstOf S d = some xs) (h : xs.getLast? = some e) : opIx d (.int (-1)) S = .ok e S := by
  have hx : xs ≠ [] := fun q => by rw [q] at h; cases h
  have hp : 0 < xs.length := List.length_pos_iff.mpr hx
  have e1 : atI xs (-1) = some e := by
    unfold atI ixN
    rw [if_neg (by decide), if_pos (by omega)]
    show xs[((-1 : Int) + xs.length).toNat]? = some e
    rw [List.getLast?_eq_getElem?] at h
    rw [← h]
    congr 1
    omega
  cases d with
  | str z => simp only [lstOf] at hl; cases hl
  | tup z => simp only [lstOf] at hl; cases hl
  | scr z => simp only [lstOf] at hl; cases hl
  | lst z => simp only [opIx, hl, e1]
  | ref z => simp only [opIx, hl, e1]
  | non => simp only [opIx, hl, e1]
  | bl z => simp only [opIx, hl, e1]
  | int z => simp only [opIx, hl, e1]
theorem last_map {α : Type} {xs : List α} (f : α → D) (h : 0 < xs.length) : ∃ x ∈ xs, (xs.map f).getLast? = some (f x) := by
  have hx : xs ≠ [] := fun q => by rw [q] at h; exact absurd h (Nat.not_lt_zero 0)
  exact ⟨xs.getLast hx, List.getLast_mem hx, by rw [List.getLast?_map, List.getLast?_eq_some_getLast hx]; rfl⟩
theorem src_last {S : Store} {xs : List D} {e : EvE} {ρ : En} (h : e ρ (S ++ [some (.lst xs)]) = .ok (.ref S.length) (S ++ [some (.lst xs)])) : evSrc e ρ (S ++ [some (.lst xs)]) = .ok (.own S.length xs) (S ++ [some (.lst xs)]) := by
  rw [q_src, h]
  simp only [Res.bind, get_last]
section
variable {S G : Store} {xs : List D} {o : Option Ob}
theorem get_mid : (S ++ [o] ++ G)[S.length]? = some o := by simp
theorem lst_mid : lstOf (S ++ [some (.lst xs)] ++ G) (.ref S.length) = some xs := by simp only [lstOf, get_mid]
theorem clear_last : mtClear (.ref S.length) (S ++ [some (.lst xs)]) = .ok .non (S ++ [some (.lst [])]) := by simp only [mtClear, get_last, set_last]
theorem deref_ref {k : Nat} (h : S[k]? = some (some (.lst xs))) (hr : refsL 0 xs = true) : deref 40 S (.ref k) = some (.lst xs) := by
  have e : ∀ ds : List D, refsL 0 ds = true → derefL (deref 39 S) ds = some ds := fun ds => by
    induction ds with
    | nil => intro _; rfl
    | cons d ds ih =>
      intro h
      simp only [refsL, Bool.and_eq_true] at h
      simp only [derefL, ih h.2]
      have : deref 39 S d = some d := by unfold deref; rw [if_pos h.1]
      rw [this]
  unfold deref
  rw [if_neg (by simp [refsB])]
  simp only [h, e xs hr, Option.map_some]
theorem opEqN_ref {n k : Nat} {neg : Bool} (h : S[k]? = some (some (.lst xs))) (g : Good n (.lst xs)) (hn : n ≤ 64) : opEqN neg (.ref k) (.lst xs) S = .ok (.bl (!neg)) S := by
  have hr : refsL 0 xs = true := by have := g.refs; simpa only [refsB] using this
  unfold opEqN
  simp only [eqSc]
  unfold eqDeep
  rw [deref_ref h hr, deref_pure g.refs]
  simp only
  rw [if_pos ⟨shaped_of g hn, shaped_of g hn⟩, eqv_same g]
  cases neg <;> rfl
theorem cut_1 {a : D} : cutL (a :: xs) (some 1) none = xs := by
  unfold cutL
  rw [show (some (1 : Int)) = some ((1 : Nat) : Int) from rfl, HT.sIx_nat, HT.sIx_none]
  simp
end
section
variable {S : Store} {xs : List D}
theorem frzL_pure {f : D → Store → Option (D × Store)} : ∀ {ds : List D}, (∀ d ∈ ds, ∀ S, f d S = some (d, S)) → ∀ S, frzList f ds S = some (ds, S)
  | [], _, _ => rfl
  | d :: ds, h, S => by
    simp only [frzList, h d List.mem_cons_self S, frzL_pure (fun e he => h e (List.mem_cons_of_mem _ he)) S]
theorem frz_ref {k : Nat} (hk : S[k]? = some (some (.lst xs))) (h : refsL 0 xs = true) : frz 40 (.ref k) S = some (.lst xs, S.set k none) := by
  have e : ∀ S : Store, frzList (frz 39) xs S = some (xs, S) := frzL_pure fun d hd S => by
    have := refsL_iff.mp h d hd
    unfold frz
    rw [if_pos this]
  unfold frz
  rw [if_neg (by simp [refsB])]
  simp only [hk, e]
theorem frz_last (h : refsL 0 xs = true) : frz 40 (.ref S.length) (S ++ [some (.lst xs)]) = some (.lst xs, S ++ [none]) := by
  rw [frz_ref get_last h, set_last]
theorem opSl_li {d : D} {lo hi : Option Int} (hl : lstOf S d = some xs) : opSl d lo hi S = .ok (.lst (cutL xs lo hi)) S := by
  cases d with
  | str z => simp only [lstOf] at hl; cases hl
  | tup z => simp only [lstOf] at hl; cases hl
  | scr z => simp only [lstOf] at hl; cases hl
  | _ => simp only [opSl, hl]
theorem opSl_l {lo hi : Option Int} : opSl (.lst xs) lo hi S = .ok (.lst (cutL xs lo hi)) S := rfl
theorem cutL_map {α : Type} {ys : List α} {f : α → D} {lo hi : Option Int} : cutL (ys.map f) lo hi = (cutL ys lo hi).map f := by
  unfold cutL
  rw [List.length_map, List.map_take, List.map_drop]
theorem cutL_to {α : Type} {ys : List α} {k : Int} (h : 0 ≤ k) : cutL ys none (some k) = ys.take k.toNat := by
  obtain ⟨m, rfl⟩ : ∃ m : Nat, k = (m : Int) := ⟨k.toNat, by omega⟩
  unfold cutL
  rw [HT.sIx_nat, HT.sIx_none]
  simp
theorem cutL_from {α : Type} {ys : List α} {k : Int} (h : 0 ≤ k) : cutL ys (some k) none = ys.drop k.toNat := by
  obtain ⟨m, rfl⟩ : ∃ m : Nat, k = (m : Int) := ⟨k.toNat, by omega⟩
  unfold cutL
  rw [HT.sIx_nat, HT.sIx_none]
  simp only [Int.toNat_natCast]
  by_cases hk : m ≤ ys.length
  · rw [Nat.min_eq_left hk, List.take_of_length_le (by simp)]
  · rw [Nat.min_eq_right (by omega), List.drop_of_length_le (by omega), List.drop_of_length_le (by omega)]; simp
theorem cutL_mid {α : Type} {ys : List α} {j k : Int} (h : 0 ≤ j) (hk : 0 ≤ k) (hj : j.toNat ≤ ys.length) (hk2 : k.toNat ≤ ys.length) : cutL ys (some j) (some k) = (ys.drop j.toNat).take (k.toNat - j.toNat) := by
  obtain ⟨m, rfl⟩ : ∃ m : Nat, k = (m : Int) := ⟨k.toNat, by omega⟩
  obtain ⟨q, rfl⟩ : ∃ m : Nat, j = (m : Int) := ⟨j.toNat, by omega⟩
  unfold cutL
  rw [HT.sIx_nat, HT.sIx_nat]
  simp only [Int.toNat_natCast] at *
  rw [Nat.min_eq_left hj, Nat.min_eq_left hk2]
theorem cutL_len {α : Type} {ys : List α} {lo hi : Option Int} : (cutL ys lo hi).length ≤ ys.length := by
  unfold cutL
  rw [List.length_take, List.length_drop]
  omega
/-- a text times a number, by its signs -/
theorem foldl_arr (x : Array Nat) : ∀ (n : Nat) (acc : Array Nat), ((List.replicate n x).foldl (· ++ ·) acc).toList = acc.toList ++ (List.replicate n x.toList).flatten
  | 0, acc => by simp
  | n + 1, acc => by
    rw [List.replicate_succ, List.foldl_cons, foldl_arr x n]
    simp [List.replicate_succ]
theorem mul_len {z : Str} {n : Nat} (h : 1 < n) (hz : 0 < z.length) : (Txt.mul z (n : Int)).length = n * z.length ∧ ∀ c ∈ (Txt.mul z (n : Int)).cps.toList, c ∈ z.cps.toList := by
  have e : Txt.mul z (n : Int) = ⟨(List.replicate n z.cps).foldl (· ++ ·) #[]⟩ := by
    unfold Txt.mul
    rw [if_neg (by omega), if_neg ?_]
    · simp
    · simp only [Bool.or_eq_true, beq_iff_eq]
      omega
  have k := foldl_arr z.cps n #[]
  rw [e]
  refine ⟨?_, fun c hc => ?_⟩
  · show ((List.replicate n z.cps).foldl (· ++ ·) #[]).size = _
    rw [← Array.length_toList, k]
    simp [Str.length]
  · have hc : c ∈ ((List.replicate n z.cps).foldl (· ++ ·) #[]).toList := hc
    rw [k] at hc
    simp only [List.nil_append, List.mem_flatten, List.mem_replicate] at hc
    obtain ⟨l, ⟨_, rfl⟩, h2⟩ := hc
    exact h2
theorem opMul_s {z : Str} {n : Int} {S : Store} (h : z.length ≤ 1000) (h0 : 0 ≤ n) (h1 : n ≤ 1000) : opMul (.str z) (.int n) S = .ok (.str (Txt.mul z n)) S := by
  simp only [opMul, mulS]
  rw [if_pos ⟨h, h0, h1⟩]
end
/-- the item at a place that is one -/
theorem pick_at {α : Type} {xs : List α} {i : Int} (h0 : 0 ≤ i) (h1 : i < (xs.length : Int)) : ∃ x, x ∈ xs ∧ xs[i.toNat]? = some x := by
  have h : i.toNat < xs.length := by omega
  exact ⟨xs[i.toNat], List.getElem_mem h, List.getElem?_eq_getElem h⟩
theorem map_at {α : Type} {xs : List α} {f : α → D} {k : Nat} {x : α} (h : xs[k]? = some x) : (xs.map f)[k]? = some (f x) := by rw [List.getElem?_map, h]; rfl
end Ev

namespace Kd
open PySem PySem.Spec L2 Ev
def topS (i : Nat) : Stmt := PySem.Challenge.pw_kindhall_k45_granted_and_goal.main.body.getD i (.Pass ⟨0, 0, 0, 0⟩)
abbrev s_granted : Stmt := topS 1
theorem sc_granted : FnScope ["row"] ["row"] (defScope s_granted) := ⟨rfl, rfl, rfl, by decide +kernel, rfl, by decide +kernel, by decide +kernel⟩
abbrev s_goal : Stmt := topS 2
theorem sc_goal : FnScope ["row"] ["row"] (defScope s_goal) := ⟨rfl, rfl, rfl, by decide +kernel, rfl, by decide +kernel, by decide +kernel⟩
abbrev s__law_cell_at : Stmt := topS 4
theorem sc__law_cell_at : FnScope ["_law_script", "_law_k"] ["_law_script", "_law_k"] (defScope s__law_cell_at) := ⟨rfl, rfl, rfl, by decide +kernel, rfl, by decide +kernel, by decide +kernel⟩
abbrev s__law_stream : Stmt := topS 5
theorem sc__law_stream : FnScope ["_law_cell", "_law_many", "_law_found", "_law_number", "_law_k"] ["_law_cell", "_law_many"] (defScope s__law_stream) := ⟨rfl, rfl, rfl, by decide +kernel, rfl, by decide +kernel, by decide +kernel⟩
abbrev s__law_names : Stmt := topS 6
theorem sc__law_names : FnScope ["_law_cell", "_law_letters", "_law_size", "_law_xs", "_law_many", "_law_base", "_law_word", "_law_at", "_law_names_here", "_law_k", "_law_sign", "_law_x"] ["_law_cell"] (defScope s__law_names) := ⟨rfl, rfl, rfl, by decide +kernel, rfl, by decide +kernel, by decide +kernel⟩
abbrev s__law_thought : Stmt := topS 7
theorem sc__law_thought : FnScope ["_law_names_here", "_law_xs", "_law_at", "_law_deep", "_law_word", "_law_x", "_law_one", "_law_r"] ["_law_names_here", "_law_xs", "_law_at", "_law_deep"] (defScope s__law_thought) := ⟨rfl, rfl, rfl, by decide +kernel, rfl, by decide +kernel, by decide +kernel⟩
abbrev s__law_deeper : Stmt := topS 8
theorem sc__law_deeper : FnScope ["_law_names_here", "_law_one", "_law_x", "_law_k"] ["_law_names_here", "_law_one", "_law_x"] (defScope s__law_deeper) := ⟨rfl, rfl, rfl, by decide +kernel, rfl, by decide +kernel, by decide +kernel⟩
abbrev s__law_saying : Stmt := topS 9
theorem sc__law_saying : FnScope ["_law_names_here", "_law_cell", "_law_deep", "_law_xs", "_law_one", "_law_other", "_law_word", "_law_few", "_law_r", "_law_s", "_law_t"] ["_law_names_here", "_law_cell", "_law_deep"] (defScope s__law_saying) := ⟨rfl, rfl, rfl, by decide +kernel, rfl, by decide +kernel, by decide +kernel⟩
abbrev s__law_rows : Stmt := topS 10
theorem sc__law_rows : FnScope ["_law_saying_here", "_law_word"] ["_law_saying_here"] (defScope s__law_rows) := ⟨rfl, rfl, rfl, by decide +kernel, rfl, by decide +kernel, by decide +kernel⟩
abbrev s__law_granted : Stmt := topS 11
theorem sc__law_granted : FnScope ["_law_row"] ["_law_row"] (defScope s__law_granted) := ⟨rfl, rfl, rfl, by decide +kernel, rfl, by decide +kernel, by decide +kernel⟩
abbrev s__law_goal : Stmt := topS 12
theorem sc__law_goal : FnScope ["_law_row"] ["_law_row"] (defScope s__law_goal) := ⟨rfl, rfl, rfl, by decide +kernel, rfl, by decide +kernel, by decide +kernel⟩
abbrev s_law : Stmt := topS 13
theorem sc_law : FnScope ["_law_script", "_law_names_here", "_law_cell", "_law_row", "_law_told", "_law_pair"] ["_law_script"] (defScope s_law) := ⟨rfl, rfl, rfl, by decide +kernel, rfl, by decide +kernel, by decide +kernel⟩
/-! ### the evaluators -/
noncomputable def E_granted : EvF := hide (runKeep 0 (evSeq (evIf (evTest (evBin opEq (evBin opIx (evVar 0) (evC (.int 0))) (evC (.str "sub")))) (evRet (evNewL [evTup [evC (.int 0), evTup [evC (.str "link"), evC (.str "X"), evBin opIx (evVar 0) (evC (.int 1)), evC (.str "Y")]]])) evNx)
    (evSeq (evIf (evTest (evBin opEq (evBin opIx (evVar 0) (evC (.int 0))) (evC (.str "chain")))) (evRet (evNewL [evTup [evUn opNeg (evC (.int 1)), evTup [evC (.str "link"), evC (.str "X"), evBin opIx (evVar 0) (evC (.int 1)), evC (.str "Y")]], evTup [evC (.int 0), evTup [evC (.str "link"), evC (.str "Y"), evBin opIx (evVar 0) (evC (.int 2)), evC (.str "Z")]]])) evNx)
    (evRet (evNewL [])))))
theorem x_granted : E_granted = runKeep 0 (evSeq (evIf (evTest (evBin opEq (evBin opIx (evVar 0) (evC (.int 0))) (evC (.str "sub")))) (evRet (evNewL [evTup [evC (.int 0), evTup [evC (.str "link"), evC (.str "X"), evBin opIx (evVar 0) (evC (.int 1)), evC (.str "Y")]]])) evNx)
    (evSeq (evIf (evTest (evBin opEq (evBin opIx (evVar 0) (evC (.int 0))) (evC (.str "chain")))) (evRet (evNewL [evTup [evUn opNeg (evC (.int 1)), evTup [evC (.str "link"), evC (.str "X"), evBin opIx (evVar 0) (evC (.int 1)), evC (.str "Y")]], evTup [evC (.int 0), evTup [evC (.str "link"), evC (.str "Y"), evBin opIx (evVar 0) (evC (.int 2)), evC (.str "Z")]]])) evNx)
    (evRet (evNewL [])))) := hide_eq _
noncomputable def E_goal : EvF := hide (runDef 0 (evSeq (evIf (evTest (evBin opEq (evBin opIx (evVar 0) (evC (.int 0))) (evC (.str "under")))) (evRet (evTup [evC (.str "is"), evBin opIx (evVar 0) (evC (.int 1)), evBin opIx (evVar 0) (evC (.int 2))])) evNx)
    (evSeq (evIf (evTest (evBin opEq (evBin opIx (evVar 0) (evC (.int 0))) (evC (.str "mark")))) (evRet (evTup [evC (.str "is"), evTup [evC (.str "thing"), evBin opIx (evVar 0) (evC (.int 1))], evBin opIx (evVar 0) (evC (.int 2))])) evNx)
    (evSeq (evIf (evTest (evBin opEq (evBin opIx (evVar 0) (evC (.int 0))) (evC (.str "link")))) (evRet (evTup [evC (.str "tied"), evTup [evC (.str "thing"), evBin opIx (evVar 0) (evC (.int 1))], evBin opIx (evVar 0) (evC (.int 2)), evTup [evC (.str "thing"), evBin opIx (evVar 0) (evC (.int 3))]])) evNx)
    (evSeq (evIf (evTest (evBin opEq (evBin opIx (evVar 0) (evC (.int 0))) (evC (.str "sub")))) (evRet (evTup [evC (.str "tied"), evTup [evC (.str "thing"), evC (.str "X")], evBin opIx (evVar 0) (evC (.int 2)), evTup [evC (.str "thing"), evC (.str "Y")]])) evNx)
    (evRet (evTup [evC (.str "tied"), evTup [evC (.str "thing"), evC (.str "X")], evBin opIx (evVar 0) (evC (.int 3)), evTup [evC (.str "thing"), evC (.str "Z")]])))))))
theorem x_goal : E_goal = runDef 0 (evSeq (evIf (evTest (evBin opEq (evBin opIx (evVar 0) (evC (.int 0))) (evC (.str "under")))) (evRet (evTup [evC (.str "is"), evBin opIx (evVar 0) (evC (.int 1)), evBin opIx (evVar 0) (evC (.int 2))])) evNx)
    (evSeq (evIf (evTest (evBin opEq (evBin opIx (evVar 0) (evC (.int 0))) (evC (.str "mark")))) (evRet (evTup [evC (.str "is"), evTup [evC (.str "thing"), evBin opIx (evVar 0) (evC (.int 1))], evBin opIx (evVar 0) (evC (.int 2))])) evNx)
    (evSeq (evIf (evTest (evBin opEq (evBin opIx (evVar 0) (evC (.int 0))) (evC (.str "link")))) (evRet (evTup [evC (.str "tied"), evTup [evC (.str "thing"), evBin opIx (evVar 0) (evC (.int 1))], evBin opIx (evVar 0) (evC (.int 2)), evTup [evC (.str "thing"), evBin opIx (evVar 0) (evC (.int 3))]])) evNx)
    (evSeq (evIf (evTest (evBin opEq (evBin opIx (evVar 0) (evC (.int 0))) (evC (.str "sub")))) (evRet (evTup [evC (.str "tied"), evTup [evC (.str "thing"), evC (.str "X")], evBin opIx (evVar 0) (evC (.int 2)), evTup [evC (.str "thing"), evC (.str "Y")]])) evNx)
    (evRet (evTup [evC (.str "tied"), evTup [evC (.str "thing"), evC (.str "X")], evBin opIx (evVar 0) (evC (.int 3)), evTup [evC (.str "thing"), evC (.str "Z")]])))))) := hide_eq _
noncomputable def E__law_cell_at : EvF := hide (runDef 0 (evSeq (evIf (evTest (evBin opLtI (evVar 1) (evB opLen [evVar 0]))) (evRet (evBin opIx (evVar 0) (evVar 1))) evNx)
    (evRet (evC (.int 0)))))
theorem x__law_cell_at : E__law_cell_at = runDef 0 (evSeq (evIf (evTest (evBin opLtI (evVar 1) (evB opLen [evVar 0]))) (evRet (evBin opIx (evVar 0) (evVar 1))) evNx)
    (evRet (evC (.int 0)))) := hide_eq _
noncomputable def B__law_stream_1 : EvS := (evSeq (evSet 3 (evBin opMod (evBin opAdd (evBin opAdd (evBin opMul (evVar 3) (evVar 3)) (evBin opMul (evC (.int 48271)) (evVar 3))) (evVar 4)) (evC (.int 2147483647))))
    (evDrop (evL1 mtAppend (evVar 2) (evVar 3))))
noncomputable def E__law_stream : EvF := hide (runDef 3 (evSeq (evSet 2 (evNewL []))
    (evSeq (evSet 3 (evBin opAdd (evBin opMod (evVar 0) (evC (.int 2147483647))) (evC (.int 48271))))
    (evSeq (evFor (gN 4) (evRng [evBin opAdd (evVar 1) (evC (.int 1))]) B__law_stream_1)
    (evRet (evSl (evVar 2) (some (evC (.int 1))) none))))))
theorem x__law_stream : E__law_stream = runDef 3 (evSeq (evSet 2 (evNewL []))
    (evSeq (evSet 3 (evBin opAdd (evBin opMod (evVar 0) (evC (.int 2147483647))) (evC (.int 48271))))
    (evSeq (evFor (gN 4) (evRng [evBin opAdd (evVar 1) (evC (.int 1))]) B__law_stream_1)
    (evRet (evSl (evVar 2) (some (evC (.int 1))) none))))) := hide_eq _
noncomputable def C__law_names_1 : EvE := evLc (evSrc (evSl (evVar 3) none (some (evVar 2)))) (gN 11) (evTrue) (evBin opIx (evVar 1) (evBin opMod (evVar 11) (evB opLen [evVar 1]))) [11]
noncomputable def C__law_names_2 : EvE := evLc (evRng [evVar 4]) (gN 9) (evTrue) (evSl (evVar 6) none (some (evBin opAdd (evVar 9) (evC (.int 1))))) [9]
noncomputable def B__law_names_1 : EvS := (evSeq (evSet 10 (evBin opIx (evVar 1) (evBin opMod (evBin opAdd (evBin opIx (evVar 3) (evVar 7)) (evVar 9)) (evB opLen [evVar 1]))))
    (evDrop (evL1 mtAppend (evVar 8) (evBin opAdd (evBin opAdd (evStr1 opJoin (evC (.str "")) (evSl (evVar 5) none (some (evVar 7)))) (evVar 10)) (evStr1 opJoin (evC (.str "")) (evSl (evVar 5) (some (evBin opAdd (evVar 7) (evC (.int 1)))) none))))))
noncomputable def E__law_names : EvF := hide (runDef 11 (evSeq (evSet 1 (evC (.str "bcdfghjklmnpqrstvwxyz")))
    (evSeq (evSet 2 (evBin opAdd (evC (.int 1)) (evBin opMod (evVar 0) (evC (.int 8)))))
    (evSeq (evIf (evTest (evBin opEq (evBin opMod (evBin opDiv (evVar 0) (evC (.int 8))) (evC (.int 4))) (evC (.int 1)))) (evSeq (evSet 1 (evC (.str "abcdefghijklmnopqrstuvwxyz")))
    (evSet 2 (evBin opAdd (evC (.int 9)) (evBin opMod (evBin opDiv (evVar 0) (evC (.int 32))) (evC (.int 4)))))) evNx)
    (evSeq (evSet 3 (evCall0 E__law_stream [evBin opDiv (evVar 0) (evC (.int 128)), evBin opAdd (evVar 2) (evC (.int 2))] []))
    (evSeq (evSet 4 (evBin opAdd (evC (.int 3)) (evBin opMod (evBin opIx (evVar 3) (evBin opAdd (evVar 2) (evC (.int 1)))) (evC (.int 4)))))
    (evSeq (evSet 5 (C__law_names_1))
    (evSeq (evIf (evTest (evBin opEq (evBin opMod (evBin opDiv (evVar 0) (evC (.int 8))) (evC (.int 4))) (evC (.int 2)))) (evSeq (evSet 6 (evBin opMul (evStr1 opJoin (evC (.str "")) (evVar 5)) (evC (.int 6))))
    (evRet (C__law_names_2))) evNx)
    (evSeq (evSet 7 (evBin opMod (evBin opIx (evVar 3) (evVar 2)) (evVar 2)))
    (evSeq (evSet 8 (evNewL []))
    (evSeq (evFor (gN 9) (evRng [evVar 4]) B__law_names_1)
    (evRet (evFrz (evVar 8))))))))))))))
theorem x__law_names : E__law_names = runDef 11 (evSeq (evSet 1 (evC (.str "bcdfghjklmnpqrstvwxyz")))
    (evSeq (evSet 2 (evBin opAdd (evC (.int 1)) (evBin opMod (evVar 0) (evC (.int 8)))))
    (evSeq (evIf (evTest (evBin opEq (evBin opMod (evBin opDiv (evVar 0) (evC (.int 8))) (evC (.int 4))) (evC (.int 1)))) (evSeq (evSet 1 (evC (.str "abcdefghijklmnopqrstuvwxyz")))
    (evSet 2 (evBin opAdd (evC (.int 9)) (evBin opMod (evBin opDiv (evVar 0) (evC (.int 32))) (evC (.int 4)))))) evNx)
    (evSeq (evSet 3 (evCall0 E__law_stream [evBin opDiv (evVar 0) (evC (.int 128)), evBin opAdd (evVar 2) (evC (.int 2))] []))
    (evSeq (evSet 4 (evBin opAdd (evC (.int 3)) (evBin opMod (evBin opIx (evVar 3) (evBin opAdd (evVar 2) (evC (.int 1)))) (evC (.int 4)))))
    (evSeq (evSet 5 (C__law_names_1))
    (evSeq (evIf (evTest (evBin opEq (evBin opMod (evBin opDiv (evVar 0) (evC (.int 8))) (evC (.int 4))) (evC (.int 2)))) (evSeq (evSet 6 (evBin opMul (evStr1 opJoin (evC (.str "")) (evVar 5)) (evC (.int 6))))
    (evRet (C__law_names_2))) evNx)
    (evSeq (evSet 7 (evBin opMod (evBin opIx (evVar 3) (evVar 2)) (evVar 2)))
    (evSeq (evSet 8 (evNewL []))
    (evSeq (evFor (gN 9) (evRng [evVar 4]) B__law_names_1)
    (evRet (evFrz (evVar 8))))))))))))) := hide_eq _
noncomputable def E__law_thought : Nat → EvF
  | 0 => fun _ _ => .stuck
  | n + 1 => hide (runDef 4 (evSeq (evSet 4 (evBin opMod (evBin opIx (evVar 1) (evVar 2)) (evC (.int 8))))
    (evSeq (evSet 5 (evBin opDiv (evBin opIx (evVar 1) (evVar 2)) (evC (.int 8))))
    (evSeq (evIf (evAnd (evTest (evBin opGt (evVar 3) (evC (.int 0)))) (evTest (evBin opEq (evVar 4) (evC (.int 7))))) (evSeq (evSet 6 (evCall0 (E__law_thought n) [evVar 0, evVar 1, evBin opAdd (evBin opMul (evC (.int 2)) (evVar 2)) (evC (.int 1)), evBin opSub (evVar 3) (evC (.int 1))] []))
    (evRet (evTup [evC (.str "both"), evVar 6, evCall0 (E__law_thought n) [evVar 0, evVar 1, evBin opAdd (evBin opMul (evC (.int 2)) (evVar 2)) (evC (.int 2)), evBin opSub (evVar 3) (evC (.int 1))] []]))) evNx)
    (evSeq (evIf (evAnd (evTest (evBin opGt (evVar 3) (evC (.int 0)))) (evTest (evBin opGt (evVar 4) (evC (.int 4))))) (evSeq (evSet 7 (evBin opIx (evVar 0) (evBin opMod (evVar 5) (evBin opAdd (evC (.int 2)) (evBin opMod (evB opLen [evVar 0]) (evC (.int 2)))))))
    (evRet (evTup [evC (.str "some"), evVar 7, evCall0 (E__law_thought n) [evVar 0, evVar 1, evBin opAdd (evBin opMul (evC (.int 2)) (evVar 2)) (evC (.int 1)), evBin opSub (evVar 3) (evC (.int 1))] []]))) evNx)
    (evSeq (evIf (evTest (evBin opEq (evVar 4) (evC (.int 4)))) (evRet (evBin opIx (evLst [evTup [evC (.str "any")], evTup [evC (.str "any")], evTup [evC (.str "none")]]) (evBin opMod (evVar 5) (evC (.int 3))))) evNx)
    (evRet (evTup [evC (.str "kind"), evBin opIx (evVar 0) (evBin opMod (evVar 5) (evB opLen [evVar 0]))]))))))))
theorem x__law_thought (n : Nat) : E__law_thought (n + 1) = runDef 4 (evSeq (evSet 4 (evBin opMod (evBin opIx (evVar 1) (evVar 2)) (evC (.int 8))))
    (evSeq (evSet 5 (evBin opDiv (evBin opIx (evVar 1) (evVar 2)) (evC (.int 8))))
    (evSeq (evIf (evAnd (evTest (evBin opGt (evVar 3) (evC (.int 0)))) (evTest (evBin opEq (evVar 4) (evC (.int 7))))) (evSeq (evSet 6 (evCall0 (E__law_thought n) [evVar 0, evVar 1, evBin opAdd (evBin opMul (evC (.int 2)) (evVar 2)) (evC (.int 1)), evBin opSub (evVar 3) (evC (.int 1))] []))
    (evRet (evTup [evC (.str "both"), evVar 6, evCall0 (E__law_thought n) [evVar 0, evVar 1, evBin opAdd (evBin opMul (evC (.int 2)) (evVar 2)) (evC (.int 2)), evBin opSub (evVar 3) (evC (.int 1))] []]))) evNx)
    (evSeq (evIf (evAnd (evTest (evBin opGt (evVar 3) (evC (.int 0)))) (evTest (evBin opGt (evVar 4) (evC (.int 4))))) (evSeq (evSet 7 (evBin opIx (evVar 0) (evBin opMod (evVar 5) (evBin opAdd (evC (.int 2)) (evBin opMod (evB opLen [evVar 0]) (evC (.int 2)))))))
    (evRet (evTup [evC (.str "some"), evVar 7, evCall0 (E__law_thought n) [evVar 0, evVar 1, evBin opAdd (evBin opMul (evC (.int 2)) (evVar 2)) (evC (.int 1)), evBin opSub (evVar 3) (evC (.int 1))] []]))) evNx)
    (evSeq (evIf (evTest (evBin opEq (evVar 4) (evC (.int 4)))) (evRet (evBin opIx (evLst [evTup [evC (.str "any")], evTup [evC (.str "any")], evTup [evC (.str "none")]]) (evBin opMod (evVar 5) (evC (.int 3))))) evNx)
    (evRet (evTup [evC (.str "kind"), evBin opIx (evVar 0) (evBin opMod (evVar 5) (evB opLen [evVar 0]))]))))))) := by rw [E__law_thought]; exact hide_eq _
noncomputable def B__law_deeper_1 : EvS := (evIf (evTest (evBin opEq (evBin opMod (evBin opDiv (evVar 2) (evBin opAdd (evC (.int 7)) (evVar 3))) (evC (.int 4))) (evC (.int 0)))) (evSet 1 (evTup [evC (.str "both"), evTup [evC (.str "kind"), evBin opIx (evVar 0) (evBin opMod (evBin opDiv (evVar 2) (evC (.int 11))) (evB opLen [evVar 0]))], evVar 1])) (evSet 1 (evTup [evC (.str "some"), evBin opIx (evVar 0) (evBin opMod (evBin opDiv (evVar 2) (evBin opAdd (evC (.int 3)) (evBin opMul (evC (.int 2)) (evVar 3)))) (evBin opAdd (evC (.int 2)) (evBin opMod (evB opLen [evVar 0]) (evC (.int 2))))), evVar 1])))
noncomputable def E__law_deeper : EvF := hide (runDef 1 (evSeq (evFor (gN 3) (evRng [evBin opAdd (evC (.int 2)) (evBin opMod (evVar 2) (evC (.int 3)))]) B__law_deeper_1)
    (evRet (evVar 1))))
theorem x__law_deeper : E__law_deeper = runDef 1 (evSeq (evFor (gN 3) (evRng [evBin opAdd (evC (.int 2)) (evBin opMod (evVar 2) (evC (.int 3)))]) B__law_deeper_1)
    (evRet (evVar 1))) := hide_eq _
noncomputable def E__law_saying : EvF := hide (runDef 8 (evSeq (evSet 3 (evCall0 E__law_stream [evVar 1, evC (.int 17)] []))
    (evSeq (evSet 4 (evCall0 (E__law_thought 20) [evVar 0, evSl (evVar 3) none (some (evC (.int 7))), evC (.int 0), evVar 2] []))
    (evSeq (evSet 5 (evCall0 (E__law_thought 20) [evVar 0, evSl (evVar 3) (some (evC (.int 7))) (some (evC (.int 14))), evC (.int 0), evVar 2] []))
    (evSeq (evIf (evTest (evBin opEq (evBin opMod (evBin opDiv (evBin opIx (evVar 3) (evC (.int 15))) (evC (.int 3))) (evC (.int 8))) (evC (.int 0)))) (evSet 4 (evCall0 E__law_deeper [evVar 0, evVar 4, evBin opDiv (evBin opIx (evVar 3) (evC (.int 15))) (evC (.int 24))] [])) evNx)
    (evSeq (evIf (evTest (evBin opEq (evBin opMod (evBin opDiv (evBin opIx (evVar 3) (evC (.int 16))) (evC (.int 3))) (evC (.int 8))) (evC (.int 0)))) (evSet 5 (evCall0 E__law_deeper [evVar 0, evVar 5, evBin opDiv (evBin opIx (evVar 3) (evC (.int 16))) (evC (.int 24))] [])) evNx)
    (evSeq (evSet 6 (evBin opMod (evBin opIx (evVar 3) (evC (.int 14))) (evC (.int 16))))
    (evSeq (evSet 7 (evBin opAdd (evC (.int 2)) (evBin opMod (evB opLen [evVar 0]) (evC (.int 2)))))
    (evSeq (evSet 8 (evBin opIx (evVar 0) (evBin opMod (evBin opDiv (evBin opIx (evVar 3) (evC (.int 14))) (evC (.int 16))) (evVar 7))))
    (evSeq (evSet 9 (evBin opIx (evVar 0) (evBin opMod (evBin opIx (evVar 3) (evC (.int 15))) (evVar 7))))
    (evSeq (evSet 10 (evBin opIx (evVar 0) (evBin opMod (evBin opIx (evVar 3) (evC (.int 16))) (evVar 7))))
    (evSeq (evIf (evTest (evBin opGt (evVar 6) (evC (.int 13)))) (evRet (evTup [evC (.str "link"), evVar 8, evVar 9, evVar 10])) evNx)
    (evSeq (evIf (evTest (evBin opGt (evVar 6) (evC (.int 11)))) (evRet (evTup [evC (.str "thing"), evVar 8, evVar 4])) evNx)
    (evSeq (evIf (evTest (evBin opGt (evVar 6) (evC (.int 8)))) (evRet (evBin opIx (evLst [evTup [evC (.str "tie"), evVar 8, evVar 9], evTup [evC (.str "chain"), evVar 8, evVar 9, evVar 10], evTup [evC (.str "runs"), evVar 8]]) (evBin opSub (evVar 6) (evC (.int 9))))) evNx)
    (evSeq (evIf (evTest (evBin opEq (evVar 6) (evC (.int 8)))) (evRet (evTup [evC (.str "same"), evVar 4, evVar 5])) evNx)
    (evSeq (evIf (evTest (evBin opGt (evVar 6) (evC (.int 5)))) (evRet (evTup [evC (.str "no"), evVar 4, evVar 5])) evNx)
    (evRet (evTup [evC (.str "every"), evVar 4, evVar 5]))))))))))))))))))
theorem x__law_saying : E__law_saying = runDef 8 (evSeq (evSet 3 (evCall0 E__law_stream [evVar 1, evC (.int 17)] []))
    (evSeq (evSet 4 (evCall0 (E__law_thought 20) [evVar 0, evSl (evVar 3) none (some (evC (.int 7))), evC (.int 0), evVar 2] []))
    (evSeq (evSet 5 (evCall0 (E__law_thought 20) [evVar 0, evSl (evVar 3) (some (evC (.int 7))) (some (evC (.int 14))), evC (.int 0), evVar 2] []))
    (evSeq (evIf (evTest (evBin opEq (evBin opMod (evBin opDiv (evBin opIx (evVar 3) (evC (.int 15))) (evC (.int 3))) (evC (.int 8))) (evC (.int 0)))) (evSet 4 (evCall0 E__law_deeper [evVar 0, evVar 4, evBin opDiv (evBin opIx (evVar 3) (evC (.int 15))) (evC (.int 24))] [])) evNx)
    (evSeq (evIf (evTest (evBin opEq (evBin opMod (evBin opDiv (evBin opIx (evVar 3) (evC (.int 16))) (evC (.int 3))) (evC (.int 8))) (evC (.int 0)))) (evSet 5 (evCall0 E__law_deeper [evVar 0, evVar 5, evBin opDiv (evBin opIx (evVar 3) (evC (.int 16))) (evC (.int 24))] [])) evNx)
    (evSeq (evSet 6 (evBin opMod (evBin opIx (evVar 3) (evC (.int 14))) (evC (.int 16))))
    (evSeq (evSet 7 (evBin opAdd (evC (.int 2)) (evBin opMod (evB opLen [evVar 0]) (evC (.int 2)))))
    (evSeq (evSet 8 (evBin opIx (evVar 0) (evBin opMod (evBin opDiv (evBin opIx (evVar 3) (evC (.int 14))) (evC (.int 16))) (evVar 7))))
    (evSeq (evSet 9 (evBin opIx (evVar 0) (evBin opMod (evBin opIx (evVar 3) (evC (.int 15))) (evVar 7))))
    (evSeq (evSet 10 (evBin opIx (evVar 0) (evBin opMod (evBin opIx (evVar 3) (evC (.int 16))) (evVar 7))))
    (evSeq (evIf (evTest (evBin opGt (evVar 6) (evC (.int 13)))) (evRet (evTup [evC (.str "link"), evVar 8, evVar 9, evVar 10])) evNx)
    (evSeq (evIf (evTest (evBin opGt (evVar 6) (evC (.int 11)))) (evRet (evTup [evC (.str "thing"), evVar 8, evVar 4])) evNx)
    (evSeq (evIf (evTest (evBin opGt (evVar 6) (evC (.int 8)))) (evRet (evBin opIx (evLst [evTup [evC (.str "tie"), evVar 8, evVar 9], evTup [evC (.str "chain"), evVar 8, evVar 9, evVar 10], evTup [evC (.str "runs"), evVar 8]]) (evBin opSub (evVar 6) (evC (.int 9))))) evNx)
    (evSeq (evIf (evTest (evBin opEq (evVar 6) (evC (.int 8)))) (evRet (evTup [evC (.str "same"), evVar 4, evVar 5])) evNx)
    (evSeq (evIf (evTest (evBin opGt (evVar 6) (evC (.int 5)))) (evRet (evTup [evC (.str "no"), evVar 4, evVar 5])) evNx)
    (evRet (evTup [evC (.str "every"), evVar 4, evVar 5]))))))))))))))))) := hide_eq _
noncomputable def E__law_rows : EvF := hide (runDef 1 (evSeq (evSet 1 (evBin opIx (evVar 0) (evC (.int 0))))
    (evSeq (evIf (evTest (evBin opEq (evVar 1) (evC (.str "every")))) (evRet (evLst [evTup [evC (.str "under"), evBin opIx (evVar 0) (evC (.int 1)), evBin opIx (evVar 0) (evC (.int 2))]])) evNx)
    (evSeq (evIf (evTest (evBin opEq (evVar 1) (evC (.str "same")))) (evRet (evLst [evTup [evC (.str "under"), evBin opIx (evVar 0) (evC (.int 1)), evBin opIx (evVar 0) (evC (.int 2))], evTup [evC (.str "under"), evBin opIx (evVar 0) (evC (.int 2)), evBin opIx (evVar 0) (evC (.int 1))]])) evNx)
    (evSeq (evIf (evTest (evBin opEq (evVar 1) (evC (.str "no")))) (evRet (evLst [evTup [evC (.str "under"), evTup [evC (.str "both"), evBin opIx (evVar 0) (evC (.int 1)), evBin opIx (evVar 0) (evC (.int 2))], evTup [evC (.str "none")]]])) evNx)
    (evSeq (evIf (evTest (evBin opEq (evVar 1) (evC (.str "tie")))) (evRet (evLst [evTup [evC (.str "sub"), evBin opIx (evVar 0) (evC (.int 1)), evBin opIx (evVar 0) (evC (.int 2))]])) evNx)
    (evSeq (evIf (evTest (evBin opEq (evVar 1) (evC (.str "runs")))) (evRet (evLst [evTup [evC (.str "chain"), evBin opIx (evVar 0) (evC (.int 1)), evBin opIx (evVar 0) (evC (.int 1)), evBin opIx (evVar 0) (evC (.int 1))]])) evNx)
    (evSeq (evIf (evTest (evBin opEq (evVar 1) (evC (.str "thing")))) (evRet (evLst [evTup [evC (.str "mark"), evBin opIx (evVar 0) (evC (.int 1)), evBin opIx (evVar 0) (evC (.int 2))]])) evNx)
    (evRet (evLst [evVar 0]))))))))))
theorem x__law_rows : E__law_rows = runDef 1 (evSeq (evSet 1 (evBin opIx (evVar 0) (evC (.int 0))))
    (evSeq (evIf (evTest (evBin opEq (evVar 1) (evC (.str "every")))) (evRet (evLst [evTup [evC (.str "under"), evBin opIx (evVar 0) (evC (.int 1)), evBin opIx (evVar 0) (evC (.int 2))]])) evNx)
    (evSeq (evIf (evTest (evBin opEq (evVar 1) (evC (.str "same")))) (evRet (evLst [evTup [evC (.str "under"), evBin opIx (evVar 0) (evC (.int 1)), evBin opIx (evVar 0) (evC (.int 2))], evTup [evC (.str "under"), evBin opIx (evVar 0) (evC (.int 2)), evBin opIx (evVar 0) (evC (.int 1))]])) evNx)
    (evSeq (evIf (evTest (evBin opEq (evVar 1) (evC (.str "no")))) (evRet (evLst [evTup [evC (.str "under"), evTup [evC (.str "both"), evBin opIx (evVar 0) (evC (.int 1)), evBin opIx (evVar 0) (evC (.int 2))], evTup [evC (.str "none")]]])) evNx)
    (evSeq (evIf (evTest (evBin opEq (evVar 1) (evC (.str "tie")))) (evRet (evLst [evTup [evC (.str "sub"), evBin opIx (evVar 0) (evC (.int 1)), evBin opIx (evVar 0) (evC (.int 2))]])) evNx)
    (evSeq (evIf (evTest (evBin opEq (evVar 1) (evC (.str "runs")))) (evRet (evLst [evTup [evC (.str "chain"), evBin opIx (evVar 0) (evC (.int 1)), evBin opIx (evVar 0) (evC (.int 1)), evBin opIx (evVar 0) (evC (.int 1))]])) evNx)
    (evSeq (evIf (evTest (evBin opEq (evVar 1) (evC (.str "thing")))) (evRet (evLst [evTup [evC (.str "mark"), evBin opIx (evVar 0) (evC (.int 1)), evBin opIx (evVar 0) (evC (.int 2))]])) evNx)
    (evRet (evLst [evVar 0]))))))))) := hide_eq _
noncomputable def E__law_granted : EvF := hide (runDef 0 (evSeq (evIf (evTest (evBin opEq (evBin opIx (evVar 0) (evC (.int 0))) (evC (.str "sub")))) (evRet (evLst [evTup [evC (.int 0), evTup [evC (.str "link"), evC (.str "X"), evBin opIx (evVar 0) (evC (.int 1)), evC (.str "Y")]]])) evNx)
    (evSeq (evIf (evTest (evBin opEq (evBin opIx (evVar 0) (evC (.int 0))) (evC (.str "chain")))) (evRet (evLst [evTup [evUn opNeg (evC (.int 1)), evTup [evC (.str "link"), evC (.str "X"), evBin opIx (evVar 0) (evC (.int 1)), evC (.str "Y")]], evTup [evC (.int 0), evTup [evC (.str "link"), evC (.str "Y"), evBin opIx (evVar 0) (evC (.int 2)), evC (.str "Z")]]])) evNx)
    (evRet (evLst [])))))
theorem x__law_granted : E__law_granted = runDef 0 (evSeq (evIf (evTest (evBin opEq (evBin opIx (evVar 0) (evC (.int 0))) (evC (.str "sub")))) (evRet (evLst [evTup [evC (.int 0), evTup [evC (.str "link"), evC (.str "X"), evBin opIx (evVar 0) (evC (.int 1)), evC (.str "Y")]]])) evNx)
    (evSeq (evIf (evTest (evBin opEq (evBin opIx (evVar 0) (evC (.int 0))) (evC (.str "chain")))) (evRet (evLst [evTup [evUn opNeg (evC (.int 1)), evTup [evC (.str "link"), evC (.str "X"), evBin opIx (evVar 0) (evC (.int 1)), evC (.str "Y")]], evTup [evC (.int 0), evTup [evC (.str "link"), evC (.str "Y"), evBin opIx (evVar 0) (evC (.int 2)), evC (.str "Z")]]])) evNx)
    (evRet (evLst [])))) := hide_eq _
noncomputable def E__law_goal : EvF := hide (runDef 0 (evSeq (evIf (evTest (evBin opEq (evBin opIx (evVar 0) (evC (.int 0))) (evC (.str "under")))) (evRet (evTup [evC (.str "is"), evBin opIx (evVar 0) (evC (.int 1)), evBin opIx (evVar 0) (evC (.int 2))])) evNx)
    (evSeq (evIf (evTest (evBin opEq (evBin opIx (evVar 0) (evC (.int 0))) (evC (.str "mark")))) (evRet (evTup [evC (.str "is"), evTup [evC (.str "thing"), evBin opIx (evVar 0) (evC (.int 1))], evBin opIx (evVar 0) (evC (.int 2))])) evNx)
    (evSeq (evIf (evTest (evBin opEq (evBin opIx (evVar 0) (evC (.int 0))) (evC (.str "link")))) (evRet (evTup [evC (.str "tied"), evTup [evC (.str "thing"), evBin opIx (evVar 0) (evC (.int 1))], evBin opIx (evVar 0) (evC (.int 2)), evTup [evC (.str "thing"), evBin opIx (evVar 0) (evC (.int 3))]])) evNx)
    (evSeq (evIf (evTest (evBin opEq (evBin opIx (evVar 0) (evC (.int 0))) (evC (.str "sub")))) (evRet (evTup [evC (.str "tied"), evTup [evC (.str "thing"), evC (.str "X")], evBin opIx (evVar 0) (evC (.int 2)), evTup [evC (.str "thing"), evC (.str "Y")]])) evNx)
    (evRet (evTup [evC (.str "tied"), evTup [evC (.str "thing"), evC (.str "X")], evBin opIx (evVar 0) (evC (.int 3)), evTup [evC (.str "thing"), evC (.str "Z")]])))))))
theorem x__law_goal : E__law_goal = runDef 0 (evSeq (evIf (evTest (evBin opEq (evBin opIx (evVar 0) (evC (.int 0))) (evC (.str "under")))) (evRet (evTup [evC (.str "is"), evBin opIx (evVar 0) (evC (.int 1)), evBin opIx (evVar 0) (evC (.int 2))])) evNx)
    (evSeq (evIf (evTest (evBin opEq (evBin opIx (evVar 0) (evC (.int 0))) (evC (.str "mark")))) (evRet (evTup [evC (.str "is"), evTup [evC (.str "thing"), evBin opIx (evVar 0) (evC (.int 1))], evBin opIx (evVar 0) (evC (.int 2))])) evNx)
    (evSeq (evIf (evTest (evBin opEq (evBin opIx (evVar 0) (evC (.int 0))) (evC (.str "link")))) (evRet (evTup [evC (.str "tied"), evTup [evC (.str "thing"), evBin opIx (evVar 0) (evC (.int 1))], evBin opIx (evVar 0) (evC (.int 2)), evTup [evC (.str "thing"), evBin opIx (evVar 0) (evC (.int 3))]])) evNx)
    (evSeq (evIf (evTest (evBin opEq (evBin opIx (evVar 0) (evC (.int 0))) (evC (.str "sub")))) (evRet (evTup [evC (.str "tied"), evTup [evC (.str "thing"), evC (.str "X")], evBin opIx (evVar 0) (evC (.int 2)), evTup [evC (.str "thing"), evC (.str "Y")]])) evNx)
    (evRet (evTup [evC (.str "tied"), evTup [evC (.str "thing"), evC (.str "X")], evBin opIx (evVar 0) (evC (.int 3)), evTup [evC (.str "thing"), evC (.str "Z")]])))))) := hide_eq _
noncomputable def B_law_1 : EvS := (evIf (evOr (evNot (evTest (evIsI "int" (evBin opIx (evVar 5) (evC (.int 0)))))) (evTest (evIsI "bool" (evBin opIx (evVar 5) (evC (.int 0)))))) (evRet (evC (.bl false))) evNx)
noncomputable def B_law_2 : EvS := (evSeq (evSet 4 (evCall0 E_granted [evVar 3] []))
    (evSeq (evIf (evOr (evNot (evTest (evIsI "list" (evVar 4)))) (evOr (evTest (evBin opNe (evVar 4) (evCall0 E__law_granted [evVar 3] []))) (evTest (evBin opNe (evCall0 E_goal [evVar 3] []) (evCall0 E__law_goal [evVar 3] []))))) (evRet (evC (.bl false))) evNx)
    (evSeq (evFor (gN 5) (evSrc (evVar 4)) B_law_1)
    (evSeq (evDrop (evL1 mtAppend (evVar 4) (evTup [evC (.int 7), evTup [evC (.str "runs"), evBin opIx (evVar 1) (evC (.int 0))]])))
    (evIf (evTest (evBin opNe (evCall0 E_granted [evVar 3] []) (evCall0 E__law_granted [evVar 3] []))) (evRet (evC (.bl false))) evNx)))))
noncomputable def B_law_3 : EvS := (evFor (gN 3) (evSrc (evCall0 E__law_rows [evCall0 E__law_saying [evVar 1, evVar 2, evC (.int 2)] []] [])) B_law_2)
noncomputable def E_law : EvF := hide (runDef 5 (evSeq (evSet 1 (evCall0 E__law_names [evCall0 E__law_cell_at [evVar 0, evC (.int 0)] []] []))
    (evSeq (evFor (gN 2) (evSrc (evBin opAdd (evSl (evVar 0) (some (evC (.int 1))) (some (evC (.int 41)))) (evLst [evC (.int 5)]))) B_law_3)
    (evRet (evC (.bl true))))))
theorem x_law : E_law = runDef 5 (evSeq (evSet 1 (evCall0 E__law_names [evCall0 E__law_cell_at [evVar 0, evC (.int 0)] []] []))
    (evSeq (evFor (gN 2) (evSrc (evBin opAdd (evSl (evVar 0) (some (evC (.int 1))) (some (evC (.int 41)))) (evLst [evC (.int 5)]))) B_law_3)
    (evRet (evC (.bl true))))) := hide_eq _
/-! ### what the top has written -/
structure Txt (K : PySem.W.Frag) (mg : Str → Option Value) where
  a_granted : Addr
  d_granted : FuncData
  F_granted : Fun K "granted" "granted" s_granted a_granted d_granted
  g_granted : mg "granted" = some (.ref a_granted)
  b_granted : Binds K d_granted ["row"] []
  a_goal : Addr
  d_goal : FuncData
  F_goal : Fun K "goal" "goal" s_goal a_goal d_goal
  g_goal : mg "goal" = some (.ref a_goal)
  b_goal : Binds K d_goal ["row"] []
  a__law_cell_at : Addr
  d__law_cell_at : FuncData
  F__law_cell_at : Fun K "_law_cell_at" "_law_cell_at" s__law_cell_at a__law_cell_at d__law_cell_at
  g__law_cell_at : mg "_law_cell_at" = some (.ref a__law_cell_at)
  b__law_cell_at : Binds K d__law_cell_at ["_law_script", "_law_k"] []
  a__law_stream : Addr
  d__law_stream : FuncData
  F__law_stream : Fun K "_law_stream" "_law_stream" s__law_stream a__law_stream d__law_stream
  g__law_stream : mg "_law_stream" = some (.ref a__law_stream)
  b__law_stream : Binds K d__law_stream ["_law_cell", "_law_many"] []
  a__law_names : Addr
  d__law_names : FuncData
  F__law_names : Fun K "_law_names" "_law_names" s__law_names a__law_names d__law_names
  g__law_names : mg "_law_names" = some (.ref a__law_names)
  b__law_names : Binds K d__law_names ["_law_cell"] []
  a__law_thought : Addr
  d__law_thought : FuncData
  F__law_thought : Fun K "_law_thought" "_law_thought" s__law_thought a__law_thought d__law_thought
  g__law_thought : mg "_law_thought" = some (.ref a__law_thought)
  b__law_thought : Binds K d__law_thought ["_law_names_here", "_law_xs", "_law_at", "_law_deep"] []
  a__law_deeper : Addr
  d__law_deeper : FuncData
  F__law_deeper : Fun K "_law_deeper" "_law_deeper" s__law_deeper a__law_deeper d__law_deeper
  g__law_deeper : mg "_law_deeper" = some (.ref a__law_deeper)
  b__law_deeper : Binds K d__law_deeper ["_law_names_here", "_law_one", "_law_x"] []
  a__law_saying : Addr
  d__law_saying : FuncData
  F__law_saying : Fun K "_law_saying" "_law_saying" s__law_saying a__law_saying d__law_saying
  g__law_saying : mg "_law_saying" = some (.ref a__law_saying)
  b__law_saying : Binds K d__law_saying ["_law_names_here", "_law_cell", "_law_deep"] []
  a__law_rows : Addr
  d__law_rows : FuncData
  F__law_rows : Fun K "_law_rows" "_law_rows" s__law_rows a__law_rows d__law_rows
  g__law_rows : mg "_law_rows" = some (.ref a__law_rows)
  b__law_rows : Binds K d__law_rows ["_law_saying_here"] []
  a__law_granted : Addr
  d__law_granted : FuncData
  F__law_granted : Fun K "_law_granted" "_law_granted" s__law_granted a__law_granted d__law_granted
  g__law_granted : mg "_law_granted" = some (.ref a__law_granted)
  b__law_granted : Binds K d__law_granted ["_law_row"] []
  a__law_goal : Addr
  d__law_goal : FuncData
  F__law_goal : Fun K "_law_goal" "_law_goal" s__law_goal a__law_goal d__law_goal
  g__law_goal : mg "_law_goal" = some (.ref a__law_goal)
  b__law_goal : Binds K d__law_goal ["_law_row"] []
  a_law : Addr
  d_law : FuncData
  F_law : Fun K "law" "law" s_law a_law d_law
  g_law : mg "law" = some (.ref a_law)
  b_law : Binds K d_law ["_law_script"] []
  z_bool : mg "bool" = none
  z_int : mg "int" = none
  z_isinstance : mg "isinstance" = none
  z_len : mg "len" = none
  z_list : mg "list" = none
  z_range : mg "range" = none
section
variable {P : Program} {w : World} {K : PySem.W.Frag} {mg : Str → Option Value} {base : Heap} {cl : Str → Option Addr}
theorem ok_granted (T : Txt K mg) : FnOk P w K mg base CX0 1 T.a_granted T.d_granted ["row"] (sp0 K cl 1 E_granted) :=
  by
  rw [x_granted]
  exact fn0K T.F_granted sc_granted rfl fun cdv A outer s H E hr => by
    have hu := hu65 hr
    have nd := sc_granted.nd
    exact (ss_cons (s_if (t_eq hu (e_ix (e_var 0) (e_int)) (e_str)) (ss_one (s_ret (e_newL (a_cons (e_tup (a_cons (e_int) (a_cons (e_tup (a_cons (e_str) (a_cons (e_str) (a_cons (e_ix (e_var 0) (e_int)) (a_cons (e_str) (a_nil)))))) (a_nil)))) (a_nil))))) ss_nil)
    (ss_cons (s_if (t_eq hu (e_ix (e_var 0) (e_int)) (e_str)) (ss_one (s_ret (e_newL (a_cons (e_tup (a_cons (e_neg (e_int)) (a_cons (e_tup (a_cons (e_str) (a_cons (e_str) (a_cons (e_ix (e_var 0) (e_int)) (a_cons (e_str) (a_nil)))))) (a_nil)))) (a_cons (e_tup (a_cons (e_int) (a_cons (e_tup (a_cons (e_str) (a_cons (e_str) (a_cons (e_ix (e_var 0) (e_int)) (a_cons (e_str) (a_nil)))))) (a_nil)))) (a_nil)))))) ss_nil)
    (ss_one (s_ret (e_newL (a_nil))))))
theorem ok_goal (T : Txt K mg) : FnOk P w K mg base CX0 1 T.a_goal T.d_goal ["row"] (sp0 K cl 1 E_goal) :=
  by
  rw [x_goal]
  exact fn0 T.F_goal sc_goal rfl fun cdv A outer s H E hr => by
    have hu := hu65 hr
    have nd := sc_goal.nd
    exact (ss_cons (s_if (t_eq hu (e_ix (e_var 0) (e_int)) (e_str)) (ss_one (s_ret (e_tup (a_cons (e_str) (a_cons (e_ix (e_var 0) (e_int)) (a_cons (e_ix (e_var 0) (e_int)) (a_nil))))))) ss_nil)
    (ss_cons (s_if (t_eq hu (e_ix (e_var 0) (e_int)) (e_str)) (ss_one (s_ret (e_tup (a_cons (e_str) (a_cons (e_tup (a_cons (e_str) (a_cons (e_ix (e_var 0) (e_int)) (a_nil)))) (a_cons (e_ix (e_var 0) (e_int)) (a_nil))))))) ss_nil)
    (ss_cons (s_if (t_eq hu (e_ix (e_var 0) (e_int)) (e_str)) (ss_one (s_ret (e_tup (a_cons (e_str) (a_cons (e_tup (a_cons (e_str) (a_cons (e_ix (e_var 0) (e_int)) (a_nil)))) (a_cons (e_ix (e_var 0) (e_int)) (a_cons (e_tup (a_cons (e_str) (a_cons (e_ix (e_var 0) (e_int)) (a_nil)))) (a_nil)))))))) ss_nil)
    (ss_cons (s_if (t_eq hu (e_ix (e_var 0) (e_int)) (e_str)) (ss_one (s_ret (e_tup (a_cons (e_str) (a_cons (e_tup (a_cons (e_str) (a_cons (e_str) (a_nil)))) (a_cons (e_ix (e_var 0) (e_int)) (a_cons (e_tup (a_cons (e_str) (a_cons (e_str) (a_nil)))) (a_nil)))))))) ss_nil)
    (ss_one (s_ret (e_tup (a_cons (e_str) (a_cons (e_tup (a_cons (e_str) (a_cons (e_str) (a_nil)))) (a_cons (e_ix (e_var 0) (e_int)) (a_cons (e_tup (a_cons (e_str) (a_cons (e_str) (a_nil)))) (a_nil))))))))))))
theorem ok__law_cell_at (T : Txt K mg) : FnOk P w K mg base CX0 1 T.a__law_cell_at T.d__law_cell_at ["_law_script", "_law_k"] (sp0 K cl 2 E__law_cell_at) :=
  by
  rw [x__law_cell_at]
  exact fn0 T.F__law_cell_at sc__law_cell_at rfl fun cdv A outer s H E hr => by
    have hu := hu65 hr
    have nd := sc__law_cell_at.nd
    exact (ss_cons (s_if (t_lt (e_var 1) (e_len (by rfl) T.z_len (a_cons (e_var 0) (a_nil)))) (ss_one (s_ret (e_ix (e_var 0) (e_var 1)))) ss_nil)
    (ss_one (s_ret (e_int))))
theorem ok__law_stream (T : Txt K mg) : FnOk P w K mg base CX0 1 T.a__law_stream T.d__law_stream ["_law_cell", "_law_many"] (sp0 K cl 2 E__law_stream) :=
  by
  rw [x__law_stream]
  exact fn0 T.F__law_stream sc__law_stream rfl fun cdv A outer s H E hr => by
    have hu := hu65 hr
    have nd := sc__law_stream.nd
    exact (ss_cons (s_set 2 nd (e_newL (a_nil)))
    (ss_cons (s_set 3 nd (e_add (e_mod (e_var 0) (e_int)) (e_int)))
    (ss_cons (s_for PassesOwn.never rfl (i_rng1 (by rfl) T.z_range (a_cons (e_add (e_var 1) (e_int)) (a_nil))) (g_name 4 nd) (ss_cons (s_set 3 nd (e_mod (e_add (e_add (e_mul (e_var 3) (e_var 3)) (e_mul (e_int) (e_var 3))) (e_var 4)) (e_int)))
    (ss_one (s_expr (e_append (e_var 2) (e_var 3))))))
    (ss_one (s_ret (e_sl (e_var 2) (o_some (e_int)) o_none))))))
theorem ok__law_names (T : Txt K mg) : FnOk P w K mg base CX0 2 T.a__law_names T.d__law_names ["_law_cell"] (sp0 K cl 1 E__law_names) :=
  by
  rw [x__law_names]
  exact fn0 T.F__law_names sc__law_names rfl fun cdv A outer s H E hr => by
    have hu := hu65 hr
    have nd := sc__law_names.nd
    exact (ss_cons (s_set 1 nd (e_str))
    (ss_cons (s_set 2 nd (e_add (e_int) (e_mod (e_var 0) (e_int))))
    (ss_cons (s_if (t_eq hu (e_mod (e_div (e_var 0) (e_int)) (e_int)) (e_int)) (ss_cons (s_set 1 nd (e_str))
    (ss_one (s_set 2 nd (e_add (e_int) (e_mod (e_div (e_var 0) (e_int)) (e_int)))))) ss_nil)
    (ss_cons (s_set 3 nd (e_call0 (ok__law_stream T) (hr.mono (by omega)) (by rfl) T.g__law_stream T.F__law_stream.kp T.b__law_stream .nil (fun _ _ => RepL.nil) rfl (a_cons (e_div (e_var 0) (e_int)) (a_cons (e_add (e_var 2) (e_int)) (a_nil)))))
    (ss_cons (s_set 4 nd (e_add (e_int) (e_mod (e_ix (e_var 3) (e_add (e_var 2) (e_int))) (e_int))))
    (ss_cons (s_setLc 5 [("_law_x", 11)] rfl nd (i_seq (e_sl (e_var 3) o_none (o_some (e_var 2)))) (blkOk_by (by first | decide +kernel | rfl)) (fun _ _ _ _ _ => (g_name 11 nd)) (fun _ _ _ _ _ => ts_nil) (fun _ _ _ _ _ => e_ix (e_var 1) (e_mod (e_var 11) (e_len (by rfl) T.z_len (a_cons (e_var 1) (a_nil))))) (sw_true rfl rfl rfl (by decide +kernel)))
    (ss_cons (s_if (t_eq hu (e_mod (e_div (e_var 0) (e_int)) (e_int)) (e_int)) (ss_cons (s_set 6 nd (e_mul (e_join (e_str) (e_var 5)) (e_int)))
    (ss_one (s_ret (e_lc [("_law_k", 9)] rfl nd (i_rng1 (by rfl) T.z_range (a_cons (e_var 4) (a_nil))) (blkOk_by (by first | decide +kernel | rfl)) (fun _ _ _ _ _ => (g_name 9 nd)) (fun _ _ _ _ _ => ts_nil) (fun _ _ _ _ _ => e_sl (e_var 6) o_none (o_some (e_add (e_var 9) (e_int)))))))) ss_nil)
    (ss_cons (s_set 7 nd (e_mod (e_ix (e_var 3) (e_var 2)) (e_var 2)))
    (ss_cons (s_set 8 nd (e_newL (a_nil)))
    (ss_cons (s_for PassesOwn.never rfl (i_rng1 (by rfl) T.z_range (a_cons (e_var 4) (a_nil))) (g_name 9 nd) (ss_cons (s_set 10 nd (e_ix (e_var 1) (e_mod (e_add (e_ix (e_var 3) (e_var 7)) (e_var 9)) (e_len (by rfl) T.z_len (a_cons (e_var 1) (a_nil))))))
    (ss_one (s_expr (e_append (e_var 8) (e_add (e_add (e_join (e_str) (e_sl (e_var 5) o_none (o_some (e_var 7)))) (e_var 10)) (e_join (e_str) (e_sl (e_var 5) (o_some (e_add (e_var 7) (e_int))) o_none))))))))
    (ss_one (s_ret (e_frz (e_var 8))))))))))))))
theorem ok__law_thought (T : Txt K mg) : ∀ n : Nat, FnOk P w K mg base CX0 (0 + n) T.a__law_thought T.d__law_thought ["_law_names_here", "_law_xs", "_law_at", "_law_deep"] (sp0 K cl 4 (E__law_thought n))
  | 0 => fn_stuck fun _ _ => rfl
  | n + 1 => by
    have ih__law_thought := ok__law_thought T n
    rw [x__law_thought]
    exact fn0 T.F__law_thought sc__law_thought rfl fun cdv A outer s H E hr => by
      have hr : Room (0 + n) _ := hr
      have hu := hu65 hr
      have nd := sc__law_thought.nd
      exact (ss_cons (s_set 4 nd (e_mod (e_ix (e_var 1) (e_var 2)) (e_int)))
    (ss_cons (s_set 5 nd (e_div (e_ix (e_var 1) (e_var 2)) (e_int)))
    (ss_cons (s_if (t_bool (w_and (t_gt (e_var 3) (e_int)) (w_and1 (t_eq hu (e_var 4) (e_int))))) (ss_cons (s_set 6 nd (e_call0 (ih__law_thought) (hr.mono (by omega)) (by rfl) T.g__law_thought T.F__law_thought.kp T.b__law_thought .nil (fun _ _ => RepL.nil) rfl (a_cons (e_var 0) (a_cons (e_var 1) (a_cons (e_add (e_mul (e_int) (e_var 2)) (e_int)) (a_cons (e_sub (e_var 3) (e_int)) (a_nil)))))))
    (ss_one (s_ret (e_tup (a_cons (e_str) (a_cons (e_var 6) (a_cons (e_call0 (ih__law_thought) (hr.mono (by omega)) (by rfl) T.g__law_thought T.F__law_thought.kp T.b__law_thought .nil (fun _ _ => RepL.nil) rfl (a_cons (e_var 0) (a_cons (e_var 1) (a_cons (e_add (e_mul (e_int) (e_var 2)) (e_int)) (a_cons (e_sub (e_var 3) (e_int)) (a_nil)))))) (a_nil)))))))) ss_nil)
    (ss_cons (s_if (t_bool (w_and (t_gt (e_var 3) (e_int)) (w_and1 (t_gt (e_var 4) (e_int))))) (ss_cons (s_set 7 nd (e_ix (e_var 0) (e_mod (e_var 5) (e_add (e_int) (e_mod (e_len (by rfl) T.z_len (a_cons (e_var 0) (a_nil))) (e_int))))))
    (ss_one (s_ret (e_tup (a_cons (e_str) (a_cons (e_var 7) (a_cons (e_call0 (ih__law_thought) (hr.mono (by omega)) (by rfl) T.g__law_thought T.F__law_thought.kp T.b__law_thought .nil (fun _ _ => RepL.nil) rfl (a_cons (e_var 0) (a_cons (e_var 1) (a_cons (e_add (e_mul (e_int) (e_var 2)) (e_int)) (a_cons (e_sub (e_var 3) (e_int)) (a_nil)))))) (a_nil)))))))) ss_nil)
    (ss_cons (s_if (t_eq hu (e_var 4) (e_int)) (ss_one (s_ret (e_ix (e_lst (a_cons (e_tup (a_cons (e_str) (a_nil))) (a_cons (e_tup (a_cons (e_str) (a_nil))) (a_cons (e_tup (a_cons (e_str) (a_nil))) (a_nil))))) (e_mod (e_var 5) (e_int))))) ss_nil)
    (ss_one (s_ret (e_tup (a_cons (e_str) (a_cons (e_ix (e_var 0) (e_mod (e_var 5) (e_len (by rfl) T.z_len (a_cons (e_var 0) (a_nil))))) (a_nil)))))))))))
theorem ok__law_deeper (T : Txt K mg) : FnOk P w K mg base CX0 1 T.a__law_deeper T.d__law_deeper ["_law_names_here", "_law_one", "_law_x"] (sp0 K cl 3 E__law_deeper) :=
  by
  rw [x__law_deeper]
  exact fn0 T.F__law_deeper sc__law_deeper rfl fun cdv A outer s H E hr => by
    have hu := hu65 hr
    have nd := sc__law_deeper.nd
    exact (ss_cons (s_for PassesOwn.never rfl (i_rng1 (by rfl) T.z_range (a_cons (e_add (e_int) (e_mod (e_var 2) (e_int))) (a_nil))) (g_name 3 nd) (ss_one (s_if (t_eq hu (e_mod (e_div (e_var 2) (e_add (e_int) (e_var 3))) (e_int)) (e_int)) (ss_one (s_set 1 nd (e_tup (a_cons (e_str) (a_cons (e_tup (a_cons (e_str) (a_cons (e_ix (e_var 0) (e_mod (e_div (e_var 2) (e_int)) (e_len (by rfl) T.z_len (a_cons (e_var 0) (a_nil))))) (a_nil)))) (a_cons (e_var 1) (a_nil))))))) (ss_one (s_set 1 nd (e_tup (a_cons (e_str) (a_cons (e_ix (e_var 0) (e_mod (e_div (e_var 2) (e_add (e_int) (e_mul (e_int) (e_var 3)))) (e_add (e_int) (e_mod (e_len (by rfl) T.z_len (a_cons (e_var 0) (a_nil))) (e_int))))) (a_cons (e_var 1) (a_nil))))))))))
    (ss_one (s_ret (e_var 1))))
theorem ok__law_saying (T : Txt K mg) : FnOk P w K mg base CX0 21 T.a__law_saying T.d__law_saying ["_law_names_here", "_law_cell", "_law_deep"] (sp0 K cl 3 E__law_saying) :=
  by
  rw [x__law_saying]
  exact fn0 T.F__law_saying sc__law_saying rfl fun cdv A outer s H E hr => by
    have hu := hu65 hr
    have nd := sc__law_saying.nd
    exact (ss_cons (s_set 3 nd (e_call0 (ok__law_stream T) (hr.mono (by omega)) (by rfl) T.g__law_stream T.F__law_stream.kp T.b__law_stream .nil (fun _ _ => RepL.nil) rfl (a_cons (e_var 1) (a_cons (e_int) (a_nil)))))
    (ss_cons (s_set 4 nd (e_call0 (ok__law_thought T 20) (hr.mono (by omega)) (by rfl) T.g__law_thought T.F__law_thought.kp T.b__law_thought .nil (fun _ _ => RepL.nil) rfl (a_cons (e_var 0) (a_cons (e_sl (e_var 3) o_none (o_some (e_int))) (a_cons (e_int) (a_cons (e_var 2) (a_nil)))))))
    (ss_cons (s_set 5 nd (e_call0 (ok__law_thought T 20) (hr.mono (by omega)) (by rfl) T.g__law_thought T.F__law_thought.kp T.b__law_thought .nil (fun _ _ => RepL.nil) rfl (a_cons (e_var 0) (a_cons (e_sl (e_var 3) (o_some (e_int)) (o_some (e_int))) (a_cons (e_int) (a_cons (e_var 2) (a_nil)))))))
    (ss_cons (s_if (t_eq hu (e_mod (e_div (e_ix (e_var 3) (e_int)) (e_int)) (e_int)) (e_int)) (ss_one (s_set 4 nd (e_call0 (ok__law_deeper T) (hr.mono (by omega)) (by rfl) T.g__law_deeper T.F__law_deeper.kp T.b__law_deeper .nil (fun _ _ => RepL.nil) rfl (a_cons (e_var 0) (a_cons (e_var 4) (a_cons (e_div (e_ix (e_var 3) (e_int)) (e_int)) (a_nil))))))) ss_nil)
    (ss_cons (s_if (t_eq hu (e_mod (e_div (e_ix (e_var 3) (e_int)) (e_int)) (e_int)) (e_int)) (ss_one (s_set 5 nd (e_call0 (ok__law_deeper T) (hr.mono (by omega)) (by rfl) T.g__law_deeper T.F__law_deeper.kp T.b__law_deeper .nil (fun _ _ => RepL.nil) rfl (a_cons (e_var 0) (a_cons (e_var 5) (a_cons (e_div (e_ix (e_var 3) (e_int)) (e_int)) (a_nil))))))) ss_nil)
    (ss_cons (s_set 6 nd (e_mod (e_ix (e_var 3) (e_int)) (e_int)))
    (ss_cons (s_set 7 nd (e_add (e_int) (e_mod (e_len (by rfl) T.z_len (a_cons (e_var 0) (a_nil))) (e_int))))
    (ss_cons (s_set 8 nd (e_ix (e_var 0) (e_mod (e_div (e_ix (e_var 3) (e_int)) (e_int)) (e_var 7))))
    (ss_cons (s_set 9 nd (e_ix (e_var 0) (e_mod (e_ix (e_var 3) (e_int)) (e_var 7))))
    (ss_cons (s_set 10 nd (e_ix (e_var 0) (e_mod (e_ix (e_var 3) (e_int)) (e_var 7))))
    (ss_cons (s_if (t_gt (e_var 6) (e_int)) (ss_one (s_ret (e_tup (a_cons (e_str) (a_cons (e_var 8) (a_cons (e_var 9) (a_cons (e_var 10) (a_nil)))))))) ss_nil)
    (ss_cons (s_if (t_gt (e_var 6) (e_int)) (ss_one (s_ret (e_tup (a_cons (e_str) (a_cons (e_var 8) (a_cons (e_var 4) (a_nil))))))) ss_nil)
    (ss_cons (s_if (t_gt (e_var 6) (e_int)) (ss_one (s_ret (e_ix (e_lst (a_cons (e_tup (a_cons (e_str) (a_cons (e_var 8) (a_cons (e_var 9) (a_nil))))) (a_cons (e_tup (a_cons (e_str) (a_cons (e_var 8) (a_cons (e_var 9) (a_cons (e_var 10) (a_nil)))))) (a_cons (e_tup (a_cons (e_str) (a_cons (e_var 8) (a_nil)))) (a_nil))))) (e_sub (e_var 6) (e_int))))) ss_nil)
    (ss_cons (s_if (t_eq hu (e_var 6) (e_int)) (ss_one (s_ret (e_tup (a_cons (e_str) (a_cons (e_var 4) (a_cons (e_var 5) (a_nil))))))) ss_nil)
    (ss_cons (s_if (t_gt (e_var 6) (e_int)) (ss_one (s_ret (e_tup (a_cons (e_str) (a_cons (e_var 4) (a_cons (e_var 5) (a_nil))))))) ss_nil)
    (ss_one (s_ret (e_tup (a_cons (e_str) (a_cons (e_var 4) (a_cons (e_var 5) (a_nil))))))))))))))))))))))
theorem ok__law_rows (T : Txt K mg) : FnOk P w K mg base CX0 1 T.a__law_rows T.d__law_rows ["_law_saying_here"] (sp0 K cl 1 E__law_rows) :=
  by
  rw [x__law_rows]
  exact fn0 T.F__law_rows sc__law_rows rfl fun cdv A outer s H E hr => by
    have hu := hu65 hr
    have nd := sc__law_rows.nd
    exact (ss_cons (s_set 1 nd (e_ix (e_var 0) (e_int)))
    (ss_cons (s_if (t_eq hu (e_var 1) (e_str)) (ss_one (s_ret (e_lst (a_cons (e_tup (a_cons (e_str) (a_cons (e_ix (e_var 0) (e_int)) (a_cons (e_ix (e_var 0) (e_int)) (a_nil))))) (a_nil))))) ss_nil)
    (ss_cons (s_if (t_eq hu (e_var 1) (e_str)) (ss_one (s_ret (e_lst (a_cons (e_tup (a_cons (e_str) (a_cons (e_ix (e_var 0) (e_int)) (a_cons (e_ix (e_var 0) (e_int)) (a_nil))))) (a_cons (e_tup (a_cons (e_str) (a_cons (e_ix (e_var 0) (e_int)) (a_cons (e_ix (e_var 0) (e_int)) (a_nil))))) (a_nil)))))) ss_nil)
    (ss_cons (s_if (t_eq hu (e_var 1) (e_str)) (ss_one (s_ret (e_lst (a_cons (e_tup (a_cons (e_str) (a_cons (e_tup (a_cons (e_str) (a_cons (e_ix (e_var 0) (e_int)) (a_cons (e_ix (e_var 0) (e_int)) (a_nil))))) (a_cons (e_tup (a_cons (e_str) (a_nil))) (a_nil))))) (a_nil))))) ss_nil)
    (ss_cons (s_if (t_eq hu (e_var 1) (e_str)) (ss_one (s_ret (e_lst (a_cons (e_tup (a_cons (e_str) (a_cons (e_ix (e_var 0) (e_int)) (a_cons (e_ix (e_var 0) (e_int)) (a_nil))))) (a_nil))))) ss_nil)
    (ss_cons (s_if (t_eq hu (e_var 1) (e_str)) (ss_one (s_ret (e_lst (a_cons (e_tup (a_cons (e_str) (a_cons (e_ix (e_var 0) (e_int)) (a_cons (e_ix (e_var 0) (e_int)) (a_cons (e_ix (e_var 0) (e_int)) (a_nil)))))) (a_nil))))) ss_nil)
    (ss_cons (s_if (t_eq hu (e_var 1) (e_str)) (ss_one (s_ret (e_lst (a_cons (e_tup (a_cons (e_str) (a_cons (e_ix (e_var 0) (e_int)) (a_cons (e_ix (e_var 0) (e_int)) (a_nil))))) (a_nil))))) ss_nil)
    (ss_one (s_ret (e_lst (a_cons (e_var 0) (a_nil))))))))))))
theorem ok__law_granted (T : Txt K mg) : FnOk P w K mg base CX0 1 T.a__law_granted T.d__law_granted ["_law_row"] (sp0 K cl 1 E__law_granted) :=
  by
  rw [x__law_granted]
  exact fn0 T.F__law_granted sc__law_granted rfl fun cdv A outer s H E hr => by
    have hu := hu65 hr
    have nd := sc__law_granted.nd
    exact (ss_cons (s_if (t_eq hu (e_ix (e_var 0) (e_int)) (e_str)) (ss_one (s_ret (e_lst (a_cons (e_tup (a_cons (e_int) (a_cons (e_tup (a_cons (e_str) (a_cons (e_str) (a_cons (e_ix (e_var 0) (e_int)) (a_cons (e_str) (a_nil)))))) (a_nil)))) (a_nil))))) ss_nil)
    (ss_cons (s_if (t_eq hu (e_ix (e_var 0) (e_int)) (e_str)) (ss_one (s_ret (e_lst (a_cons (e_tup (a_cons (e_neg (e_int)) (a_cons (e_tup (a_cons (e_str) (a_cons (e_str) (a_cons (e_ix (e_var 0) (e_int)) (a_cons (e_str) (a_nil)))))) (a_nil)))) (a_cons (e_tup (a_cons (e_int) (a_cons (e_tup (a_cons (e_str) (a_cons (e_str) (a_cons (e_ix (e_var 0) (e_int)) (a_cons (e_str) (a_nil)))))) (a_nil)))) (a_nil)))))) ss_nil)
    (ss_one (s_ret (e_lst (a_nil))))))
theorem ok__law_goal (T : Txt K mg) : FnOk P w K mg base CX0 1 T.a__law_goal T.d__law_goal ["_law_row"] (sp0 K cl 1 E__law_goal) :=
  by
  rw [x__law_goal]
  exact fn0 T.F__law_goal sc__law_goal rfl fun cdv A outer s H E hr => by
    have hu := hu65 hr
    have nd := sc__law_goal.nd
    exact (ss_cons (s_if (t_eq hu (e_ix (e_var 0) (e_int)) (e_str)) (ss_one (s_ret (e_tup (a_cons (e_str) (a_cons (e_ix (e_var 0) (e_int)) (a_cons (e_ix (e_var 0) (e_int)) (a_nil))))))) ss_nil)
    (ss_cons (s_if (t_eq hu (e_ix (e_var 0) (e_int)) (e_str)) (ss_one (s_ret (e_tup (a_cons (e_str) (a_cons (e_tup (a_cons (e_str) (a_cons (e_ix (e_var 0) (e_int)) (a_nil)))) (a_cons (e_ix (e_var 0) (e_int)) (a_nil))))))) ss_nil)
    (ss_cons (s_if (t_eq hu (e_ix (e_var 0) (e_int)) (e_str)) (ss_one (s_ret (e_tup (a_cons (e_str) (a_cons (e_tup (a_cons (e_str) (a_cons (e_ix (e_var 0) (e_int)) (a_nil)))) (a_cons (e_ix (e_var 0) (e_int)) (a_cons (e_tup (a_cons (e_str) (a_cons (e_ix (e_var 0) (e_int)) (a_nil)))) (a_nil)))))))) ss_nil)
    (ss_cons (s_if (t_eq hu (e_ix (e_var 0) (e_int)) (e_str)) (ss_one (s_ret (e_tup (a_cons (e_str) (a_cons (e_tup (a_cons (e_str) (a_cons (e_str) (a_nil)))) (a_cons (e_ix (e_var 0) (e_int)) (a_cons (e_tup (a_cons (e_str) (a_cons (e_str) (a_nil)))) (a_nil)))))))) ss_nil)
    (ss_one (s_ret (e_tup (a_cons (e_str) (a_cons (e_tup (a_cons (e_str) (a_cons (e_str) (a_nil)))) (a_cons (e_ix (e_var 0) (e_int)) (a_cons (e_tup (a_cons (e_str) (a_cons (e_str) (a_nil)))) (a_nil))))))))))))
theorem ok_law (T : Txt K mg) : FnOk P w K mg base CX0 22 T.a_law T.d_law ["_law_script"] (sp0 K cl 1 E_law) :=
  by
  rw [x_law]
  exact fn0 T.F_law sc_law rfl fun cdv A outer s H E hr => by
    have hu := hu65 hr
    have nd := sc_law.nd
    exact (ss_cons (s_set 1 nd (e_call0 (ok__law_names T) (hr.mono (by omega)) (by rfl) T.g__law_names T.F__law_names.kp T.b__law_names .nil (fun _ _ => RepL.nil) rfl (a_cons (e_call0 (ok__law_cell_at T) (hr.mono (by omega)) (by rfl) T.g__law_cell_at T.F__law_cell_at.kp T.b__law_cell_at .nil (fun _ _ => RepL.nil) rfl (a_cons (e_var 0) (a_cons (e_int) (a_nil)))) (a_nil))))
    (ss_cons (s_for PassesOwn.never rfl (i_seq (e_add (e_sl (e_var 0) (o_some (e_int)) (o_some (e_int))) (e_lst (a_cons (e_int) (a_nil))))) (g_name 2 nd) (ss_one (s_for PassesOwn.never rfl (i_seq (e_call0 (ok__law_rows T) (hr.mono (by omega)) (by rfl) T.g__law_rows T.F__law_rows.kp T.b__law_rows .nil (fun _ _ => RepL.nil) rfl (a_cons (e_call0 (ok__law_saying T) (hr.mono (by omega)) (by rfl) T.g__law_saying T.F__law_saying.kp T.b__law_saying .nil (fun _ _ => RepL.nil) rfl (a_cons (e_var 1) (a_cons (e_var 2) (a_cons (e_int) (a_nil))))) (a_nil)))) (g_name 3 nd) (ss_cons (s_set 4 nd (e_call0 (ok_granted T) (hr.mono (by omega)) (by rfl) T.g_granted T.F_granted.kp T.b_granted .nil (fun _ _ => RepL.nil) rfl (a_cons (e_var 3) (a_nil))))
    (ss_cons (s_if (t_bool (w_or (t_not (t_val (e_isi (by rfl) T.z_isinstance (by rfl) T.z_list boot_list' (e_var 4)))) (w_or (t_ne hu (e_var 4) (e_call0 (ok__law_granted T) (hr.mono (by omega)) (by rfl) T.g__law_granted T.F__law_granted.kp T.b__law_granted .nil (fun _ _ => RepL.nil) rfl (a_cons (e_var 3) (a_nil)))) (w_or1 (t_ne hu (e_call0 (ok_goal T) (hr.mono (by omega)) (by rfl) T.g_goal T.F_goal.kp T.b_goal .nil (fun _ _ => RepL.nil) rfl (a_cons (e_var 3) (a_nil))) (e_call0 (ok__law_goal T) (hr.mono (by omega)) (by rfl) T.g__law_goal T.F__law_goal.kp T.b__law_goal .nil (fun _ _ => RepL.nil) rfl (a_cons (e_var 3) (a_nil)))))))) (ss_one (s_ret (e_bl))) ss_nil)
    (ss_cons (s_for PassesOwn.never rfl (i_seq (e_var 4)) (g_name 5 nd) (ss_one (s_if (t_bool (w_or (t_not (t_val (e_isi (by rfl) T.z_isinstance (by rfl) T.z_int boot_int' (e_ix (e_var 5) (e_int))))) (w_or1 (t_val (e_isi (by rfl) T.z_isinstance (by rfl) T.z_bool boot_bool' (e_ix (e_var 5) (e_int))))))) (ss_one (s_ret (e_bl))) ss_nil)))
    (ss_cons (s_expr (e_append (e_var 4) (e_tup (a_cons (e_int) (a_cons (e_tup (a_cons (e_str) (a_cons (e_ix (e_var 1) (e_int)) (a_nil)))) (a_nil))))))
    (ss_one (s_if (t_ne hu (e_call0 (ok_granted T) (hr.mono (by omega)) (by rfl) T.g_granted T.F_granted.kp T.b_granted .nil (fun _ _ => RepL.nil) rfl (a_cons (e_var 3) (a_nil))) (e_call0 (ok__law_granted T) (hr.mono (by omega)) (by rfl) T.g__law_granted T.F__law_granted.kp T.b__law_granted .nil (fun _ _ => RepL.nil) rfl (a_cons (e_var 3) (a_nil)))) (ss_one (s_ret (e_bl))) ss_nil)))))))))
    (ss_one (s_ret (e_bl)))))
end
theorem all_mk {l : PySem.W.OpenLaw} {w : World} {K : PySem.W.Frag} {h : Heap} {mg : Str → Option Value} {fa : Addr} (X : K.In h) (G : h.Ns mainGlobals mg) (hfa : mg "law" = some (.ref fa))
    {f0 : Addr} {od0 an0 : Option Addr} {sl0 : Array (Option Value)} {oc0 kV0 dc0 pm0 cd0 ct0 : Value}
    (a0 : PySem.W.nsIn K mainGlobals "granted" = some (some (.ref f0))) (l0 : K.lookup f0 = some ⟨oc0, od0, .func (PySem.W.fnOf "granted" "granted" (defArgs s_granted) (defBody s_granted) (defScope s_granted) .none kV0 dc0 pm0 an0 cd0 ct0), sl0⟩) (c0 : PySem.W.codeIn K cd0 "granted" = true) (k0 : PySem.W.keepIn K (.ref f0) = true)
    {f1 : Addr} {od1 an1 : Option Addr} {sl1 : Array (Option Value)} {oc1 kV1 dc1 pm1 cd1 ct1 : Value}
    (a1 : PySem.W.nsIn K mainGlobals "goal" = some (some (.ref f1))) (l1 : K.lookup f1 = some ⟨oc1, od1, .func (PySem.W.fnOf "goal" "goal" (defArgs s_goal) (defBody s_goal) (defScope s_goal) .none kV1 dc1 pm1 an1 cd1 ct1), sl1⟩) (c1 : PySem.W.codeIn K cd1 "goal" = true) (k1 : PySem.W.keepIn K (.ref f1) = true)
    {f2 : Addr} {od2 an2 : Option Addr} {sl2 : Array (Option Value)} {oc2 kV2 dc2 pm2 cd2 ct2 : Value}
    (a2 : PySem.W.nsIn K mainGlobals "_law_cell_at" = some (some (.ref f2))) (l2 : K.lookup f2 = some ⟨oc2, od2, .func (PySem.W.fnOf "_law_cell_at" "_law_cell_at" (defArgs s__law_cell_at) (defBody s__law_cell_at) (defScope s__law_cell_at) .none kV2 dc2 pm2 an2 cd2 ct2), sl2⟩) (c2 : PySem.W.codeIn K cd2 "_law_cell_at" = true) (k2 : PySem.W.keepIn K (.ref f2) = true)
    {f3 : Addr} {od3 an3 : Option Addr} {sl3 : Array (Option Value)} {oc3 kV3 dc3 pm3 cd3 ct3 : Value}
    (a3 : PySem.W.nsIn K mainGlobals "_law_stream" = some (some (.ref f3))) (l3 : K.lookup f3 = some ⟨oc3, od3, .func (PySem.W.fnOf "_law_stream" "_law_stream" (defArgs s__law_stream) (defBody s__law_stream) (defScope s__law_stream) .none kV3 dc3 pm3 an3 cd3 ct3), sl3⟩) (c3 : PySem.W.codeIn K cd3 "_law_stream" = true) (k3 : PySem.W.keepIn K (.ref f3) = true)
    {f4 : Addr} {od4 an4 : Option Addr} {sl4 : Array (Option Value)} {oc4 kV4 dc4 pm4 cd4 ct4 : Value}
    (a4 : PySem.W.nsIn K mainGlobals "_law_names" = some (some (.ref f4))) (l4 : K.lookup f4 = some ⟨oc4, od4, .func (PySem.W.fnOf "_law_names" "_law_names" (defArgs s__law_names) (defBody s__law_names) (defScope s__law_names) .none kV4 dc4 pm4 an4 cd4 ct4), sl4⟩) (c4 : PySem.W.codeIn K cd4 "_law_names" = true) (k4 : PySem.W.keepIn K (.ref f4) = true)
    {f5 : Addr} {od5 an5 : Option Addr} {sl5 : Array (Option Value)} {oc5 kV5 dc5 pm5 cd5 ct5 : Value}
    (a5 : PySem.W.nsIn K mainGlobals "_law_thought" = some (some (.ref f5))) (l5 : K.lookup f5 = some ⟨oc5, od5, .func (PySem.W.fnOf "_law_thought" "_law_thought" (defArgs s__law_thought) (defBody s__law_thought) (defScope s__law_thought) .none kV5 dc5 pm5 an5 cd5 ct5), sl5⟩) (c5 : PySem.W.codeIn K cd5 "_law_thought" = true) (k5 : PySem.W.keepIn K (.ref f5) = true)
    {f6 : Addr} {od6 an6 : Option Addr} {sl6 : Array (Option Value)} {oc6 kV6 dc6 pm6 cd6 ct6 : Value}
    (a6 : PySem.W.nsIn K mainGlobals "_law_deeper" = some (some (.ref f6))) (l6 : K.lookup f6 = some ⟨oc6, od6, .func (PySem.W.fnOf "_law_deeper" "_law_deeper" (defArgs s__law_deeper) (defBody s__law_deeper) (defScope s__law_deeper) .none kV6 dc6 pm6 an6 cd6 ct6), sl6⟩) (c6 : PySem.W.codeIn K cd6 "_law_deeper" = true) (k6 : PySem.W.keepIn K (.ref f6) = true)
    {f7 : Addr} {od7 an7 : Option Addr} {sl7 : Array (Option Value)} {oc7 kV7 dc7 pm7 cd7 ct7 : Value}
    (a7 : PySem.W.nsIn K mainGlobals "_law_saying" = some (some (.ref f7))) (l7 : K.lookup f7 = some ⟨oc7, od7, .func (PySem.W.fnOf "_law_saying" "_law_saying" (defArgs s__law_saying) (defBody s__law_saying) (defScope s__law_saying) .none kV7 dc7 pm7 an7 cd7 ct7), sl7⟩) (c7 : PySem.W.codeIn K cd7 "_law_saying" = true) (k7 : PySem.W.keepIn K (.ref f7) = true)
    {f8 : Addr} {od8 an8 : Option Addr} {sl8 : Array (Option Value)} {oc8 kV8 dc8 pm8 cd8 ct8 : Value}
    (a8 : PySem.W.nsIn K mainGlobals "_law_rows" = some (some (.ref f8))) (l8 : K.lookup f8 = some ⟨oc8, od8, .func (PySem.W.fnOf "_law_rows" "_law_rows" (defArgs s__law_rows) (defBody s__law_rows) (defScope s__law_rows) .none kV8 dc8 pm8 an8 cd8 ct8), sl8⟩) (c8 : PySem.W.codeIn K cd8 "_law_rows" = true) (k8 : PySem.W.keepIn K (.ref f8) = true)
    {f9 : Addr} {od9 an9 : Option Addr} {sl9 : Array (Option Value)} {oc9 kV9 dc9 pm9 cd9 ct9 : Value}
    (a9 : PySem.W.nsIn K mainGlobals "_law_granted" = some (some (.ref f9))) (l9 : K.lookup f9 = some ⟨oc9, od9, .func (PySem.W.fnOf "_law_granted" "_law_granted" (defArgs s__law_granted) (defBody s__law_granted) (defScope s__law_granted) .none kV9 dc9 pm9 an9 cd9 ct9), sl9⟩) (c9 : PySem.W.codeIn K cd9 "_law_granted" = true) (k9 : PySem.W.keepIn K (.ref f9) = true)
    {f10 : Addr} {od10 an10 : Option Addr} {sl10 : Array (Option Value)} {oc10 kV10 dc10 pm10 cd10 ct10 : Value}
    (a10 : PySem.W.nsIn K mainGlobals "_law_goal" = some (some (.ref f10))) (l10 : K.lookup f10 = some ⟨oc10, od10, .func (PySem.W.fnOf "_law_goal" "_law_goal" (defArgs s__law_goal) (defBody s__law_goal) (defScope s__law_goal) .none kV10 dc10 pm10 an10 cd10 ct10), sl10⟩) (c10 : PySem.W.codeIn K cd10 "_law_goal" = true) (k10 : PySem.W.keepIn K (.ref f10) = true)
    {f11 : Addr} {od11 an11 : Option Addr} {sl11 : Array (Option Value)} {oc11 kV11 dc11 pm11 cd11 ct11 : Value}
    (a11 : PySem.W.nsIn K mainGlobals "law" = some (some (.ref f11))) (l11 : K.lookup f11 = some ⟨oc11, od11, .func (PySem.W.fnOf "law" "law" (defArgs s_law) (defBody s_law) (defScope s_law) .none kV11 dc11 pm11 an11 cd11 ct11), sl11⟩) (c11 : PySem.W.codeIn K cd11 "law" = true) (k11 : PySem.W.keepIn K (.ref f11) = true)
    (z_bool : PySem.W.nsIn K mainGlobals "bool" = some none)
    (z_int : PySem.W.nsIn K mainGlobals "int" = some none)
    (z_isinstance : PySem.W.nsIn K mainGlobals "isinstance" = some none)
    (z_len : PySem.W.nsIn K mainGlobals "len" = some none)
    (z_list : PySem.W.nsIn K mainGlobals "list" = some none)
    (z_range : PySem.W.nsIn K mainGlobals "range" = some none)
    : ∃ fd : FuncData, (∀ (s : Shared) (v : Value), BindsTo s fd ⟨[v], []⟩ [("_law_script", v)]) ∧ ∀ base : Heap, K.In base → base.Ns mainGlobals mg → FnOk l.prog w K mg base CX0 22 fa fd ["_law_script"] (sp0 K (fun _ => none) 1 E_law) := by
  have e := hfa.symm.trans (PySem.W.mg_of X G a11)
  cases e
  have F0 := fun_mk (st := s_granted) l0 c0 k0
  have b0 := F0.binds (ps := ["row"]) fun _ _ _ _ _ _ us hl => match us, hl with | [_], _ => rfl
  have F1 := fun_mk (st := s_goal) l1 c1 k1
  have b1 := F1.binds (ps := ["row"]) fun _ _ _ _ _ _ us hl => match us, hl with | [_], _ => rfl
  have F2 := fun_mk (st := s__law_cell_at) l2 c2 k2
  have b2 := F2.binds (ps := ["_law_script", "_law_k"]) fun _ _ _ _ _ _ us hl => match us, hl with | [_, _], _ => rfl
  have F3 := fun_mk (st := s__law_stream) l3 c3 k3
  have b3 := F3.binds (ps := ["_law_cell", "_law_many"]) fun _ _ _ _ _ _ us hl => match us, hl with | [_, _], _ => rfl
  have F4 := fun_mk (st := s__law_names) l4 c4 k4
  have b4 := F4.binds (ps := ["_law_cell"]) fun _ _ _ _ _ _ us hl => match us, hl with | [_], _ => rfl
  have F5 := fun_mk (st := s__law_thought) l5 c5 k5
  have b5 := F5.binds (ps := ["_law_names_here", "_law_xs", "_law_at", "_law_deep"]) fun _ _ _ _ _ _ us hl => match us, hl with | [_, _, _, _], _ => rfl
  have F6 := fun_mk (st := s__law_deeper) l6 c6 k6
  have b6 := F6.binds (ps := ["_law_names_here", "_law_one", "_law_x"]) fun _ _ _ _ _ _ us hl => match us, hl with | [_, _, _], _ => rfl
  have F7 := fun_mk (st := s__law_saying) l7 c7 k7
  have b7 := F7.binds (ps := ["_law_names_here", "_law_cell", "_law_deep"]) fun _ _ _ _ _ _ us hl => match us, hl with | [_, _, _], _ => rfl
  have F8 := fun_mk (st := s__law_rows) l8 c8 k8
  have b8 := F8.binds (ps := ["_law_saying_here"]) fun _ _ _ _ _ _ us hl => match us, hl with | [_], _ => rfl
  have F9 := fun_mk (st := s__law_granted) l9 c9 k9
  have b9 := F9.binds (ps := ["_law_row"]) fun _ _ _ _ _ _ us hl => match us, hl with | [_], _ => rfl
  have F10 := fun_mk (st := s__law_goal) l10 c10 k10
  have b10 := F10.binds (ps := ["_law_row"]) fun _ _ _ _ _ _ us hl => match us, hl with | [_], _ => rfl
  have F11 := fun_mk (st := s_law) l11 c11 k11
  have b11 := F11.binds (ps := ["_law_script"]) fun _ _ _ _ _ _ us hl => match us, hl with | [_], _ => rfl
  let T : Txt K mg := {
    a_granted := f0, d_granted := _, F_granted := F0, g_granted := PySem.W.mg_of X G a0, b_granted := b0,
    a_goal := f1, d_goal := _, F_goal := F1, g_goal := PySem.W.mg_of X G a1, b_goal := b1,
    a__law_cell_at := f2, d__law_cell_at := _, F__law_cell_at := F2, g__law_cell_at := PySem.W.mg_of X G a2, b__law_cell_at := b2,
    a__law_stream := f3, d__law_stream := _, F__law_stream := F3, g__law_stream := PySem.W.mg_of X G a3, b__law_stream := b3,
    a__law_names := f4, d__law_names := _, F__law_names := F4, g__law_names := PySem.W.mg_of X G a4, b__law_names := b4,
    a__law_thought := f5, d__law_thought := _, F__law_thought := F5, g__law_thought := PySem.W.mg_of X G a5, b__law_thought := b5,
    a__law_deeper := f6, d__law_deeper := _, F__law_deeper := F6, g__law_deeper := PySem.W.mg_of X G a6, b__law_deeper := b6,
    a__law_saying := f7, d__law_saying := _, F__law_saying := F7, g__law_saying := PySem.W.mg_of X G a7, b__law_saying := b7,
    a__law_rows := f8, d__law_rows := _, F__law_rows := F8, g__law_rows := PySem.W.mg_of X G a8, b__law_rows := b8,
    a__law_granted := f9, d__law_granted := _, F__law_granted := F9, g__law_granted := PySem.W.mg_of X G a9, b__law_granted := b9,
    a__law_goal := f10, d__law_goal := _, F__law_goal := F10, g__law_goal := PySem.W.mg_of X G a10, b__law_goal := b10,
    a_law := fa, d_law := _, F_law := F11, g_law := PySem.W.mg_of X G a11, b_law := b11,
    z_bool := PySem.W.mg_none_of X G z_bool,
    z_int := PySem.W.mg_none_of X G z_int,
    z_isinstance := PySem.W.mg_none_of X G z_isinstance,
    z_len := PySem.W.mg_none_of X G z_len,
    z_list := PySem.W.mg_none_of X G z_list,
    z_range := PySem.W.mg_none_of X G z_range
  }
  exact ⟨_, fun s v => .of_eq rfl, fun base _ _ => ok_law T⟩
end Kd

namespace Kd
open PySem PySem.Spec L2 Ev
/-! # common -/
theorem E_cell {ns : List Int} {k : Int} {S : Store} (hk : 0 ≤ k) : ∃ c : Int, E__law_cell_at [.scr ns, .int k] S = .ok (.int c) S ∧ c = ns.getD k.toNat 0 := by
  refine ⟨_, ?_, rfl⟩
  rw [x__law_cell_at]; unfold runDef
  simp -implicitDefEqProofs only [evSeq, evSet, evVar, evC, evRet, evRetN, evDrop, evNx, evIf, evBrk, evCnt, evAsg, evFor, evTrue, noX, gN, gT, gAll, q_bin, q_un, q_test, q_and, q_or, q_not, q_andV, q_orV, q_notV, q_ifE, q_args0, q_args1, q_tup, q_lst, q_newL, q_part0, q_part1, q_sl, q_call0, q_call, q_b, q_str1, q_isi, q_src, q_rng, Res.bind, resS, List.map_cons, List.map_nil, List.cons_append, List.nil_append, List.append_nil, List.replicate_succ, List.replicate_zero, List.getElem?_cons_zero, List.getElem?_cons_succ, List.set_cons_zero, List.set_cons_succ, wipeE, opMul_l, opMul_r, opMod_i, opDiv_i, opAdd_i, opSub_i, opNeg_i, opIx_t0, opIx_t1, opIx_t2, opIx_t3, opIx_l0, opMax_i, opMin_i, ofStr_inj, List.length_map, opLen_l, opLen_t, opLen_scr, opIx_l1, opIx_l2, q_L1, q_L0, String.reduceEq, decide_false, decide_true, Bool.not_true, Bool.not_false, opLt_i, opLe_i, opGt_i, opGe_i, opEq_i, opNe_i, opEq_s, opNe_s, opEq_b, opNe_b, dn_bl, dn_int, dn_str, dn_non, Src.items, if_true, if_false, Bool.false_eq_true, decide_eq_true_eq, eq_self, reduceIte, opLen_scr]
  by_cases h : k < (ns.length : Int)
  · rw [if_pos h]
    have hi : k.toNat < ns.length := by omega
    simp only [opIx_scr (S := S) hk (List.getElem?_eq_getElem hi), evSeq, evSet, evVar, evC, evRet, evRetN, evDrop, evNx, evIf, evBrk, evCnt, evAsg, evFor, evTrue, noX, gN, gT, gAll, q_bin, q_un, q_test, q_and, q_or, q_not, q_andV, q_orV, q_notV, q_ifE, q_args0, q_args1, q_tup, q_lst, q_newL, q_part0, q_part1, q_sl, q_call0, q_call, q_b, q_str1, q_isi, q_src, q_rng, Res.bind, resS, List.map_cons, List.map_nil, List.cons_append, List.nil_append, List.append_nil, List.replicate_succ, List.replicate_zero, List.getElem?_cons_zero, List.getElem?_cons_succ, List.set_cons_zero, List.set_cons_succ, wipeE, opMul_l, opMul_r, opMod_i, opDiv_i, opAdd_i, opSub_i, opNeg_i, opIx_t0, opIx_t1, opIx_t2, opIx_t3, opIx_l0, opMax_i, opMin_i, ofStr_inj, List.length_map, opLen_l, opLen_t, opLen_scr, opIx_l1, opIx_l2, q_L1, q_L0, String.reduceEq, decide_false, decide_true, Bool.not_true, Bool.not_false, opLt_i, opLe_i, opGt_i, opGe_i, opEq_i, opNe_i, opEq_s, opNe_s, opEq_b, opNe_b, dn_bl, dn_int, dn_str, dn_non, Src.items, if_true, if_false, Bool.false_eq_true, decide_eq_true_eq, eq_self, reduceIte]
    rw [List.getD_eq_getElem?_getD, List.getElem?_eq_getElem hi]
    rfl
  · rw [if_neg h, List.getD_eq_getElem?_getD, List.getElem?_eq_none (by omega)]
    simp -implicitDefEqProofs only [evSeq, evSet, evVar, evC, evRet, evRetN, evDrop, evNx, evIf, evBrk, evCnt, evAsg, evFor, evTrue, noX, gN, gT, gAll, q_bin, q_un, q_test, q_and, q_or, q_not, q_andV, q_orV, q_notV, q_ifE, q_args0, q_args1, q_tup, q_lst, q_newL, q_part0, q_part1, q_sl, q_call0, q_call, q_b, q_str1, q_isi, q_src, q_rng, Res.bind, resS, List.map_cons, List.map_nil, List.cons_append, List.nil_append, List.append_nil, List.replicate_succ, List.replicate_zero, List.getElem?_cons_zero, List.getElem?_cons_succ, List.set_cons_zero, List.set_cons_succ, wipeE, opMul_l, opMul_r, opMod_i, opDiv_i, opAdd_i, opSub_i, opNeg_i, opIx_t0, opIx_t1, opIx_t2, opIx_t3, opIx_l0, opMax_i, opMin_i, ofStr_inj, List.length_map, opLen_l, opLen_t, opLen_scr, opIx_l1, opIx_l2, q_L1, q_L0, String.reduceEq, decide_false, decide_true, Bool.not_true, Bool.not_false, opLt_i, opLe_i, opGt_i, opGe_i, opEq_i, opNe_i, opEq_s, opNe_s, opEq_b, opNe_b, dn_bl, dn_int, dn_str, dn_non, Src.items, if_true, if_false, Bool.false_eq_true, decide_eq_true_eq, eq_self, reduceIte]
    rfl
def isL (c : Nat) : Prop := 97 ≤ c ∧ c ≤ 122
theorem cut_to {l : List Nat} {k : Int} (h : 0 ≤ k) : L2.cutS (sOf l) none (some k) = sOf (l.take k.toNat) := by
  obtain ⟨m, rfl⟩ : ∃ m : Nat, k = (m : Int) := ⟨k.toNat, by omega⟩
  unfold L2.cutS
  rw [HT.sIx_nat, HT.sIx_none]
  simp [sOf, Str.length]
theorem cut_from {l : List Nat} {k : Int} (h : 0 ≤ k) : L2.cutS (sOf l) (some k) none = sOf (l.drop k.toNat) := by
  obtain ⟨m, rfl⟩ : ∃ m : Nat, k = (m : Int) := ⟨k.toNat, by omega⟩
  unfold L2.cutS
  rw [HT.sIx_nat, HT.sIx_none]
  simp only [sOf, Str.length, List.size_toArray, Int.toNat_natCast]
  congr 2
  by_cases hk : m ≤ l.length
  · rw [Nat.min_eq_left hk, List.take_of_length_le (by simp)]
  · rw [Nat.min_eq_right (by omega), List.drop_of_length_le (by omega), List.drop_of_length_le (by omega)]; simp
theorem sOf_app (a b : List Nat) : (sOf a ++ sOf b : Str) = sOf (a ++ b) := by
  apply str_ext; rw [cps_app]
theorem sOf_len (a : List Nat) : (sOf a).length = a.length := by simp [sOf, Str.length]
/-- a word of letters, of one to twelve -/
def Wd (s : Str) : Prop := 1 ≤ s.length ∧ s.length ≤ 12 ∧ ∀ c ∈ s.cps.toList, isL c
theorem wd_of {l : List Nat} (h1 : 1 ≤ l.length) (h2 : l.length ≤ 12) (h : ∀ c ∈ l, isL c) : Wd (sOf l) := ⟨by rw [sOf_len]; exact h1, by rw [sOf_len]; exact h2, by simpa [sOf] using h⟩
theorem lcR {q : Nat} (f : Int → Nat) (elt : EvE) (j : Int) (src : EvE) (ρ : En) (S : Store) (hs : src ρ S = .ok (.int j) S) (h0 : 0 ≤ j) (h1 : j ≤ 1000) (he : ∀ i : Nat, (i : Int) < j → ∀ S, elt ((wipeE ρ [q]).set q (some (.int (i : Int)))) S = .ok (.str (sOf [f (i : Int)])) S) :
    evLc (evRng [src]) (gN q) evTrue elt [q] ρ S = .ok (.lst ((List.range j.toNat).map fun (i : Nat) => D.str (sOf [f (i : Int)]))) S :=
  evLc_map (s := .frz (rangeD 0 j.toNat)) (List.range j.toNat) (fun i : Nat => D.int (i : Int)) (fun i => (wipeE ρ [q]).set q (some (.int (i : Int)))) _
    (rng1_go hs (by omega) (by omega)) (rangeD_map _) (fun _ => trivial) (fun _ _ => rfl) (fun i hi acc => he i (by have := List.mem_range.mp hi; omega) _) (fun _ _ => by simp only [refsB]) (by simp; omega)
theorem choose_list {α : Type} {P : Nat → α → Prop} : ∀ n : Nat, (∀ i, i < n → ∃ a, P i a) → ∃ xs : List α, xs.length = n ∧ ∀ i (h : i < xs.length), P i xs[i]
  | 0, _ => ⟨[], rfl, fun i h => absurd h (Nat.not_lt_zero i)⟩
  | n + 1, h => by
    obtain ⟨xs, e, hx⟩ := choose_list n (fun i hi => h i (by omega))
    obtain ⟨a, ha⟩ := h n (Nat.lt_succ_self n)
    refine ⟨xs ++ [a], by simp [e], fun i hi => ?_⟩
    by_cases hin : i < xs.length
    · rw [List.getElem_append_left hin]; exact hx i hin
    · have : i = xs.length := by simp at hi; omega
      subst this
      rw [List.getElem_append_right (Nat.le_refl _)]
      simp only [Nat.sub_self, List.getElem_singleton]
      rw [e]; exact ha
abbrev Sk (s : Str) : Prop := PyData.strOk s = true
theorem wd_sk {s : Str} (h : Wd s) : Sk s := by
  show s.cps.all (· < 0x110000) = true
  rw [Array.all_eq_true_iff_forall_mem]
  intro c hc
  have := (h.2.2 c (by simpa using hc)).2
  exact decide_eq_true (by omega)
end Kd

namespace Kd
open PySem PySem.Spec L2 Ev
/-! # streams and names (group B) -/
theorem E_stream {c : Int} {m : Nat} {S : Store} (hm : m ≤ 1000) : ∃ xs : List Int, xs.length = m ∧ (∀ x ∈ xs, 0 ≤ x) ∧ E__law_stream [.int c, .int (m : Int)] S = .ok (.lst (xs.map D.int)) S := by
  have z0 := Int.emod_nonneg c (show (2147483647 : Int) ≠ 0 by decide)
  have z1 := Int.emod_lt_of_pos c (show (0 : Int) < 2147483647 by decide)
  obtain ⟨ρ', S', f, xs, u, a1, a2, a3, a4, rfl, d4, rfl⟩ := forL_inv (s := Src.frz (rangeD 0 (m + 1))) (g := gN 4) (body := B__law_stream_1) (fun k : Nat => D.int (k : Int))
    (fun pre ρ S' => ∃ (xs : List Int) (u : Int), xs.length = pre.length ∧ (∀ x ∈ xs, 0 ≤ x) ∧ 0 ≤ u ∧ u ≤ 3000000000 ∧ S' = S ++ [some (.lst (xs.map D.int))] ∧ ∃ d4, ρ = [some (.int c), some (.int (m : Int)), some (.ref S.length), some (.int u), d4]) (List.range (m + 1))
    (fun pre k post ρ S' e ⟨xs, u, a1, a2, a3, a4, hS, d4, hρ⟩ => by
      subst hS; subst hρ
      have hp : pre.length ≤ 1001 := by have := congrArg List.length e; simp at this; omega
      have v0 := Int.emod_nonneg (u * u + 48271 * u + (k : Int)) (show (2147483647 : Int) ≠ 0 by decide)
      have v1 := Int.emod_lt_of_pos (u * u + 48271 * u + (k : Int)) (show (0 : Int) < 2147483647 by decide)
      refine ⟨trivial, _, rfl, [some (.int c), some (.int (m : Int)), some (.ref S.length), some (.int ((u * u + 48271 * u + (k : Int)) % 2147483647)), some (.int (k : Int))], S ++ [some (.lst ((xs ++ [(u * u + 48271 * u + (k : Int)) % 2147483647]).map D.int))], .inl ?_, xs ++ [(u * u + 48271 * u + (k : Int)) % 2147483647], _, by simp [a1], ?_, v0, by omega, rfl, _, rfl⟩
      · have ap := app_last (S := S) (xs := xs.map D.int) (d := .int ((u * u + 48271 * u + (k : Int)) % 2147483647)) (by simp; omega)
        unfold B__law_stream_1
        simp -implicitDefEqProofs (disch := omega) only [evSeq, evSet, evVar, evC, evRet, evRetN, evDrop, evNx, evIf, evBrk, evCnt, evAsg, evFor, evTrue, noX, gN, gT, gAll, q_bin, q_un, q_test, q_and, q_or, q_not, q_andV, q_orV, q_notV, q_ifE, q_args0, q_args1, q_tup, q_lst, q_newL, q_part0, q_part1, q_sl, q_call0, q_call, q_b, q_str1, q_isi, q_src, q_rng, Res.bind, resS, List.map_cons, List.map_nil, List.cons_append, List.nil_append, List.append_nil, List.replicate_succ, List.replicate_zero, List.getElem?_cons_zero, List.getElem?_cons_succ, List.set_cons_zero, List.set_cons_succ, wipeE, opMul_l, opMul_r, opMod_i, opDiv_i, opAdd_i, opSub_i, opNeg_i, opIx_t0, opIx_t1, opIx_t2, opIx_t3, opIx_l0, opMax_i, opMin_i, ofStr_inj, List.length_map, opLen_l, opLen_t, opLen_scr, opIx_l1, opIx_l2, q_L1, q_L0, String.reduceEq, decide_false, decide_true, Bool.not_true, Bool.not_false, opLt_i, opLe_i, opGt_i, opGe_i, opEq_i, opNe_i, opEq_s, opNe_s, opEq_b, opNe_b, dn_bl, dn_int, dn_str, dn_non, Src.items, if_true, if_false, Bool.false_eq_true, decide_eq_true_eq, eq_self, reduceIte, lst_last, ap, List.map_append]
      · intro x hx
        simp only [List.mem_append, List.mem_singleton] at hx
        rcases hx with hx | rfl
        · exact a2 x hx
        · exact v0) (fun _ _ _ => trivial) (List.range (m + 1)) [] [some (.int c), some (.int (m : Int)), some (.ref S.length), some (.int (c % 2147483647 + 48271)), none] (S ++ [some (.lst [])]) rfl ⟨[], _, rfl, fun _ h => absurd h List.not_mem_nil, by omega, by omega, rfl, _, rfl⟩
  rw [← rangeD_map] at f
  rw [List.length_range] at a1
  refine ⟨xs.drop 1, by simp [a1], fun x hx => a2 x (List.mem_of_mem_drop hx), ?_⟩
  have r1 : ∀ (e : EvE) (ρ : En) (S : Store), e ρ S = .ok (.int ((m : Int) + 1)) S → evRng [e] ρ S = .ok (.frz (rangeD 0 (m + 1))) S := fun e ρ S h => by
    have := rng1_go h (by omega) (by omega)
    rw [this, show ((m : Int) + 1).toNat = m + 1 by omega]
  have r2 : ∀ S, evRng [evBin opAdd (evVar 1) (evC (.int 1))] [some (.int c), some (.int (m : Int)), some (.ref S.length), some (.int (c % 2147483647 + 48271)), none] (S ++ [some (.lst [])]) = .ok (.frz (rangeD 0 (m + 1))) (S ++ [some (.lst [])]) := fun S => r1 _ _ _ rfl
  have fl : refsL 0 ((xs.drop 1).map D.int) = true := refsL_map fun _ _ => by simp only [refsB]
  have sl : opSl (.ref S.length) (some 1) none (S ++ [some (.lst (xs.map D.int))]) = .ok (.lst ((xs.drop 1).map D.int)) (S ++ [some (.lst (xs.map D.int))]) := by
    rw [opSl_li lst_last, cutL_map, cutL_from (by decide)]; rfl
  rw [x__law_stream]; unfold runDef evFor
  simp -implicitDefEqProofs (disch := omega) only [evSeq, evSet, evVar, evC, evRet, q_newL, q_args0, q_bin, q_sl, q_part0, q_part1, Res.bind, resS, List.map_cons, List.map_nil, List.cons_append, List.nil_append, List.replicate_succ, List.replicate_zero, List.getElem?_cons_zero, List.getElem?_cons_succ, List.set_cons_zero, List.set_cons_succ, opMod_i, opAdd_i, r2, Src.items, f, sl]
  exact dn_app (by simp only [refsB, fl])
/-! ## letters -/
structure Alpha (z : Str) : Prop where
  pos : 0 < z.length
  few : z.length ≤ 26
  all : ∀ c ∈ z.cps.toList, isL c
def la (z : Str) (x : Int) : Nat := z.cps.toList.getD (x % (z.length : Int)).toNat 0
theorem la_isL {z : Str} (h : Alpha z) (x : Int) : isL (la z x) := by
  have h1 := Int.emod_lt_of_pos x (show (0 : Int) < (z.length : Int) by have := h.pos; omega)
  have h0 := Int.emod_nonneg x (show (z.length : Int) ≠ 0 by have := h.pos; omega)
  have hl := len_cps z
  have hi : (x % (z.length : Int)).toNat < z.cps.toList.length := by omega
  unfold la
  rw [List.getD_eq_getElem?_getD, List.getElem?_eq_getElem hi]
  exact h.all _ (List.getElem_mem hi)
theorem la_at {z : Str} (h : Alpha z) {x : Int} {S : Store} : opIx (.str z) (.int (x % (z.length : Int))) S = .ok (.str (sOf [la z x])) S := by
  have h1 := Int.emod_lt_of_pos x (show (0 : Int) < (z.length : Int) by have := h.pos; omega)
  have h0 := Int.emod_nonneg x (show (z.length : Int) ≠ 0 by have := h.pos; omega)
  have hl := len_cps z
  have hi : (x % (z.length : Int)).toNat < z.cps.toList.length := by omega
  rw [opIx_s (z := z) (c := la z x) (by have := h.few; omega) h0 (by unfold la; rw [List.getD_eq_getElem?_getD, List.getElem?_eq_getElem hi]; rfl)]
abbrev al1 : Str := "bcdfghjklmnpqrstvwxyz"
abbrev al2 : Str := "abcdefghijklmnopqrstuvwxyz"
theorem alpha1 : Alpha al1 := by
  have h : (0 < al1.length ∧ al1.length ≤ 26) ∧ ∀ c ∈ al1.cps.toList, 97 ≤ c ∧ c ≤ 122 := by decide +kernel
  exact ⟨h.1.1, h.1.2, h.2⟩
theorem alpha2 : Alpha al2 := by
  have h : (0 < al2.length ∧ al2.length ≤ 26) ∧ ∀ c ∈ al2.cps.toList, 97 ≤ c ∧ c ≤ 122 := by decide +kernel
  exact ⟨h.1.1, h.1.2, h.2⟩
/-- the names behind the choice of letters and size -/
theorem base_at {z : Str} (hz : Alpha z) {c : Int} {xs : List Int} {s : Int} {S : Store} {d4 : Option D} (h0 : 0 ≤ s) (hs : s ≤ 12) :
    C__law_names_1 [some (.int c), some (.str z), some (.int s), some (.lst (xs.map D.int)), d4, none, none, none, none, none, none, none] S = .ok (.lst ((xs.take s.toNat).map fun x => D.str (sOf [la z x]))) S := by
  unfold C__law_names_1
  refine evLc_map (s := .frz ((xs.take s.toNat).map D.int)) (xs.take s.toNat) D.int (fun x => [some (.int c), some (.str z), some (.int s), some (.lst (xs.map D.int)), d4, none, none, none, none, none, none, some (.int x)]) _ ?_ rfl (fun _ => trivial) (fun _ _ => rfl) (fun x _ acc => ?_) (fun _ _ => by simp only [refsB]) (by simp; omega)
  · simp -implicitDefEqProofs (disch := omega) only [evSeq, evSet, evVar, evC, evRet, evRetN, evDrop, evNx, evIf, evBrk, evCnt, evAsg, evFor, evTrue, noX, gN, gT, gAll, q_bin, q_un, q_test, q_and, q_or, q_not, q_andV, q_orV, q_notV, q_ifE, q_args0, q_args1, q_tup, q_lst, q_newL, q_part0, q_part1, q_sl, q_call0, q_call, q_b, q_str1, q_isi, q_src, q_rng, Res.bind, resS, List.map_cons, List.map_nil, List.cons_append, List.nil_append, List.append_nil, List.replicate_succ, List.replicate_zero, List.getElem?_cons_zero, List.getElem?_cons_succ, List.set_cons_zero, List.set_cons_succ, wipeE, opMul_l, opMul_r, opMod_i, opDiv_i, opAdd_i, opSub_i, opNeg_i, opIx_t0, opIx_t1, opIx_t2, opIx_t3, opIx_l0, opMax_i, opMin_i, ofStr_inj, List.length_map, opLen_l, opLen_t, opLen_scr, opIx_l1, opIx_l2, q_L1, q_L0, String.reduceEq, decide_false, decide_true, Bool.not_true, Bool.not_false, opLt_i, opLe_i, opGt_i, opGe_i, opEq_i, opNe_i, opEq_s, opNe_s, opEq_b, opNe_b, dn_bl, dn_int, dn_str, dn_non, Src.items, if_true, if_false, Bool.false_eq_true, decide_eq_true_eq, eq_self, reduceIte, opSl_l, cutL_to, List.map_take]
  · have zp := hz.pos
    have zf := hz.few
    simp -implicitDefEqProofs (disch := omega) only [evSeq, evSet, evVar, evC, evRet, evRetN, evDrop, evNx, evIf, evBrk, evCnt, evAsg, evFor, evTrue, noX, gN, gT, gAll, q_bin, q_un, q_test, q_and, q_or, q_not, q_andV, q_orV, q_notV, q_ifE, q_args0, q_args1, q_tup, q_lst, q_newL, q_part0, q_part1, q_sl, q_call0, q_call, q_b, q_str1, q_isi, q_src, q_rng, Res.bind, resS, List.map_cons, List.map_nil, List.cons_append, List.nil_append, List.append_nil, List.replicate_succ, List.replicate_zero, List.getElem?_cons_zero, List.getElem?_cons_succ, List.set_cons_zero, List.set_cons_succ, wipeE, opMul_l, opMul_r, opMod_i, opDiv_i, opAdd_i, opSub_i, opNeg_i, opIx_t0, opIx_t1, opIx_t2, opIx_t3, opIx_l0, opMax_i, opMin_i, ofStr_inj, List.length_map, opLen_l, opLen_t, opLen_scr, opIx_l1, opIx_l2, q_L1, q_L0, String.reduceEq, decide_false, decide_true, Bool.not_true, Bool.not_false, opLt_i, opLe_i, opGt_i, opGe_i, opEq_i, opNe_i, opEq_s, opNe_s, opEq_b, opNe_b, dn_bl, dn_int, dn_str, dn_non, Src.items, if_true, if_false, Bool.false_eq_true, decide_eq_true_eq, eq_self, reduceIte, opLen_s, la_at hz]
theorem name_step {z : Str} (hz : Alpha z) {c : Int} {xs : List Int} {s p q : Int} {k : Nat} {S : Store} {many : D} {d6 d9 d10 d11 : Option D} {ys : List Str} (h0 : 0 < s) (hs : s ≤ 12) (hl : (xs.length : Int) = s + 2) (hp0 : 0 ≤ p) (hp : p < s) (hy : ys.length ≤ 100) :
    ∃ n : Str, Wd n ∧ ∃ e10, B__law_names_1 [some (.int c), some (.str z), some (.int s), some (.lst (xs.map D.int)), some many, some (.lst ((xs.take s.toNat).map fun x => D.str (sOf [la z x]))), d6, some (.int p), some (.ref S.length), some (.int (k : Int)), d10, d11] (S ++ [some (.lst (ys.map D.str))]) =
      .nx [some (.int c), some (.str z), some (.int s), some (.lst (xs.map D.int)), some many, some (.lst ((xs.take s.toNat).map fun x => D.str (sOf [la z x]))), d6, some (.int p), some (.ref S.length), some (.int (k : Int)), e10, d11] (S ++ [some (.lst ((ys ++ [n]).map D.str))]) := by
  obtain ⟨xp, _, i1⟩ := pick_at (xs := xs) (i := p) hp0 (by omega)
  have e1 : ∀ S, opIx (.lst (xs.map D.int)) (.int p) S = .ok (.int xp) S := fun S => opIx_l hp0 (map_at i1)
  have zp := hz.pos
  have zf := hz.few
  have hb : (xs.take s.toNat).length = s.toNat := by simp; omega
  have j1 : ∀ S, opJoin "" (.lst (((xs.take s.toNat).take p.toNat).map fun x => D.str (sOf [la z x]))) S = .ok (.str (sOf (((xs.take s.toNat).take p.toNat).map (la z)))) S := fun S => by
    rw [opJoin_singles (g := la z) (by simp; omega)]
  have j2 : ∀ S, opJoin "" (.lst (((xs.take s.toNat).drop (p + 1).toNat).map fun x => D.str (sOf [la z x]))) S = .ok (.str (sOf (((xs.take s.toNat).drop (p + 1).toNat).map (la z)))) S := fun S => by
    rw [opJoin_singles (g := la z) (by simp; omega)]
  have c1 : cutL ((xs.take s.toNat).map fun x => D.str (sOf [la z x])) none (some p) = ((xs.take s.toNat).take p.toNat).map fun x => D.str (sOf [la z x]) := by rw [cutL_map, cutL_to hp0]
  have c2 : cutL ((xs.take s.toNat).map fun x => D.str (sOf [la z x])) (some (p + 1)) none = ((xs.take s.toNat).drop (p + 1).toNat).map fun x => D.str (sOf [la z x]) := by rw [cutL_map, cutL_from (by omega)]
  generalize hA : ((xs.take s.toNat).take p.toNat).map (la z) = A at j1
  generalize hB : ((xs.take s.toNat).drop (p + 1).toNat).map (la z) = B at j2
  have lA : A.length = p.toNat := by rw [← hA]; simp; omega
  have lB : B.length = s.toNat - (p + 1).toNat := by rw [← hB]; simp; omega
  have iA : ∀ c ∈ A, isL c := fun c hc => by
    rw [← hA] at hc
    obtain ⟨x, _, rfl⟩ := List.mem_map.mp hc
    exact la_isL hz x
  have iB : ∀ c ∈ B, isL c := fun c hc => by
    rw [← hB] at hc
    obtain ⟨x, _, rfl⟩ := List.mem_map.mp hc
    exact la_isL hz x
  refine ⟨sOf (A ++ [la z (xp + (k : Int))] ++ B), wd_of (by simp; omega) (by simp; omega) ?_, some (.str (sOf [la z (xp + (k : Int))])), ?_⟩
  · intro c hc
    simp only [List.mem_append, List.mem_singleton] at hc
    rcases hc with (hc | rfl) | hc
    · exact iA c hc
    · exact la_isL hz _
    · exact iB c hc
  · have ap := app_last (S := S) (xs := ys.map D.str) (d := .str (sOf (A ++ [la z (xp + (k : Int))] ++ B))) (by simp; omega)
    have l1 := sOf_len A
    have l2 := sOf_len B
    have l3 : (sOf [la z (xp + (k : Int))]).length = 1 := rfl
    have l4 : (sOf (A ++ [la z (xp + (k : Int))])).length = A.length + 1 := by rw [sOf_len]; simp
    unfold B__law_names_1
    simp -implicitDefEqProofs (disch := omega) only [evSeq, evSet, evVar, evC, evRet, evRetN, evDrop, evNx, evIf, evBrk, evCnt, evAsg, evFor, evTrue, noX, gN, gT, gAll, q_bin, q_un, q_test, q_and, q_or, q_not, q_andV, q_orV, q_notV, q_ifE, q_args0, q_args1, q_tup, q_lst, q_newL, q_part0, q_part1, q_sl, q_call0, q_call, q_b, q_str1, q_isi, q_src, q_rng, Res.bind, resS, List.map_cons, List.map_nil, List.cons_append, List.nil_append, List.append_nil, List.replicate_succ, List.replicate_zero, List.getElem?_cons_zero, List.getElem?_cons_succ, List.set_cons_zero, List.set_cons_succ, wipeE, opMul_l, opMul_r, opMod_i, opDiv_i, opAdd_i, opSub_i, opNeg_i, opIx_t0, opIx_t1, opIx_t2, opIx_t3, opIx_l0, opMax_i, opMin_i, ofStr_inj, List.length_map, opLen_l, opLen_t, opLen_scr, opIx_l1, opIx_l2, q_L1, q_L0, String.reduceEq, decide_false, decide_true, Bool.not_true, Bool.not_false, opLt_i, opLe_i, opGt_i, opGe_i, opEq_i, opNe_i, opEq_s, opNe_s, opEq_b, opNe_b, dn_bl, dn_int, dn_str, dn_non, Src.items, if_true, if_false, Bool.false_eq_true, decide_eq_true_eq, eq_self, reduceIte, e1, opLen_s, la_at hz, opSl_l, c1, c2, j1, j2, opAdd_s, sOf_app, lst_last, ap, List.map_append]
end Kd

namespace Kd
open PySem PySem.Spec L2 Ev
theorem E_namesB {c : Int} {S : Store} : ∃ ys : List Str, 3 ≤ ys.length ∧ ys.length ≤ 6 ∧ (∀ y ∈ ys, Wd y) ∧ E__law_names [.int c] S = .ok (.lst (ys.map D.str)) S := by
  have w0 := Int.emod_nonneg (c / 8) (show (4 : Int) ≠ 0 by decide)
  have s0 := Int.emod_nonneg c (show (8 : Int) ≠ 0 by decide)
  have s1 := Int.emod_lt_of_pos c (show (0 : Int) < 8 by decide)
  have t0 := Int.emod_nonneg (c / 32) (show (4 : Int) ≠ 0 by decide)
  have t1 := Int.emod_lt_of_pos (c / 32) (show (0 : Int) < 4 by decide)
  -- the choice of letters and size
  obtain ⟨z, s, hz, hs0, hs1, hsz⟩ : ∃ (z : Str) (s : Int), Alpha z ∧ 0 < s ∧ s ≤ 12 ∧ (c / 8 % 4 = 1 ∧ z = al2 ∧ s = 9 + c / 32 % 4 ∨ ¬ c / 8 % 4 = 1 ∧ z = al1 ∧ s = 1 + c % 8) := by
    by_cases w : c / 8 % 4 = 1
    · exact ⟨al2, 9 + c / 32 % 4, alpha2, by omega, by omega, .inl ⟨w, rfl, rfl⟩⟩
    · exact ⟨al1, 1 + c % 8, alpha1, by omega, by omega, .inr ⟨w, rfl, rfl⟩⟩
  obtain ⟨m, rfl⟩ : ∃ m : Nat, s = (m : Int) := ⟨s.toNat, by omega⟩
  obtain ⟨xs, x1, x2, x3⟩ := E_stream (c := c / 128) (m := m + 2) (S := S) (by omega)
  rw [show ((m + 2 : Nat) : Int) = (m : Int) + 2 by omega] at x3
  obtain ⟨xm, _, i1⟩ := pick_at (xs := xs) (i := (m : Int) + 1) (by omega) (by omega)
  obtain ⟨xa, _, i2⟩ := pick_at (xs := xs) (i := (m : Int)) (by omega) (by omega)
  have e1 : opIx (.lst (xs.map D.int)) (.int ((m : Int) + 1)) S = .ok (.int xm) S := opIx_l (by omega) (map_at i1)
  have e2 : opIx (.lst (xs.map D.int)) (.int (m : Int)) S = .ok (.int xa) S := opIx_l (by omega) (map_at i2)
  have m0 := Int.emod_nonneg xm (show (4 : Int) ≠ 0 by decide)
  have m1 := Int.emod_lt_of_pos xm (show (0 : Int) < 4 by decide)
  have a0 := Int.emod_nonneg xa (show (m : Int) ≠ 0 by omega)
  have a1 := Int.emod_lt_of_pos xa (show (0 : Int) < (m : Int) by omega)
  have eb := base_at hz (c := c) (xs := xs) (s := (m : Int)) (S := S) (d4 := some (.int (3 + xm % 4))) (by omega) hs1
  have hb : ∀ ρ S, evVar 0 ρ S = evVar 0 ρ S := fun _ _ => rfl
  -- what is ahead of the base
  by_cases w2 : c / 8 % 4 = 2
  · have w1 : ¬ c / 8 % 4 = 1 := by omega
    obtain ⟨rfl, hm⟩ : z = al1 ∧ (m : Int) = 1 + c % 8 := by
      rcases hsz with ⟨h, _⟩ | ⟨_, h1, h2⟩
      · exact absurd h w1
      · exact ⟨h1, h2⟩
    have ej : opJoin "" (.lst ((xs.take m).map fun x => D.str (sOf [la al1 x]))) S = .ok (.str (sOf ((xs.take m).map (la al1)))) S := by
      rw [opJoin_singles (g := la al1) (by simp; omega)]
    have hW : ((xs.take m).map (la al1)).length = m := by simp; omega
    have iW : ∀ c ∈ (xs.take m).map (la al1), isL c := fun c hc => by
      obtain ⟨x, _, rfl⟩ := List.mem_map.mp hc
      exact la_isL alpha1 x
    generalize hWW : (xs.take m).map (la al1) = W at ej hW iW
    have ml := mul_len (z := sOf W) (n := 6) (by decide) (by rw [sOf_len]; omega)
    have hz6 : Txt.mul (sOf W) 6 = Txt.mul (sOf W) ((6 : Nat) : Int) := rfl
    rw [← hz6] at ml
    generalize hZ : Txt.mul (sOf W) 6 = Z at ml
    have zl : Z.length = 6 * m := by rw [ml.1, sOf_len, hW]
    have zo : Z = sOf Z.cps.toList := str_ext (by simp [sOf])
    have zll : Z.cps.toList.length = 6 * m := by rw [len_cps]; exact zl
    have comp : C__law_names_2 [some (.int c), some (.str al1), some (.int (m : Int)), some (.lst (xs.map D.int)), some (.int (3 + xm % 4)), some (.lst ((xs.take m).map fun x => D.str (sOf [la al1 x]))), some (.str Z), none, none, none, none, none] S =
        .ok (.lst ((List.range (3 + xm % 4).toNat).map fun k => D.str (sOf (Z.cps.toList.take (k + 1))))) S := by
      unfold C__law_names_2
      refine evLc_map (s := .frz (rangeD 0 (3 + xm % 4).toNat)) (List.range (3 + xm % 4).toNat) (fun k : Nat => D.int (k : Int)) (fun k => [some (.int c), some (.str al1), some (.int (m : Int)), some (.lst (xs.map D.int)), some (.int (3 + xm % 4)), some (.lst ((xs.take m).map fun x => D.str (sOf [la al1 x]))), some (.str Z), none, none, some (.int (k : Int)), none, none]) _
        (rng1_go rfl (by omega) (by omega)) (rangeD_map _) (fun _ => trivial) (fun _ _ => rfl) (fun k hk acc => ?_) (fun _ _ => by simp only [refsB]) (by simp; omega)
      have ct : L2.cutS Z none (some ((k : Int) + 1)) = sOf (Z.cps.toList.take (k + 1)) := by
        conv => lhs; rw [zo]
        rw [cut_to (by omega), show ((k : Int) + 1).toNat = k + 1 by omega]
      simp -implicitDefEqProofs (disch := omega) only [evSeq, evSet, evVar, evC, evRet, evRetN, evDrop, evNx, evIf, evBrk, evCnt, evAsg, evFor, evTrue, noX, gN, gT, gAll, q_bin, q_un, q_test, q_and, q_or, q_not, q_andV, q_orV, q_notV, q_ifE, q_args0, q_args1, q_tup, q_lst, q_newL, q_part0, q_part1, q_sl, q_call0, q_call, q_b, q_str1, q_isi, q_src, q_rng, opRng_1, opRng_2, Res.bind, resS, List.map_cons, List.map_nil, List.cons_append, List.nil_append, List.append_nil, List.replicate_succ, List.replicate_zero, List.getElem?_cons_zero, List.getElem?_cons_succ, List.set_cons_zero, List.set_cons_succ, wipeE, opMul_l, opMul_r, opMod_i, opDiv_i, opAdd_i, opSub_i, opNeg_i, opIx_t0, opIx_t1, opIx_t2, opIx_t3, opIx_l0, opMax_i, opMin_i, ofStr_inj, List.length_map, opLen_l, opLen_t, opLen_scr, opIx_l1, opIx_l2, q_L1, q_L0, String.reduceEq, decide_false, decide_true, Bool.not_true, Bool.not_false, opLt_i, opLe_i, opGt_i, opGe_i, opEq_i, opNe_i, opEq_s, opNe_s, opEq_b, opNe_b, dn_bl, dn_int, dn_str, dn_non, Src.items, if_true, if_false, Bool.false_eq_true, decide_eq_true_eq, eq_self, reduceIte, opSl_s, ct]
    refine ⟨(List.range (3 + xm % 4).toNat).map fun k => sOf (Z.cps.toList.take (k + 1)), by simp; omega, by simp; omega, fun y hy => ?_, ?_⟩
    · obtain ⟨k, hk, rfl⟩ := List.mem_map.mp hy
      have hk := List.mem_range.mp hk
      refine wd_of (by rw [List.length_take, zll]; omega) (by rw [List.length_take, zll]; omega) fun c hc => ?_
      have := ml.2 c (List.mem_of_mem_take hc)
      exact iW c (by simpa [sOf] using this)
    · have l1 := sOf_len W
      rw [show (m : Int).toNat = m by omega] at eb
      rw [x__law_names]; unfold runDef
      simp -implicitDefEqProofs (disch := omega) only [evSeq, evSet, evVar, evC, evRet, evRetN, evDrop, evNx, evIf, evBrk, evCnt, evAsg, evFor, evTrue, noX, gN, gT, gAll, q_bin, q_un, q_test, q_and, q_or, q_not, q_andV, q_orV, q_notV, q_ifE, q_args0, q_args1, q_tup, q_lst, q_newL, q_part0, q_part1, q_sl, q_call0, q_call, q_b, q_str1, q_isi, q_src, q_rng, opRng_1, opRng_2, Res.bind, resS, List.map_cons, List.map_nil, List.cons_append, List.nil_append, List.append_nil, List.replicate_succ, List.replicate_zero, List.getElem?_cons_zero, List.getElem?_cons_succ, List.set_cons_zero, List.set_cons_succ, wipeE, opMul_l, opMul_r, opMod_i, opDiv_i, opAdd_i, opSub_i, opNeg_i, opIx_t0, opIx_t1, opIx_t2, opIx_t3, opIx_l0, opMax_i, opMin_i, ofStr_inj, List.length_map, opLen_l, opLen_t, opLen_scr, opIx_l1, opIx_l2, q_L1, q_L0, String.reduceEq, decide_false, decide_true, Bool.not_true, Bool.not_false, opLt_i, opLe_i, opGt_i, opGe_i, opEq_i, opNe_i, opEq_s, opNe_s, opEq_b, opNe_b, dn_bl, dn_int, dn_str, dn_non, Src.items, if_true, if_false, Bool.false_eq_true, decide_eq_true_eq, eq_self, reduceIte, w1, w2, ← hm, x3, e1, eb, ej, opMul_s, hZ, comp, List.map_map, Function.comp_def, Int.reduceEq]
      exact dn_pure (by simp only [refsB]; exact refsL_map fun _ _ => by simp only [refsB])
  · have base : ((xs.take (m : Int).toNat).map fun x => D.str (sOf [la z x])) = ((xs.take (m : Int).toNat).map fun x => D.str (sOf [la z x])) := rfl
    obtain ⟨ρ', S', f, ys, b1, b2, rfl, d6, d9, d10, d11, rfl⟩ := forL_inv (s := Src.frz (rangeD 0 (3 + xm % 4).toNat)) (g := gN 9) (body := B__law_names_1) (fun k : Nat => D.int (k : Int))
      (fun pre ρ S' => ∃ ys : List Str, ys.length = pre.length ∧ (∀ y ∈ ys, Wd y) ∧ S' = S ++ [some (.lst (ys.map D.str))] ∧ ∃ d6 d9 d10 d11, ρ = [some (.int c), some (.str z), some (.int (m : Int)), some (.lst (xs.map D.int)), some (.int (3 + xm % 4)), some (.lst ((xs.take (m : Int).toNat).map fun x => D.str (sOf [la z x]))), d6, some (.int (xa % (m : Int))), some (.ref S.length), d9, d10, d11]) (List.range (3 + xm % 4).toNat)
      (fun pre k post ρ S' e ⟨ys, b1, b2, hS, d6, d9, d10, d11, hρ⟩ => by
        subst hS; subst hρ
        have hp : pre.length ≤ 6 := by have := congrArg List.length e; simp at this; omega
        obtain ⟨n, n1, e10, n2⟩ := name_step hz (c := c) (xs := xs) (s := (m : Int)) (p := xa % (m : Int)) (q := 0) (k := k) (S := S) (many := .int (3 + xm % 4)) (d6 := d6) (d9 := d9) (d10 := d10) (d11 := d11) (ys := ys) hs0 hs1 (by omega) a0 a1 (by omega)
        refine ⟨trivial, _, rfl, _, _, .inl n2, ys ++ [n], by simp [b1], ?_, rfl, _, _, _, _, rfl⟩
        intro y hy
        simp only [List.mem_append, List.mem_singleton] at hy
        rcases hy with hy | rfl
        · exact b2 y hy
        · exact n1) (fun _ _ _ => trivial) (List.range (3 + xm % 4).toNat) [] [some (.int c), some (.str z), some (.int (m : Int)), some (.lst (xs.map D.int)), some (.int (3 + xm % 4)), some (.lst ((xs.take (m : Int).toNat).map fun x => D.str (sOf [la z x]))), none, some (.int (xa % (m : Int))), some (.ref S.length), none, none, none] (S ++ [some (.lst [])]) rfl ⟨[], rfl, fun _ h => absurd h List.not_mem_nil, rfl, _, _, _, _, rfl⟩
    rw [← rangeD_map] at f
    rw [List.length_range] at b1
    have fl : refsL 0 (ys.map D.str) = true := refsL_map fun _ _ => by simp only [refsB]
    refine ⟨ys, by omega, by omega, b2, ?_⟩
    have rg : ∀ (a b d6 d7 d9 d10 d11 : Option D) (a2 a3 a5 : Option D) (S : Store), evRng [evVar 4] [a, b, a2, a3, some (.int (3 + xm % 4)), a5, d6, d7, d9, none, d10, d11] S = .ok (.frz (rangeD 0 (3 + xm % 4).toNat)) S := fun a b d6 d7 d9 d10 d11 a2 a3 a5 S => rng1_go rfl (by omega) (by omega)
    have done : ∀ r : Res D, r = fin S (S ++ [none]) (.lst (ys.map D.str)) → r = .ok (.lst (ys.map D.str)) S := fun r h => by rw [h, dn_app (by simp only [refsB, fl])]
    apply done
    rw [x__law_names]; unfold runDef
    rcases hsz with ⟨w1, rfl, hm⟩ | ⟨w1, rfl, hm⟩
    · simp -implicitDefEqProofs (disch := omega) only [evSeq, evSet, evVar, evC, evRet, evRetN, evDrop, evNx, evIf, evBrk, evCnt, evAsg, evFor, evTrue, noX, gN, gT, gAll, q_bin, q_un, q_test, q_and, q_or, q_not, q_andV, q_orV, q_notV, q_ifE, q_args0, q_args1, q_tup, q_lst, q_newL, q_part0, q_part1, q_sl, q_call0, q_call, q_b, q_str1, q_isi, q_src, q_rng, opRng_1, opRng_2, Res.bind, resS, List.map_cons, List.map_nil, List.cons_append, List.nil_append, List.append_nil, List.replicate_succ, List.replicate_zero, List.getElem?_cons_zero, List.getElem?_cons_succ, List.set_cons_zero, List.set_cons_succ, wipeE, opMul_l, opMul_r, opMod_i, opDiv_i, opAdd_i, opSub_i, opNeg_i, opIx_t0, opIx_t1, opIx_t2, opIx_t3, opIx_l0, opMax_i, opMin_i, ofStr_inj, List.length_map, opLen_l, opLen_t, opLen_scr, opIx_l1, opIx_l2, q_L1, q_L0, String.reduceEq, decide_false, decide_true, Bool.not_true, Bool.not_false, opLt_i, opLe_i, opGt_i, opGe_i, opEq_i, opNe_i, opEq_s, opNe_s, opEq_b, opNe_b, dn_bl, dn_int, dn_str, dn_non, Src.items, if_true, if_false, Bool.false_eq_true, decide_eq_true_eq, eq_self, reduceIte, w1, w2, ← hm, x3, e1, e2, eb, rg, f, q_frz, frz_last fl, Int.reduceEq]
    · simp -implicitDefEqProofs (disch := omega) only [evSeq, evSet, evVar, evC, evRet, evRetN, evDrop, evNx, evIf, evBrk, evCnt, evAsg, evFor, evTrue, noX, gN, gT, gAll, q_bin, q_un, q_test, q_and, q_or, q_not, q_andV, q_orV, q_notV, q_ifE, q_args0, q_args1, q_tup, q_lst, q_newL, q_part0, q_part1, q_sl, q_call0, q_call, q_b, q_str1, q_isi, q_src, q_rng, opRng_1, opRng_2, Res.bind, resS, List.map_cons, List.map_nil, List.cons_append, List.nil_append, List.append_nil, List.replicate_succ, List.replicate_zero, List.getElem?_cons_zero, List.getElem?_cons_succ, List.set_cons_zero, List.set_cons_succ, wipeE, opMul_l, opMul_r, opMod_i, opDiv_i, opAdd_i, opSub_i, opNeg_i, opIx_t0, opIx_t1, opIx_t2, opIx_t3, opIx_l0, opMax_i, opMin_i, ofStr_inj, List.length_map, opLen_l, opLen_t, opLen_scr, opIx_l1, opIx_l2, q_L1, q_L0, String.reduceEq, decide_false, decide_true, Bool.not_true, Bool.not_false, opLt_i, opLe_i, opGt_i, opGe_i, opEq_i, opNe_i, opEq_s, opNe_s, opEq_b, opNe_b, dn_bl, dn_int, dn_str, dn_non, Src.items, if_true, if_false, Bool.false_eq_true, decide_eq_true_eq, eq_self, reduceIte, w1, w2, ← hm, x3, e1, e2, eb, rg, f, q_frz, frz_last fl, Int.reduceEq]
end Kd

namespace Kd
open PySem PySem.Spec L2 Ev
/-! # thoughts, sayings, rows -/
inductive Th where
  | kind (s : Str) | any | none | both (a b : Th) | some (r : Str) (a : Th)
def Th.enc : Th → D
  | .kind s => .tup [.str "kind", .str s]
  | .any => .tup [.str "any"]
  | .none => .tup [.str "none"]
  | .both a b => .tup [.str "both", a.enc, b.enc]
  | .some r a => .tup [.str "some", .str r, a.enc]
def Th.hi : Th → Nat
  | .both a b => 1 + (if b.hi > a.hi then b.hi else a.hi)
  | .some _ a => 1 + a.hi
  | _ => 0
def Th.Ok (K T : Str → Prop) : Th → Prop
  | .kind s => K s
  | .both a b => a.Ok K T ∧ b.Ok K T
  | .some r a => T r ∧ a.Ok K T
  | _ => True
theorem Th.refs : ∀ t : Th, refsB 0 t.enc = true
  | .kind s => by simp only [Th.enc, refsB, refsL, Bool.and_self]
  | .any => by simp only [Th.enc, refsB, refsL, Bool.and_self]
  | .none => by simp only [Th.enc, refsB, refsL, Bool.and_self]
  | .both a b => by simp only [Th.enc, refsB, refsL, a.refs, b.refs, Bool.and_self]
  | .some r a => by simp only [Th.enc, refsB, refsL, a.refs, Bool.and_self]
theorem hi_both (a b : Th) : (Th.both a b).hi ≤ 1 + max a.hi b.hi := by
  simp only [Th.hi]
  split <;> omega
inductive Sy where
  | every (a b : Th) | same (a b : Th) | no (a b : Th) | tie (r s : Str) | chain (r s t : Str) | runs (r : Str) | thing (a : Str) (x : Th) | link (a r b : Str)
def Sy.enc : Sy → D
  | .every a b => .tup [.str "every", a.enc, b.enc]
  | .same a b => .tup [.str "same", a.enc, b.enc]
  | .no a b => .tup [.str "no", a.enc, b.enc]
  | .tie r s => .tup [.str "tie", .str r, .str s]
  | .chain r s t => .tup [.str "chain", .str r, .str s, .str t]
  | .runs r => .tup [.str "runs", .str r]
  | .thing a x => .tup [.str "thing", .str a, x.enc]
  | .link a r b => .tup [.str "link", .str a, .str r, .str b]
def Sy.Ok (P : Th → Prop) (T A : Str → Prop) : Sy → Prop
  | .every a b => P a ∧ P b
  | .same a b => P a ∧ P b
  | .no a b => P a ∧ P b
  | .tie r s => T r ∧ T s
  | .chain r s t => T r ∧ T s ∧ T t
  | .runs r => T r
  | .thing a x => A a ∧ P x
  | .link a r b => A a ∧ T r ∧ A b
theorem Sy.refs : ∀ y : Sy, refsB 0 y.enc = true
  | .every a b => by simp only [Sy.enc, refsB, refsL, a.refs, b.refs, Bool.and_self]
  | .same a b => by simp only [Sy.enc, refsB, refsL, a.refs, b.refs, Bool.and_self]
  | .no a b => by simp only [Sy.enc, refsB, refsL, a.refs, b.refs, Bool.and_self]
  | .tie r s => by simp only [Sy.enc, refsB, refsL, Bool.and_self]
  | .chain r s t => by simp only [Sy.enc, refsB, refsL, Bool.and_self]
  | .runs r => by simp only [Sy.enc, refsB, refsL, Bool.and_self]
  | .thing a x => by simp only [Sy.enc, refsB, refsL, x.refs, Bool.and_self]
  | .link a r b => by simp only [Sy.enc, refsB, refsL, Bool.and_self]
theorem sk_lit : Sk "kind" ∧ Sk "any" ∧ Sk "none" ∧ Sk "both" ∧ Sk "some" ∧ Sk "under" ∧ Sk "sub" ∧ Sk "chain" ∧ Sk "mark" ∧ Sk "link" := by decide +kernel
theorem mem1 {a : D} {P : D → Prop} (h : P a) : ∀ d ∈ [a], P d := by simpa using h
theorem mem2 {a b : D} {P : D → Prop} (h1 : P a) (h2 : P b) : ∀ d ∈ [a, b], P d := by simp [h1, h2]
theorem mem3 {a b c : D} {P : D → Prop} (h1 : P a) (h2 : P b) (h3 : P c) : ∀ d ∈ [a, b, c], P d := by simp [h1, h2, h3]
theorem mem4 {a b c e : D} {P : D → Prop} (h1 : P a) (h2 : P b) (h3 : P c) (h4 : P e) : ∀ d ∈ [a, b, c, e], P d := by simp [h1, h2, h3, h4]
theorem Gs {n : Nat} {s : Str} (h : Sk s) : Good n (.str s) := (Good.str h).mono (Nat.zero_le _)
theorem Th.good : ∀ {t : Th}, t.Ok Sk Sk → Good (t.hi + 1) t.enc
  | .kind s, h => Good.tup (mem2 (Gs sk_lit.1) (Gs h))
  | .any, h => Good.tup (mem1 (Gs sk_lit.2.1))
  | .none, h => Good.tup (mem1 (Gs sk_lit.2.2.1))
  | .both a b, h => by
    have ha := Th.good h.1
    have hb := Th.good h.2
    refine (Good.tup (n := 1 + (if b.hi > a.hi then b.hi else a.hi)) (mem3 (Gs sk_lit.2.2.2.1) (ha.mono ?_) (hb.mono ?_)))
    · split <;> omega
    · split <;> omega
  | .some r a, h => by
    have ha := Th.good h.2
    exact Good.tup (n := 1 + a.hi) (mem3 (Gs sk_lit.2.2.2.2.1) (Gs h.1) (ha.mono (by omega)))
/-! # plain rows -/
inductive Rw where
  | under (a b : Th) | sub (r s : Str) | chain (r s t : Str) | mark (a : Str) (x : Th) | link (a r b : Str)
def Rw.enc : Rw → D
  | .under a b => .tup [.str "under", a.enc, b.enc]
  | .sub r s => .tup [.str "sub", .str r, .str s]
  | .chain r s t => .tup [.str "chain", .str r, .str s, .str t]
  | .mark a x => .tup [.str "mark", .str a, x.enc]
  | .link a r b => .tup [.str "link", .str a, .str r, .str b]
def Sy.rows : Sy → List Rw
  | .every a b => [.under a b]
  | .same a b => [.under a b, .under b a]
  | .no a b => [.under (.both a b) .none]
  | .tie r s => [.sub r s]
  | .chain r s t => [.chain r s t]
  | .runs r => [.chain r r r]
  | .thing a x => [.mark a x]
  | .link a r b => [.link a r b]
def Rw.Ok (P : Th → Prop) (T A : Str → Prop) : Rw → Prop
  | .under a b => P a ∧ P b
  | .sub r s => T r ∧ T s
  | .chain r s t => T r ∧ T s ∧ T t
  | .mark a x => A a ∧ P x
  | .link a r b => A a ∧ T r ∧ A b
theorem Rw.good {n : Nat} {w : Rw} (h : w.Ok (fun t => t.Ok Sk Sk ∧ t.hi ≤ n) Sk Sk) : Good (n + 2) w.enc := by
  obtain ⟨l1, l2, l3, l4, l5, l6, l7, l8, l9, l10⟩ := sk_lit
  cases w with
  | under a b => exact Good.tup (mem3 (Gs l6) ((Th.good h.1.1).mono (by have := h.1.2; omega)) ((Th.good h.2.1).mono (by have := h.2.2; omega)))
  | sub r s => exact Good.tup (mem3 (Gs l7) (Gs h.1) (Gs h.2))
  | chain r s t => exact Good.tup (mem4 (Gs l8) (Gs h.1) (Gs h.2.1) (Gs h.2.2))
  | mark a x => exact Good.tup (mem3 (Gs l9) (Gs h.1) ((Th.good h.2.1).mono (by have := h.2.2; omega)))
  | link a r b => exact Good.tup (mem4 (Gs l10) (Gs h.1) (Gs h.2.1) (Gs h.2.2))
theorem Sy.rows_ok {n : Nat} {y : Sy} (h : y.Ok (fun t => t.Ok Sk Sk ∧ t.hi ≤ n) Sk Sk) : ∀ w ∈ y.rows, w.Ok (fun t => t.Ok Sk Sk ∧ t.hi ≤ n + 1) Sk Sk := by
  have up : ∀ {t : Th}, t.Ok Sk Sk ∧ t.hi ≤ n → t.Ok Sk Sk ∧ t.hi ≤ n + 1 := fun h => ⟨h.1, by have := h.2; omega⟩
  intro w hw
  cases y with
  | every a b => simp only [Sy.rows, List.mem_singleton] at hw; subst hw; exact ⟨up h.1, up h.2⟩
  | same a b =>
    simp only [Sy.rows, List.mem_cons, List.not_mem_nil, or_false] at hw
    rcases hw with rfl | rfl
    · exact ⟨up h.1, up h.2⟩
    · exact ⟨up h.2, up h.1⟩
  | no a b =>
    simp only [Sy.rows, List.mem_singleton] at hw; subst hw
    refine ⟨⟨⟨h.1.1, h.2.1⟩, ?_⟩, trivial, Nat.zero_le _⟩
    have := hi_both a b
    have h1 : a.hi ≤ n := h.1.2
    have h2 : b.hi ≤ n := h.2.2
    omega
  | tie r s => simp only [Sy.rows, List.mem_singleton] at hw; subst hw; exact h
  | chain r s t => simp only [Sy.rows, List.mem_singleton] at hw; subst hw; exact h
  | runs r => simp only [Sy.rows, List.mem_singleton] at hw; subst hw; exact ⟨h, h, h⟩
  | thing a x => simp only [Sy.rows, List.mem_singleton] at hw; subst hw; exact ⟨h.1, up h.2⟩
  | link a r b => simp only [Sy.rows, List.mem_singleton] at hw; subst hw; exact h
theorem rows_good {n : Nat} {y : Sy} (h : y.Ok (fun t => t.Ok Sk Sk ∧ t.hi ≤ n) Sk Sk) : Good (n + 4) (.lst (y.rows.map Rw.enc)) :=
  Good.lst fun d hd => by
    obtain ⟨w, hw, rfl⟩ := List.mem_map.mp hd
    exact Rw.good (Sy.rows_ok h w hw)
end Kd

namespace Kd
open PySem PySem.Spec L2 Ev
/-! # thoughts and sayings (group B) -/
theorem two_pow (d : Nat) : 1 ≤ 2 ^ d := Nat.one_le_two_pow
theorem E_thoughtB {K : Str → Prop} {ys : List Str} {xs : List Int} {S : Store} (y0 : 3 ≤ ys.length) (y1 : ys.length ≤ 6) (hK : ∀ y ∈ ys, K y) (x0 : xs.length ≤ 100) :
    ∀ (n d a : Nat), d < n → (a + 2) * 2 ^ d ≤ xs.length + 1 → ∃ t : Th, t.Ok K K ∧ t.hi ≤ d ∧ E__law_thought n [.lst (ys.map D.str), .lst (xs.map D.int), .int (a : Int), .int (d : Int)] S = .ok t.enc S
  | 0, d, a, h, _ => absurd h (Nat.not_lt_zero _)
  | n + 1, d, a, h, hx => by
    have p1 := two_pow d
    have ha : a + 2 ≤ xs.length + 1 := Nat.le_trans (by have := Nat.mul_le_mul_left (a + 2) p1; omega) hx
    obtain ⟨x, _, i1⟩ := pick_at (xs := xs) (i := (a : Int)) (by omega) (by omega)
    have e1 : opIx (.lst (xs.map D.int)) (.int (a : Int)) S = .ok (.int x) S := opIx_l (by omega) (map_at i1)
    have r0 := Int.emod_nonneg (x / 8) (show ((ys.length : Int)) ≠ 0 by omega)
    have r1 := Int.emod_lt_of_pos (x / 8) (show (0 : Int) < (ys.length : Int) by omega)
    have m0 := Int.emod_nonneg (ys.length : Int) (show (2 : Int) ≠ 0 by decide)
    have m1 := Int.emod_lt_of_pos (ys.length : Int) (show (0 : Int) < 2 by decide)
    have q0 := Int.emod_nonneg (x / 8) (show (2 + (ys.length : Int) % 2) ≠ 0 by omega)
    have q1 := Int.emod_lt_of_pos (x / 8) (show (0 : Int) < 2 + (ys.length : Int) % 2 by omega)
    have u0 := Int.emod_nonneg (x / 8) (show (3 : Int) ≠ 0 by decide)
    have u1 := Int.emod_lt_of_pos (x / 8) (show (0 : Int) < 3 by decide)
    obtain ⟨k, k0, i2⟩ := pick_at (xs := ys) (i := (x / 8) % (ys.length : Int)) r0 r1
    obtain ⟨r, k1, i3⟩ := pick_at (xs := ys) (i := (x / 8) % (2 + (ys.length : Int) % 2)) q0 (by omega)
    have e2 : opIx (.lst (ys.map D.str)) (.int ((x / 8) % (ys.length : Int))) S = .ok (.str k) S := opIx_l r0 (map_at i2)
    have e3 : opIx (.lst (ys.map D.str)) (.int ((x / 8) % (2 + (ys.length : Int) % 2))) S = .ok (.str r) S := opIx_l q0 (map_at i3)
    have go : ∀ t : Th, t.Ok K K → t.hi ≤ d → E__law_thought (n + 1) [.lst (ys.map D.str), .lst (xs.map D.int), .int (a : Int), .int (d : Int)] S = fin S S t.enc → ∃ t : Th, t.Ok K K ∧ t.hi ≤ d ∧ E__law_thought (n + 1) [.lst (ys.map D.str), .lst (xs.map D.int), .int (a : Int), .int (d : Int)] S = .ok t.enc S :=
      fun t h1 h2 h3 => ⟨t, h1, h2, h3.trans (dn_pure t.refs)⟩
    have rest : (0 < (d : Int) → ¬ x % 8 = 7 ∧ ¬ 4 < x % 8) → ∃ t : Th, t.Ok K K ∧ t.hi ≤ d ∧ E__law_thought (n + 1) [.lst (ys.map D.str), .lst (xs.map D.int), .int (a : Int), .int (d : Int)] S = .ok t.enc S := fun hd => by
      by_cases w4 : x % 8 = 4
      · by_cases v2 : (x / 8) % 3 = 2
        · refine go .none trivial (Nat.zero_le _) ?_
          rw [x__law_thought]; unfold runDef
          by_cases d0 : 0 < (d : Int)
          · simp -implicitDefEqProofs (disch := omega) only [evSeq, evSet, evVar, evC, evRet, evRetN, evDrop, evNx, evIf, evBrk, evCnt, evAsg, evFor, evTrue, noX, gN, gT, gAll, q_bin, q_un, q_test, q_and, q_or, q_not, q_andV, q_orV, q_notV, q_ifE, q_args0, q_args1, q_tup, q_lst, q_newL, q_part0, q_part1, q_sl, q_call0, q_call, q_b, q_str1, q_isi, q_src, q_rng, opRng_1, opRng_2, Res.bind, resS, List.map_cons, List.map_nil, List.cons_append, List.nil_append, List.append_nil, List.replicate_succ, List.replicate_zero, List.getElem?_cons_zero, List.getElem?_cons_succ, List.set_cons_zero, List.set_cons_succ, wipeE, opMul_l, opMul_r, opMod_i, opDiv_i, opAdd_i, opSub_i, opNeg_i, opIx_t0, opIx_t1, opIx_t2, opIx_t3, opIx_l0, opMax_i, opMin_i, ofStr_inj, List.length_map, opLen_l, opLen_t, opLen_scr, opIx_l1, opIx_l2, q_L1, q_L0, String.reduceEq, decide_false, decide_true, Bool.not_true, Bool.not_false, opLt_i, opLe_i, opGt_i, opGe_i, opEq_i, opNe_i, opEq_s, opNe_s, opEq_b, opNe_b, dn_bl, dn_int, dn_str, dn_non, Src.items, if_true, if_false, Bool.false_eq_true, decide_eq_true_eq, eq_self, reduceIte, e1, d0, w4, v2, Int.reduceEq, Int.reduceLT, Th.enc]
          · simp -implicitDefEqProofs (disch := omega) only [evSeq, evSet, evVar, evC, evRet, evRetN, evDrop, evNx, evIf, evBrk, evCnt, evAsg, evFor, evTrue, noX, gN, gT, gAll, q_bin, q_un, q_test, q_and, q_or, q_not, q_andV, q_orV, q_notV, q_ifE, q_args0, q_args1, q_tup, q_lst, q_newL, q_part0, q_part1, q_sl, q_call0, q_call, q_b, q_str1, q_isi, q_src, q_rng, opRng_1, opRng_2, Res.bind, resS, List.map_cons, List.map_nil, List.cons_append, List.nil_append, List.append_nil, List.replicate_succ, List.replicate_zero, List.getElem?_cons_zero, List.getElem?_cons_succ, List.set_cons_zero, List.set_cons_succ, wipeE, opMul_l, opMul_r, opMod_i, opDiv_i, opAdd_i, opSub_i, opNeg_i, opIx_t0, opIx_t1, opIx_t2, opIx_t3, opIx_l0, opMax_i, opMin_i, ofStr_inj, List.length_map, opLen_l, opLen_t, opLen_scr, opIx_l1, opIx_l2, q_L1, q_L0, String.reduceEq, decide_false, decide_true, Bool.not_true, Bool.not_false, opLt_i, opLe_i, opGt_i, opGe_i, opEq_i, opNe_i, opEq_s, opNe_s, opEq_b, opNe_b, dn_bl, dn_int, dn_str, dn_non, Src.items, if_true, if_false, Bool.false_eq_true, decide_eq_true_eq, eq_self, reduceIte, e1, d0, w4, v2, Int.reduceEq, Int.reduceLT, Th.enc]
        · have v3 : opIx (.lst [.tup [.str "any"], .tup [.str "any"], .tup [.str "none"]]) (.int ((x / 8) % 3)) S = .ok Th.any.enc S := by
            by_cases v0 : (x / 8) % 3 = 0
            · rw [v0]; exact opIx_l0
            · have v1 : (x / 8) % 3 = 1 := by omega
              rw [v1]; exact opIx_l1
          refine go .any trivial (Nat.zero_le _) ?_
          rw [x__law_thought]; unfold runDef
          by_cases d0 : 0 < (d : Int)
          · simp -implicitDefEqProofs (disch := omega) only [evSeq, evSet, evVar, evC, evRet, evRetN, evDrop, evNx, evIf, evBrk, evCnt, evAsg, evFor, evTrue, noX, gN, gT, gAll, q_bin, q_un, q_test, q_and, q_or, q_not, q_andV, q_orV, q_notV, q_ifE, q_args0, q_args1, q_tup, q_lst, q_newL, q_part0, q_part1, q_sl, q_call0, q_call, q_b, q_str1, q_isi, q_src, q_rng, opRng_1, opRng_2, Res.bind, resS, List.map_cons, List.map_nil, List.cons_append, List.nil_append, List.append_nil, List.replicate_succ, List.replicate_zero, List.getElem?_cons_zero, List.getElem?_cons_succ, List.set_cons_zero, List.set_cons_succ, wipeE, opMul_l, opMul_r, opMod_i, opDiv_i, opAdd_i, opSub_i, opNeg_i, opIx_t0, opIx_t1, opIx_t2, opIx_t3, opIx_l0, opMax_i, opMin_i, ofStr_inj, List.length_map, opLen_l, opLen_t, opLen_scr, opIx_l1, opIx_l2, q_L1, q_L0, String.reduceEq, decide_false, decide_true, Bool.not_true, Bool.not_false, opLt_i, opLe_i, opGt_i, opGe_i, opEq_i, opNe_i, opEq_s, opNe_s, opEq_b, opNe_b, dn_bl, dn_int, dn_str, dn_non, Src.items, if_true, if_false, Bool.false_eq_true, decide_eq_true_eq, eq_self, reduceIte, e1, d0, w4, v3, Int.reduceEq, Int.reduceLT]
          · simp -implicitDefEqProofs (disch := omega) only [evSeq, evSet, evVar, evC, evRet, evRetN, evDrop, evNx, evIf, evBrk, evCnt, evAsg, evFor, evTrue, noX, gN, gT, gAll, q_bin, q_un, q_test, q_and, q_or, q_not, q_andV, q_orV, q_notV, q_ifE, q_args0, q_args1, q_tup, q_lst, q_newL, q_part0, q_part1, q_sl, q_call0, q_call, q_b, q_str1, q_isi, q_src, q_rng, opRng_1, opRng_2, Res.bind, resS, List.map_cons, List.map_nil, List.cons_append, List.nil_append, List.append_nil, List.replicate_succ, List.replicate_zero, List.getElem?_cons_zero, List.getElem?_cons_succ, List.set_cons_zero, List.set_cons_succ, wipeE, opMul_l, opMul_r, opMod_i, opDiv_i, opAdd_i, opSub_i, opNeg_i, opIx_t0, opIx_t1, opIx_t2, opIx_t3, opIx_l0, opMax_i, opMin_i, ofStr_inj, List.length_map, opLen_l, opLen_t, opLen_scr, opIx_l1, opIx_l2, q_L1, q_L0, String.reduceEq, decide_false, decide_true, Bool.not_true, Bool.not_false, opLt_i, opLe_i, opGt_i, opGe_i, opEq_i, opNe_i, opEq_s, opNe_s, opEq_b, opNe_b, dn_bl, dn_int, dn_str, dn_non, Src.items, if_true, if_false, Bool.false_eq_true, decide_eq_true_eq, eq_self, reduceIte, e1, d0, w4, v3, Int.reduceEq, Int.reduceLT]
      · refine go (.kind k) (hK _ k0) (Nat.zero_le _) ?_
        rw [x__law_thought]; unfold runDef
        by_cases d0 : 0 < (d : Int)
        · have h7 := (hd d0).1
          have h8 := (hd d0).2
          simp -implicitDefEqProofs (disch := omega) only [evSeq, evSet, evVar, evC, evRet, evRetN, evDrop, evNx, evIf, evBrk, evCnt, evAsg, evFor, evTrue, noX, gN, gT, gAll, q_bin, q_un, q_test, q_and, q_or, q_not, q_andV, q_orV, q_notV, q_ifE, q_args0, q_args1, q_tup, q_lst, q_newL, q_part0, q_part1, q_sl, q_call0, q_call, q_b, q_str1, q_isi, q_src, q_rng, opRng_1, opRng_2, Res.bind, resS, List.map_cons, List.map_nil, List.cons_append, List.nil_append, List.append_nil, List.replicate_succ, List.replicate_zero, List.getElem?_cons_zero, List.getElem?_cons_succ, List.set_cons_zero, List.set_cons_succ, wipeE, opMul_l, opMul_r, opMod_i, opDiv_i, opAdd_i, opSub_i, opNeg_i, opIx_t0, opIx_t1, opIx_t2, opIx_t3, opIx_l0, opMax_i, opMin_i, ofStr_inj, List.length_map, opLen_l, opLen_t, opLen_scr, opIx_l1, opIx_l2, q_L1, q_L0, String.reduceEq, decide_false, decide_true, Bool.not_true, Bool.not_false, opLt_i, opLe_i, opGt_i, opGe_i, opEq_i, opNe_i, opEq_s, opNe_s, opEq_b, opNe_b, dn_bl, dn_int, dn_str, dn_non, Src.items, if_true, if_false, Bool.false_eq_true, decide_eq_true_eq, eq_self, reduceIte, e1, e2, d0, w4, h7, h8, Th.enc]
        · simp -implicitDefEqProofs (disch := omega) only [evSeq, evSet, evVar, evC, evRet, evRetN, evDrop, evNx, evIf, evBrk, evCnt, evAsg, evFor, evTrue, noX, gN, gT, gAll, q_bin, q_un, q_test, q_and, q_or, q_not, q_andV, q_orV, q_notV, q_ifE, q_args0, q_args1, q_tup, q_lst, q_newL, q_part0, q_part1, q_sl, q_call0, q_call, q_b, q_str1, q_isi, q_src, q_rng, opRng_1, opRng_2, Res.bind, resS, List.map_cons, List.map_nil, List.cons_append, List.nil_append, List.append_nil, List.replicate_succ, List.replicate_zero, List.getElem?_cons_zero, List.getElem?_cons_succ, List.set_cons_zero, List.set_cons_succ, wipeE, opMul_l, opMul_r, opMod_i, opDiv_i, opAdd_i, opSub_i, opNeg_i, opIx_t0, opIx_t1, opIx_t2, opIx_t3, opIx_l0, opMax_i, opMin_i, ofStr_inj, List.length_map, opLen_l, opLen_t, opLen_scr, opIx_l1, opIx_l2, q_L1, q_L0, String.reduceEq, decide_false, decide_true, Bool.not_true, Bool.not_false, opLt_i, opLe_i, opGt_i, opGe_i, opEq_i, opNe_i, opEq_s, opNe_s, opEq_b, opNe_b, dn_bl, dn_int, dn_str, dn_non, Src.items, if_true, if_false, Bool.false_eq_true, decide_eq_true_eq, eq_self, reduceIte, e1, e2, d0, w4, Th.enc]
    by_cases d0 : 0 < (d : Int)
    · obtain ⟨d', rfl⟩ : ∃ d', d = d' + 1 := ⟨d - 1, by omega⟩
      have dd : ((d' + 1 : Nat) : Int) - 1 = (d' : Int) := by omega
      have pw : (a + 2) * 2 ^ (d' + 1) = (2 * a + 2 + 2) * 2 ^ d' := by rw [Nat.pow_succ]; rw [Nat.mul_comm (2 ^ d') 2, ← Nat.mul_assoc]; congr 1; omega
      obtain ⟨t1, o1, h1, f1⟩ := E_thoughtB (S := S) y0 y1 hK x0 n d' (2 * a + 1) (by omega) (Nat.le_trans (Nat.mul_le_mul_right _ (by omega)) (pw ▸ hx))
      obtain ⟨t2, o2, h2, f2⟩ := E_thoughtB (S := S) y0 y1 hK x0 n d' (2 * a + 2) (by omega) (pw ▸ hx)
      have a1 : ((2 * a + 1 : Nat) : Int) = 2 * (a : Int) + 1 := by omega
      have a2 : ((2 * a + 2 : Nat) : Int) = 2 * (a : Int) + 2 := by omega
      rw [a1] at f1
      rw [a2] at f2
      by_cases w7 : x % 8 = 7
      · refine go (.both t1 t2) ⟨o1, o2⟩ (Nat.le_trans (hi_both _ _) (by omega)) ?_
        rw [x__law_thought]; unfold runDef
        simp -implicitDefEqProofs (disch := omega) only [evSeq, evSet, evVar, evC, evRet, evRetN, evDrop, evNx, evIf, evBrk, evCnt, evAsg, evFor, evTrue, noX, gN, gT, gAll, q_bin, q_un, q_test, q_and, q_or, q_not, q_andV, q_orV, q_notV, q_ifE, q_args0, q_args1, q_tup, q_lst, q_newL, q_part0, q_part1, q_sl, q_call0, q_call, q_b, q_str1, q_isi, q_src, q_rng, opRng_1, opRng_2, Res.bind, resS, List.map_cons, List.map_nil, List.cons_append, List.nil_append, List.append_nil, List.replicate_succ, List.replicate_zero, List.getElem?_cons_zero, List.getElem?_cons_succ, List.set_cons_zero, List.set_cons_succ, wipeE, opMul_l, opMul_r, opMod_i, opDiv_i, opAdd_i, opSub_i, opNeg_i, opIx_t0, opIx_t1, opIx_t2, opIx_t3, opIx_l0, opMax_i, opMin_i, ofStr_inj, List.length_map, opLen_l, opLen_t, opLen_scr, opIx_l1, opIx_l2, q_L1, q_L0, String.reduceEq, decide_false, decide_true, Bool.not_true, Bool.not_false, opLt_i, opLe_i, opGt_i, opGe_i, opEq_i, opNe_i, opEq_s, opNe_s, opEq_b, opNe_b, dn_bl, dn_int, dn_str, dn_non, Src.items, if_true, if_false, Bool.false_eq_true, decide_eq_true_eq, eq_self, reduceIte, e1, d0, w7, dd, f1, f2, Th.enc]
      · by_cases w5 : 4 < x % 8
        · refine go (.some r t1) ⟨hK _ k1, o1⟩ (by simp only [Th.hi]; omega) ?_
          rw [x__law_thought]; unfold runDef
          simp -implicitDefEqProofs (disch := omega) only [evSeq, evSet, evVar, evC, evRet, evRetN, evDrop, evNx, evIf, evBrk, evCnt, evAsg, evFor, evTrue, noX, gN, gT, gAll, q_bin, q_un, q_test, q_and, q_or, q_not, q_andV, q_orV, q_notV, q_ifE, q_args0, q_args1, q_tup, q_lst, q_newL, q_part0, q_part1, q_sl, q_call0, q_call, q_b, q_str1, q_isi, q_src, q_rng, opRng_1, opRng_2, Res.bind, resS, List.map_cons, List.map_nil, List.cons_append, List.nil_append, List.append_nil, List.replicate_succ, List.replicate_zero, List.getElem?_cons_zero, List.getElem?_cons_succ, List.set_cons_zero, List.set_cons_succ, wipeE, opMul_l, opMul_r, opMod_i, opDiv_i, opAdd_i, opSub_i, opNeg_i, opIx_t0, opIx_t1, opIx_t2, opIx_t3, opIx_l0, opMax_i, opMin_i, ofStr_inj, List.length_map, opLen_l, opLen_t, opLen_scr, opIx_l1, opIx_l2, q_L1, q_L0, String.reduceEq, decide_false, decide_true, Bool.not_true, Bool.not_false, opLt_i, opLe_i, opGt_i, opGe_i, opEq_i, opNe_i, opEq_s, opNe_s, opEq_b, opNe_b, dn_bl, dn_int, dn_str, dn_non, Src.items, if_true, if_false, Bool.false_eq_true, decide_eq_true_eq, eq_self, reduceIte, e1, d0, w7, w5, dd, f1, e3, Th.enc]
        · exact rest fun _ => ⟨w7, w5⟩
    · exact rest fun h => absurd h d0
end Kd

namespace Kd
open PySem PySem.Spec L2 Ev
theorem hi_both1 (k : Str) (t : Th) : (Th.both (.kind k) t).hi ≤ t.hi + 1 := by
  have := hi_both (.kind k) t
  have e : (Th.kind k).hi = 0 := rfl
  omega
theorem E_deeperB {K : Str → Prop} {ys : List Str} {x : Int} {t : Th} {S : Store} (y0 : 3 ≤ ys.length) (y1 : ys.length ≤ 6) (hK : ∀ y ∈ ys, K y) (ht : t.Ok K K) :
    ∃ t' : Th, t'.Ok K K ∧ t'.hi ≤ t.hi + 4 ∧ E__law_deeper [.lst (ys.map D.str), t.enc, .int x] S = .ok t'.enc S := by
  have u0 := Int.emod_nonneg x (show (3 : Int) ≠ 0 by decide)
  have u1 := Int.emod_lt_of_pos x (show (0 : Int) < 3 by decide)
  have m0 := Int.emod_nonneg (ys.length : Int) (show (2 : Int) ≠ 0 by decide)
  have m1 := Int.emod_lt_of_pos (ys.length : Int) (show (0 : Int) < 2 by decide)
  obtain ⟨ρ', S', f, t', a1, a2, rfl, d3, rfl⟩ := forL_inv (s := Src.frz (rangeD 0 (2 + x % 3).toNat)) (g := gN 3) (body := B__law_deeper_1) (fun k : Nat => D.int (k : Int))
    (fun pre ρ S' => ∃ t' : Th, t'.Ok K K ∧ t'.hi ≤ t.hi + pre.length ∧ S' = S ∧ ∃ d3, ρ = [some (.lst (ys.map D.str)), some t'.enc, some (.int x), d3]) (List.range (2 + x % 3).toNat)
    (fun pre k post ρ S' e ⟨t', a1, a2, hS, d3, hρ⟩ => by
      subst hS; subst hρ
      have hk : k ≤ 4 := by
        have : k ∈ List.range (2 + x % 3).toNat := by rw [← e]; simp
        have := List.mem_range.mp this
        omega
      have r0 := Int.emod_nonneg (x / 11) (show ((ys.length : Int)) ≠ 0 by omega)
      have r1 := Int.emod_lt_of_pos (x / 11) (show (0 : Int) < (ys.length : Int) by omega)
      have q0 := Int.emod_nonneg (x / (3 + 2 * (k : Int))) (show (2 + (ys.length : Int) % 2) ≠ 0 by omega)
      have q1 := Int.emod_lt_of_pos (x / (3 + 2 * (k : Int))) (show (0 : Int) < 2 + (ys.length : Int) % 2 by omega)
      obtain ⟨kk, k0, i2⟩ := pick_at (xs := ys) (i := (x / 11) % (ys.length : Int)) r0 r1
      obtain ⟨r, k1, i3⟩ := pick_at (xs := ys) (i := (x / (3 + 2 * (k : Int))) % (2 + (ys.length : Int) % 2)) q0 (by omega)
      have e2 : opIx (.lst (ys.map D.str)) (.int ((x / 11) % (ys.length : Int))) S' = .ok (.str kk) S' := opIx_l r0 (map_at i2)
      have e3 : opIx (.lst (ys.map D.str)) (.int ((x / (3 + 2 * (k : Int))) % (2 + (ys.length : Int) % 2))) S' = .ok (.str r) S' := opIx_l q0 (map_at i3)
      by_cases w : x / (7 + (k : Int)) % 4 = 0
      · refine ⟨trivial, _, rfl, [some (.lst (ys.map D.str)), some (Th.both (.kind kk) t').enc, some (.int x), some (.int (k : Int))], S', .inl ?_, Th.both (.kind kk) t', ⟨hK _ k0, a1⟩, ?_, rfl, _, rfl⟩
        · unfold B__law_deeper_1
          simp -implicitDefEqProofs (disch := omega) only [evSeq, evSet, evVar, evC, evRet, evRetN, evDrop, evNx, evIf, evBrk, evCnt, evAsg, evFor, evTrue, noX, gN, gT, gAll, q_bin, q_un, q_test, q_and, q_or, q_not, q_andV, q_orV, q_notV, q_ifE, q_args0, q_args1, q_tup, q_lst, q_newL, q_part0, q_part1, q_sl, q_call0, q_call, q_b, q_str1, q_isi, q_src, q_rng, opRng_1, opRng_2, Res.bind, resS, List.map_cons, List.map_nil, List.cons_append, List.nil_append, List.append_nil, List.replicate_succ, List.replicate_zero, List.getElem?_cons_zero, List.getElem?_cons_succ, List.set_cons_zero, List.set_cons_succ, wipeE, opMul_l, opMul_r, opMod_i, opDiv_i, opAdd_i, opSub_i, opNeg_i, opIx_t0, opIx_t1, opIx_t2, opIx_t3, opIx_l0, opMax_i, opMin_i, ofStr_inj, List.length_map, opLen_l, opLen_t, opLen_scr, opIx_l1, opIx_l2, q_L1, q_L0, String.reduceEq, decide_false, decide_true, Bool.not_true, Bool.not_false, opLt_i, opLe_i, opGt_i, opGe_i, opEq_i, opNe_i, opEq_s, opNe_s, opEq_b, opNe_b, dn_bl, dn_int, dn_str, dn_non, Src.items, if_true, if_false, Bool.false_eq_true, decide_eq_true_eq, eq_self, reduceIte, w, e2, Th.enc]
        · have := hi_both1 kk t'
          simp only [List.length_append, List.length_singleton]
          omega
      · refine ⟨trivial, _, rfl, [some (.lst (ys.map D.str)), some (Th.some r t').enc, some (.int x), some (.int (k : Int))], S', .inl ?_, Th.some r t', ⟨hK _ k1, a1⟩, ?_, rfl, _, rfl⟩
        · unfold B__law_deeper_1
          simp -implicitDefEqProofs (disch := omega) only [evSeq, evSet, evVar, evC, evRet, evRetN, evDrop, evNx, evIf, evBrk, evCnt, evAsg, evFor, evTrue, noX, gN, gT, gAll, q_bin, q_un, q_test, q_and, q_or, q_not, q_andV, q_orV, q_notV, q_ifE, q_args0, q_args1, q_tup, q_lst, q_newL, q_part0, q_part1, q_sl, q_call0, q_call, q_b, q_str1, q_isi, q_src, q_rng, opRng_1, opRng_2, Res.bind, resS, List.map_cons, List.map_nil, List.cons_append, List.nil_append, List.append_nil, List.replicate_succ, List.replicate_zero, List.getElem?_cons_zero, List.getElem?_cons_succ, List.set_cons_zero, List.set_cons_succ, wipeE, opMul_l, opMul_r, opMod_i, opDiv_i, opAdd_i, opSub_i, opNeg_i, opIx_t0, opIx_t1, opIx_t2, opIx_t3, opIx_l0, opMax_i, opMin_i, ofStr_inj, List.length_map, opLen_l, opLen_t, opLen_scr, opIx_l1, opIx_l2, q_L1, q_L0, String.reduceEq, decide_false, decide_true, Bool.not_true, Bool.not_false, opLt_i, opLe_i, opGt_i, opGe_i, opEq_i, opNe_i, opEq_s, opNe_s, opEq_b, opNe_b, dn_bl, dn_int, dn_str, dn_non, Src.items, if_true, if_false, Bool.false_eq_true, decide_eq_true_eq, eq_self, reduceIte, w, e3, Th.enc]
        · simp only [List.length_append, List.length_singleton, Th.hi]
          omega) (fun _ _ _ => trivial) (List.range (2 + x % 3).toNat) [] [some (.lst (ys.map D.str)), some t.enc, some (.int x), none] S rfl ⟨t, ht, by simp, rfl, _, rfl⟩
  rw [← rangeD_map] at f
  rw [List.length_range] at a2
  refine ⟨t', a1, by omega, ?_⟩
  rw [x__law_deeper]; unfold runDef
  simp -implicitDefEqProofs (disch := omega) only [evSeq, evSet, evVar, evC, evRet, evRetN, evDrop, evNx, evIf, evBrk, evCnt, evAsg, evFor, evTrue, noX, gN, gT, gAll, q_bin, q_un, q_test, q_and, q_or, q_not, q_andV, q_orV, q_notV, q_ifE, q_args0, q_args1, q_tup, q_lst, q_newL, q_part0, q_part1, q_sl, q_call0, q_call, q_b, q_str1, q_isi, q_src, q_rng, opRng_1, opRng_2, Res.bind, resS, List.map_cons, List.map_nil, List.cons_append, List.nil_append, List.append_nil, List.replicate_succ, List.replicate_zero, List.getElem?_cons_zero, List.getElem?_cons_succ, List.set_cons_zero, List.set_cons_succ, wipeE, opMul_l, opMul_r, opMod_i, opDiv_i, opAdd_i, opSub_i, opNeg_i, opIx_t0, opIx_t1, opIx_t2, opIx_t3, opIx_l0, opMax_i, opMin_i, ofStr_inj, List.length_map, opLen_l, opLen_t, opLen_scr, opIx_l1, opIx_l2, q_L1, q_L0, String.reduceEq, decide_false, decide_true, Bool.not_true, Bool.not_false, opLt_i, opLe_i, opGt_i, opGe_i, opEq_i, opNe_i, opEq_s, opNe_s, opEq_b, opNe_b, dn_bl, dn_int, dn_str, dn_non, Src.items, if_true, if_false, Bool.false_eq_true, decide_eq_true_eq, eq_self, reduceIte, f]
  exact dn_pure t'.refs
theorem E_sayingB {K : Str → Prop} {ys : List Str} {c : Int} {d : Nat} {S : Store} (y0 : 3 ≤ ys.length) (y1 : ys.length ≤ 6) (hK : ∀ y ∈ ys, K y) (hd : d ≤ 2) :
    ∃ y : Sy, y.Ok (fun t => t.Ok K K ∧ t.hi ≤ 6) K K ∧ E__law_saying [.lst (ys.map D.str), .int c, .int (d : Int)] S = .ok y.enc S := by
  have m0 := Int.emod_nonneg (ys.length : Int) (show (2 : Int) ≠ 0 by decide)
  have m1 := Int.emod_lt_of_pos (ys.length : Int) (show (0 : Int) < 2 by decide)
  obtain ⟨xs, x1, _, x3⟩ := E_stream (c := c) (m := 17) (S := S) (by decide)
  obtain ⟨u, _, i14⟩ := pick_at (xs := xs) (i := 14) (by decide) (by omega)
  obtain ⟨v, _, i15⟩ := pick_at (xs := xs) (i := 15) (by decide) (by omega)
  obtain ⟨w, _, i16⟩ := pick_at (xs := xs) (i := 16) (by decide) (by omega)
  have e14 : opIx (.lst (xs.map D.int)) (.int 14) S = .ok (.int u) S := opIx_l (by decide) (map_at i14)
  have e15 : opIx (.lst (xs.map D.int)) (.int 15) S = .ok (.int v) S := opIx_l (by decide) (map_at i15)
  have e16 : opIx (.lst (xs.map D.int)) (.int 16) S = .ok (.int w) S := opIx_l (by decide) (map_at i16)
  have pw : (0 + 2) * 2 ^ d ≤ 8 := by
    have := Nat.pow_le_pow_right (show 0 < 2 by decide) hd
    omega
  have c1 : cutL (xs.map D.int) none (some 7) = (xs.take 7).map D.int := by rw [cutL_map, cutL_to (by decide)]; rfl
  have c2 : cutL (xs.map D.int) (some 7) (some 14) = ((xs.drop 7).take 7).map D.int := by rw [cutL_map, cutL_mid (by decide) (by decide) (by show 7 ≤ _; omega) (by show 14 ≤ _; omega)]; rfl
  obtain ⟨t1, o1, h1, f1⟩ := E_thoughtB (S := S) (xs := xs.take 7) y0 y1 hK (by simp; omega) 20 d 0 (by omega) (by simp; omega)
  obtain ⟨t2, o2, h2, f2⟩ := E_thoughtB (S := S) (xs := (xs.drop 7).take 7) y0 y1 hK (by simp; omega) 20 d 0 (by omega) (by simp; omega)
  obtain ⟨t3, o3, h3, f3⟩ := E_deeperB (S := S) (x := v / 24) y0 y1 hK o1
  obtain ⟨t4, o4, h4, f4⟩ := E_deeperB (S := S) (x := w / 24) y0 y1 hK o2
  have f1 : E__law_thought 20 [.lst (ys.map D.str), .lst ((xs.take 7).map D.int), .int 0, .int (d : Int)] S = .ok t1.enc S := f1
  have f2 : E__law_thought 20 [.lst (ys.map D.str), .lst (((xs.drop 7).take 7).map D.int), .int 0, .int (d : Int)] S = .ok t2.enc S := f2
  have nm : ∀ z : Int, ∃ r, r ∈ ys ∧ opIx (.lst (ys.map D.str)) (.int (z % (2 + (ys.length : Int) % 2))) S = .ok (.str r) S := fun z => by
    have q0 := Int.emod_nonneg z (show (2 + (ys.length : Int) % 2) ≠ 0 by omega)
    have q1 := Int.emod_lt_of_pos z (show (0 : Int) < 2 + (ys.length : Int) % 2 by omega)
    obtain ⟨r, k1, i3⟩ := pick_at (xs := ys) q0 (show z % (2 + (ys.length : Int) % 2) < ys.length by omega)
    exact ⟨r, k1, opIx_l q0 (map_at i3)⟩
  obtain ⟨r1, n1, g1⟩ := nm (u / 16)
  obtain ⟨r2, n2, g2⟩ := nm v
  obtain ⟨r3, n3, g3⟩ := nm w
  have b0 := Int.emod_nonneg u (show (16 : Int) ≠ 0 by decide)
  have b1 := Int.emod_lt_of_pos u (show (0 : Int) < 16 by decide)
  obtain ⟨one, p1, s1⟩ : ∃ one : Th, (one.Ok K K ∧ one.hi ≤ 6) ∧ one = if v / 3 % 8 = 0 then t3 else t1 := by
    by_cases k : v / 3 % 8 = 0
    · exact ⟨t3, ⟨o3, by omega⟩, by rw [if_pos k]⟩
    · exact ⟨t1, ⟨o1, by omega⟩, by rw [if_neg k]⟩
  obtain ⟨oth, p2, s2⟩ : ∃ one : Th, (one.Ok K K ∧ one.hi ≤ 6) ∧ one = if w / 3 % 8 = 0 then t4 else t2 := by
    by_cases k : w / 3 % 8 = 0
    · exact ⟨t4, ⟨o4, by omega⟩, by rw [if_pos k]⟩
    · exact ⟨t2, ⟨o2, by omega⟩, by rw [if_neg k]⟩
  have q1 : ∀ ρ : En, ρ.length = 11 → (ρ[0]? = some (some (.lst (ys.map D.str)))) → ρ[3]? = some (some (.lst (xs.map D.int))) → ρ[4]? = some (some t1.enc) →
      evIf (evTest (evBin opEq (evBin opMod (evBin opDiv (evBin opIx (evVar 3) (evC (.int 15))) (evC (.int 3))) (evC (.int 8))) (evC (.int 0)))) (evSet 4 (evCall0 E__law_deeper [evVar 0, evVar 4, evBin opDiv (evBin opIx (evVar 3) (evC (.int 15))) (evC (.int 24))] [])) evNx ρ S = .nx (ρ.set 4 (some one.enc)) S := fun ρ hl h0 h3 h4 => by
    by_cases k : v / 3 % 8 = 0
    · rw [if_pos k] at s1
      simp -implicitDefEqProofs (disch := omega) only [evSeq, evSet, evVar, evC, evRet, evRetN, evDrop, evNx, evIf, evBrk, evCnt, evAsg, evFor, evTrue, noX, gN, gT, gAll, q_bin, q_un, q_test, q_and, q_or, q_not, q_andV, q_orV, q_notV, q_ifE, q_args0, q_args1, q_tup, q_lst, q_newL, q_part0, q_part1, q_sl, q_call0, q_call, q_b, q_str1, q_isi, q_src, q_rng, opRng_1, opRng_2, Res.bind, resS, List.map_cons, List.map_nil, List.cons_append, List.nil_append, List.append_nil, List.replicate_succ, List.replicate_zero, List.getElem?_cons_zero, List.getElem?_cons_succ, List.set_cons_zero, List.set_cons_succ, wipeE, opMul_l, opMul_r, opMod_i, opDiv_i, opAdd_i, opSub_i, opNeg_i, opIx_t0, opIx_t1, opIx_t2, opIx_t3, opIx_l0, opMax_i, opMin_i, ofStr_inj, List.length_map, opLen_l, opLen_t, opLen_scr, opIx_l1, opIx_l2, q_L1, q_L0, String.reduceEq, decide_false, decide_true, Bool.not_true, Bool.not_false, opLt_i, opLe_i, opGt_i, opGe_i, opEq_i, opNe_i, opEq_s, opNe_s, opEq_b, opNe_b, dn_bl, dn_int, dn_str, dn_non, Src.items, if_true, if_false, Bool.false_eq_true, decide_eq_true_eq, eq_self, reduceIte, h0, h3, h4, e15, k, f3, s1]
    · rw [if_neg k] at s1
      simp -implicitDefEqProofs (disch := omega) only [evSeq, evSet, evVar, evC, evRet, evRetN, evDrop, evNx, evIf, evBrk, evCnt, evAsg, evFor, evTrue, noX, gN, gT, gAll, q_bin, q_un, q_test, q_and, q_or, q_not, q_andV, q_orV, q_notV, q_ifE, q_args0, q_args1, q_tup, q_lst, q_newL, q_part0, q_part1, q_sl, q_call0, q_call, q_b, q_str1, q_isi, q_src, q_rng, opRng_1, opRng_2, Res.bind, resS, List.map_cons, List.map_nil, List.cons_append, List.nil_append, List.append_nil, List.replicate_succ, List.replicate_zero, List.getElem?_cons_zero, List.getElem?_cons_succ, List.set_cons_zero, List.set_cons_succ, wipeE, opMul_l, opMul_r, opMod_i, opDiv_i, opAdd_i, opSub_i, opNeg_i, opIx_t0, opIx_t1, opIx_t2, opIx_t3, opIx_l0, opMax_i, opMin_i, ofStr_inj, List.length_map, opLen_l, opLen_t, opLen_scr, opIx_l1, opIx_l2, q_L1, q_L0, String.reduceEq, decide_false, decide_true, Bool.not_true, Bool.not_false, opLt_i, opLe_i, opGt_i, opGe_i, opEq_i, opNe_i, opEq_s, opNe_s, opEq_b, opNe_b, dn_bl, dn_int, dn_str, dn_non, Src.items, if_true, if_false, Bool.false_eq_true, decide_eq_true_eq, eq_self, reduceIte, h0, h3, h4, e15, k, s1]
      congr 1
      apply List.ext_getElem?
      intro i
      by_cases hi : 4 = i
      · subst hi; rw [List.getElem?_set_self (by omega), h4]
      · rw [List.getElem?_set_ne hi]
  have q2 : ∀ ρ : En, ρ.length = 11 → (ρ[0]? = some (some (.lst (ys.map D.str)))) → ρ[3]? = some (some (.lst (xs.map D.int))) → ρ[5]? = some (some t2.enc) →
      evIf (evTest (evBin opEq (evBin opMod (evBin opDiv (evBin opIx (evVar 3) (evC (.int 16))) (evC (.int 3))) (evC (.int 8))) (evC (.int 0)))) (evSet 5 (evCall0 E__law_deeper [evVar 0, evVar 5, evBin opDiv (evBin opIx (evVar 3) (evC (.int 16))) (evC (.int 24))] [])) evNx ρ S = .nx (ρ.set 5 (some oth.enc)) S := fun ρ hl h0 h3 h4 => by
    by_cases k : w / 3 % 8 = 0
    · rw [if_pos k] at s2
      simp -implicitDefEqProofs (disch := omega) only [evSeq, evSet, evVar, evC, evRet, evRetN, evDrop, evNx, evIf, evBrk, evCnt, evAsg, evFor, evTrue, noX, gN, gT, gAll, q_bin, q_un, q_test, q_and, q_or, q_not, q_andV, q_orV, q_notV, q_ifE, q_args0, q_args1, q_tup, q_lst, q_newL, q_part0, q_part1, q_sl, q_call0, q_call, q_b, q_str1, q_isi, q_src, q_rng, opRng_1, opRng_2, Res.bind, resS, List.map_cons, List.map_nil, List.cons_append, List.nil_append, List.append_nil, List.replicate_succ, List.replicate_zero, List.getElem?_cons_zero, List.getElem?_cons_succ, List.set_cons_zero, List.set_cons_succ, wipeE, opMul_l, opMul_r, opMod_i, opDiv_i, opAdd_i, opSub_i, opNeg_i, opIx_t0, opIx_t1, opIx_t2, opIx_t3, opIx_l0, opMax_i, opMin_i, ofStr_inj, List.length_map, opLen_l, opLen_t, opLen_scr, opIx_l1, opIx_l2, q_L1, q_L0, String.reduceEq, decide_false, decide_true, Bool.not_true, Bool.not_false, opLt_i, opLe_i, opGt_i, opGe_i, opEq_i, opNe_i, opEq_s, opNe_s, opEq_b, opNe_b, dn_bl, dn_int, dn_str, dn_non, Src.items, if_true, if_false, Bool.false_eq_true, decide_eq_true_eq, eq_self, reduceIte, h0, h3, h4, e16, k, f4, s2]
    · rw [if_neg k] at s2
      simp -implicitDefEqProofs (disch := omega) only [evSeq, evSet, evVar, evC, evRet, evRetN, evDrop, evNx, evIf, evBrk, evCnt, evAsg, evFor, evTrue, noX, gN, gT, gAll, q_bin, q_un, q_test, q_and, q_or, q_not, q_andV, q_orV, q_notV, q_ifE, q_args0, q_args1, q_tup, q_lst, q_newL, q_part0, q_part1, q_sl, q_call0, q_call, q_b, q_str1, q_isi, q_src, q_rng, opRng_1, opRng_2, Res.bind, resS, List.map_cons, List.map_nil, List.cons_append, List.nil_append, List.append_nil, List.replicate_succ, List.replicate_zero, List.getElem?_cons_zero, List.getElem?_cons_succ, List.set_cons_zero, List.set_cons_succ, wipeE, opMul_l, opMul_r, opMod_i, opDiv_i, opAdd_i, opSub_i, opNeg_i, opIx_t0, opIx_t1, opIx_t2, opIx_t3, opIx_l0, opMax_i, opMin_i, ofStr_inj, List.length_map, opLen_l, opLen_t, opLen_scr, opIx_l1, opIx_l2, q_L1, q_L0, String.reduceEq, decide_false, decide_true, Bool.not_true, Bool.not_false, opLt_i, opLe_i, opGt_i, opGe_i, opEq_i, opNe_i, opEq_s, opNe_s, opEq_b, opNe_b, dn_bl, dn_int, dn_str, dn_non, Src.items, if_true, if_false, Bool.false_eq_true, decide_eq_true_eq, eq_self, reduceIte, h0, h3, h4, e16, k, s2]
      congr 1
      apply List.ext_getElem?
      intro i
      by_cases hi : 5 = i
      · subst hi; rw [List.getElem?_set_self (by omega), h4]
      · rw [List.getElem?_set_ne hi]
  have go : ∀ y : Sy, y.Ok (fun t => t.Ok K K ∧ t.hi ≤ 6) K K → E__law_saying [.lst (ys.map D.str), .int c, .int (d : Int)] S = fin S S y.enc → ∃ y : Sy, y.Ok (fun t => t.Ok K K ∧ t.hi ≤ 6) K K ∧ E__law_saying [.lst (ys.map D.str), .int c, .int (d : Int)] S = .ok y.enc S :=
    fun y h1 h2 => ⟨y, h1, h2.trans (dn_pure y.refs)⟩
  have x3 : E__law_stream [.int c, .int 17] S = .ok (.lst (xs.map D.int)) S := x3
  -- what is ahead of the choice of the sort
  have run : ∀ y : Sy, (evSeq (evIf (evTest (evBin opGt (evVar 6) (evC (.int 13)))) (evRet (evTup [evC (.str "link"), evVar 8, evVar 9, evVar 10])) evNx)
    (evSeq (evIf (evTest (evBin opGt (evVar 6) (evC (.int 11)))) (evRet (evTup [evC (.str "thing"), evVar 8, evVar 4])) evNx)
    (evSeq (evIf (evTest (evBin opGt (evVar 6) (evC (.int 8)))) (evRet (evBin opIx (evLst [evTup [evC (.str "tie"), evVar 8, evVar 9], evTup [evC (.str "chain"), evVar 8, evVar 9, evVar 10], evTup [evC (.str "runs"), evVar 8]]) (evBin opSub (evVar 6) (evC (.int 9))))) evNx)
    (evSeq (evIf (evTest (evBin opEq (evVar 6) (evC (.int 8)))) (evRet (evTup [evC (.str "same"), evVar 4, evVar 5])) evNx)
    (evSeq (evIf (evTest (evBin opGt (evVar 6) (evC (.int 5)))) (evRet (evTup [evC (.str "no"), evVar 4, evVar 5])) evNx)
    (evRet (evTup [evC (.str "every"), evVar 4, evVar 5])))))))
      [some (.lst (ys.map D.str)), some (.int c), some (.int (d : Int)), some (.lst (xs.map D.int)), some one.enc, some oth.enc, some (.int (u % 16)), some (.int (2 + (ys.length : Int) % 2)), some (.str r1), some (.str r2), some (.str r3)] S = .rt y.enc S →
      E__law_saying [.lst (ys.map D.str), .int c, .int (d : Int)] S = fin S S y.enc := fun y hy => by
    rw [x__law_saying]; unfold runDef
    simp only [List.map_cons, List.map_nil, List.replicate_succ, List.replicate_zero, List.cons_append, List.nil_append]
    rw [seq_go (set_go (show evCall0 E__law_stream [evVar 1, evC (.int 17)] [] _ S = .ok (.lst (xs.map D.int)) S by simp -implicitDefEqProofs (disch := omega) only [evSeq, evSet, evVar, evC, evRet, evRetN, evDrop, evNx, evIf, evBrk, evCnt, evAsg, evFor, evTrue, noX, gN, gT, gAll, q_bin, q_un, q_test, q_and, q_or, q_not, q_andV, q_orV, q_notV, q_ifE, q_args0, q_args1, q_tup, q_lst, q_newL, q_part0, q_part1, q_sl, q_call0, q_call, q_b, q_str1, q_isi, q_src, q_rng, opRng_1, opRng_2, Res.bind, resS, List.map_cons, List.map_nil, List.cons_append, List.nil_append, List.append_nil, List.replicate_succ, List.replicate_zero, List.getElem?_cons_zero, List.getElem?_cons_succ, List.set_cons_zero, List.set_cons_succ, wipeE, opMul_l, opMul_r, opMod_i, opDiv_i, opAdd_i, opSub_i, opNeg_i, opIx_t0, opIx_t1, opIx_t2, opIx_t3, opIx_l0, opMax_i, opMin_i, ofStr_inj, List.length_map, opLen_l, opLen_t, opLen_scr, opIx_l1, opIx_l2, q_L1, q_L0, String.reduceEq, decide_false, decide_true, Bool.not_true, Bool.not_false, opLt_i, opLe_i, opGt_i, opGe_i, opEq_i, opNe_i, opEq_s, opNe_s, opEq_b, opNe_b, dn_bl, dn_int, dn_str, dn_non, Src.items, if_true, if_false, Bool.false_eq_true, decide_eq_true_eq, eq_self, reduceIte, x3])) rfl]
    rw [seq_go (set_go (show evCall0 (E__law_thought 20) _ [] _ S = .ok t1.enc S by simp -implicitDefEqProofs (disch := omega) only [evSeq, evSet, evVar, evC, evRet, evRetN, evDrop, evNx, evIf, evBrk, evCnt, evAsg, evFor, evTrue, noX, gN, gT, gAll, q_bin, q_un, q_test, q_and, q_or, q_not, q_andV, q_orV, q_notV, q_ifE, q_args0, q_args1, q_tup, q_lst, q_newL, q_part0, q_part1, q_sl, q_call0, q_call, q_b, q_str1, q_isi, q_src, q_rng, opRng_1, opRng_2, Res.bind, resS, List.map_cons, List.map_nil, List.cons_append, List.nil_append, List.append_nil, List.replicate_succ, List.replicate_zero, List.getElem?_cons_zero, List.getElem?_cons_succ, List.set_cons_zero, List.set_cons_succ, wipeE, opMul_l, opMul_r, opMod_i, opDiv_i, opAdd_i, opSub_i, opNeg_i, opIx_t0, opIx_t1, opIx_t2, opIx_t3, opIx_l0, opMax_i, opMin_i, ofStr_inj, List.length_map, opLen_l, opLen_t, opLen_scr, opIx_l1, opIx_l2, q_L1, q_L0, String.reduceEq, decide_false, decide_true, Bool.not_true, Bool.not_false, opLt_i, opLe_i, opGt_i, opGe_i, opEq_i, opNe_i, opEq_s, opNe_s, opEq_b, opNe_b, dn_bl, dn_int, dn_str, dn_non, Src.items, if_true, if_false, Bool.false_eq_true, decide_eq_true_eq, eq_self, reduceIte, opSl_l, c1, f1])) rfl]
    rw [seq_go (set_go (show evCall0 (E__law_thought 20) _ [] _ S = .ok t2.enc S by simp -implicitDefEqProofs (disch := omega) only [evSeq, evSet, evVar, evC, evRet, evRetN, evDrop, evNx, evIf, evBrk, evCnt, evAsg, evFor, evTrue, noX, gN, gT, gAll, q_bin, q_un, q_test, q_and, q_or, q_not, q_andV, q_orV, q_notV, q_ifE, q_args0, q_args1, q_tup, q_lst, q_newL, q_part0, q_part1, q_sl, q_call0, q_call, q_b, q_str1, q_isi, q_src, q_rng, opRng_1, opRng_2, Res.bind, resS, List.map_cons, List.map_nil, List.cons_append, List.nil_append, List.append_nil, List.replicate_succ, List.replicate_zero, List.getElem?_cons_zero, List.getElem?_cons_succ, List.set_cons_zero, List.set_cons_succ, wipeE, opMul_l, opMul_r, opMod_i, opDiv_i, opAdd_i, opSub_i, opNeg_i, opIx_t0, opIx_t1, opIx_t2, opIx_t3, opIx_l0, opMax_i, opMin_i, ofStr_inj, List.length_map, opLen_l, opLen_t, opLen_scr, opIx_l1, opIx_l2, q_L1, q_L0, String.reduceEq, decide_false, decide_true, Bool.not_true, Bool.not_false, opLt_i, opLe_i, opGt_i, opGe_i, opEq_i, opNe_i, opEq_s, opNe_s, opEq_b, opNe_b, dn_bl, dn_int, dn_str, dn_non, Src.items, if_true, if_false, Bool.false_eq_true, decide_eq_true_eq, eq_self, reduceIte, opSl_l, c2, f2])) rfl]
    rw [seq_go (q1 _ rfl rfl rfl rfl) rfl]
    rw [seq_go (q2 _ rfl rfl rfl rfl) rfl]
    rw [seq_go (set_go (show evBin opMod _ _ _ S = .ok (.int (u % 16)) S by simp -implicitDefEqProofs (disch := omega) only [evSeq, evSet, evVar, evC, evRet, evRetN, evDrop, evNx, evIf, evBrk, evCnt, evAsg, evFor, evTrue, noX, gN, gT, gAll, q_bin, q_un, q_test, q_and, q_or, q_not, q_andV, q_orV, q_notV, q_ifE, q_args0, q_args1, q_tup, q_lst, q_newL, q_part0, q_part1, q_sl, q_call0, q_call, q_b, q_str1, q_isi, q_src, q_rng, opRng_1, opRng_2, Res.bind, resS, List.map_cons, List.map_nil, List.cons_append, List.nil_append, List.append_nil, List.replicate_succ, List.replicate_zero, List.getElem?_cons_zero, List.getElem?_cons_succ, List.set_cons_zero, List.set_cons_succ, wipeE, opMul_l, opMul_r, opMod_i, opDiv_i, opAdd_i, opSub_i, opNeg_i, opIx_t0, opIx_t1, opIx_t2, opIx_t3, opIx_l0, opMax_i, opMin_i, ofStr_inj, List.length_map, opLen_l, opLen_t, opLen_scr, opIx_l1, opIx_l2, q_L1, q_L0, String.reduceEq, decide_false, decide_true, Bool.not_true, Bool.not_false, opLt_i, opLe_i, opGt_i, opGe_i, opEq_i, opNe_i, opEq_s, opNe_s, opEq_b, opNe_b, dn_bl, dn_int, dn_str, dn_non, Src.items, if_true, if_false, Bool.false_eq_true, decide_eq_true_eq, eq_self, reduceIte, e14])) rfl]
    rw [seq_go (set_go (show evBin opAdd _ _ _ S = .ok (.int (2 + (ys.length : Int) % 2)) S by simp -implicitDefEqProofs (disch := omega) only [evSeq, evSet, evVar, evC, evRet, evRetN, evDrop, evNx, evIf, evBrk, evCnt, evAsg, evFor, evTrue, noX, gN, gT, gAll, q_bin, q_un, q_test, q_and, q_or, q_not, q_andV, q_orV, q_notV, q_ifE, q_args0, q_args1, q_tup, q_lst, q_newL, q_part0, q_part1, q_sl, q_call0, q_call, q_b, q_str1, q_isi, q_src, q_rng, opRng_1, opRng_2, Res.bind, resS, List.map_cons, List.map_nil, List.cons_append, List.nil_append, List.append_nil, List.replicate_succ, List.replicate_zero, List.getElem?_cons_zero, List.getElem?_cons_succ, List.set_cons_zero, List.set_cons_succ, wipeE, opMul_l, opMul_r, opMod_i, opDiv_i, opAdd_i, opSub_i, opNeg_i, opIx_t0, opIx_t1, opIx_t2, opIx_t3, opIx_l0, opMax_i, opMin_i, ofStr_inj, List.length_map, opLen_l, opLen_t, opLen_scr, opIx_l1, opIx_l2, q_L1, q_L0, String.reduceEq, decide_false, decide_true, Bool.not_true, Bool.not_false, opLt_i, opLe_i, opGt_i, opGe_i, opEq_i, opNe_i, opEq_s, opNe_s, opEq_b, opNe_b, dn_bl, dn_int, dn_str, dn_non, Src.items, if_true, if_false, Bool.false_eq_true, decide_eq_true_eq, eq_self, reduceIte])) rfl]
    rw [seq_go (set_go (show evBin opIx _ _ _ S = .ok (.str r1) S by simp -implicitDefEqProofs (disch := omega) only [evSeq, evSet, evVar, evC, evRet, evRetN, evDrop, evNx, evIf, evBrk, evCnt, evAsg, evFor, evTrue, noX, gN, gT, gAll, q_bin, q_un, q_test, q_and, q_or, q_not, q_andV, q_orV, q_notV, q_ifE, q_args0, q_args1, q_tup, q_lst, q_newL, q_part0, q_part1, q_sl, q_call0, q_call, q_b, q_str1, q_isi, q_src, q_rng, opRng_1, opRng_2, Res.bind, resS, List.map_cons, List.map_nil, List.cons_append, List.nil_append, List.append_nil, List.replicate_succ, List.replicate_zero, List.getElem?_cons_zero, List.getElem?_cons_succ, List.set_cons_zero, List.set_cons_succ, wipeE, opMul_l, opMul_r, opMod_i, opDiv_i, opAdd_i, opSub_i, opNeg_i, opIx_t0, opIx_t1, opIx_t2, opIx_t3, opIx_l0, opMax_i, opMin_i, ofStr_inj, List.length_map, opLen_l, opLen_t, opLen_scr, opIx_l1, opIx_l2, q_L1, q_L0, String.reduceEq, decide_false, decide_true, Bool.not_true, Bool.not_false, opLt_i, opLe_i, opGt_i, opGe_i, opEq_i, opNe_i, opEq_s, opNe_s, opEq_b, opNe_b, dn_bl, dn_int, dn_str, dn_non, Src.items, if_true, if_false, Bool.false_eq_true, decide_eq_true_eq, eq_self, reduceIte, e14, g1])) rfl]
    rw [seq_go (set_go (show evBin opIx _ _ _ S = .ok (.str r2) S by simp -implicitDefEqProofs (disch := omega) only [evSeq, evSet, evVar, evC, evRet, evRetN, evDrop, evNx, evIf, evBrk, evCnt, evAsg, evFor, evTrue, noX, gN, gT, gAll, q_bin, q_un, q_test, q_and, q_or, q_not, q_andV, q_orV, q_notV, q_ifE, q_args0, q_args1, q_tup, q_lst, q_newL, q_part0, q_part1, q_sl, q_call0, q_call, q_b, q_str1, q_isi, q_src, q_rng, opRng_1, opRng_2, Res.bind, resS, List.map_cons, List.map_nil, List.cons_append, List.nil_append, List.append_nil, List.replicate_succ, List.replicate_zero, List.getElem?_cons_zero, List.getElem?_cons_succ, List.set_cons_zero, List.set_cons_succ, wipeE, opMul_l, opMul_r, opMod_i, opDiv_i, opAdd_i, opSub_i, opNeg_i, opIx_t0, opIx_t1, opIx_t2, opIx_t3, opIx_l0, opMax_i, opMin_i, ofStr_inj, List.length_map, opLen_l, opLen_t, opLen_scr, opIx_l1, opIx_l2, q_L1, q_L0, String.reduceEq, decide_false, decide_true, Bool.not_true, Bool.not_false, opLt_i, opLe_i, opGt_i, opGe_i, opEq_i, opNe_i, opEq_s, opNe_s, opEq_b, opNe_b, dn_bl, dn_int, dn_str, dn_non, Src.items, if_true, if_false, Bool.false_eq_true, decide_eq_true_eq, eq_self, reduceIte, e15, g2])) rfl]
    rw [seq_go (set_go (show evBin opIx _ _ _ S = .ok (.str r3) S by simp -implicitDefEqProofs (disch := omega) only [evSeq, evSet, evVar, evC, evRet, evRetN, evDrop, evNx, evIf, evBrk, evCnt, evAsg, evFor, evTrue, noX, gN, gT, gAll, q_bin, q_un, q_test, q_and, q_or, q_not, q_andV, q_orV, q_notV, q_ifE, q_args0, q_args1, q_tup, q_lst, q_newL, q_part0, q_part1, q_sl, q_call0, q_call, q_b, q_str1, q_isi, q_src, q_rng, opRng_1, opRng_2, Res.bind, resS, List.map_cons, List.map_nil, List.cons_append, List.nil_append, List.append_nil, List.replicate_succ, List.replicate_zero, List.getElem?_cons_zero, List.getElem?_cons_succ, List.set_cons_zero, List.set_cons_succ, wipeE, opMul_l, opMul_r, opMod_i, opDiv_i, opAdd_i, opSub_i, opNeg_i, opIx_t0, opIx_t1, opIx_t2, opIx_t3, opIx_l0, opMax_i, opMin_i, ofStr_inj, List.length_map, opLen_l, opLen_t, opLen_scr, opIx_l1, opIx_l2, q_L1, q_L0, String.reduceEq, decide_false, decide_true, Bool.not_true, Bool.not_false, opLt_i, opLe_i, opGt_i, opGe_i, opEq_i, opNe_i, opEq_s, opNe_s, opEq_b, opNe_b, dn_bl, dn_int, dn_str, dn_non, Src.items, if_true, if_false, Bool.false_eq_true, decide_eq_true_eq, eq_self, reduceIte, e16, g3])) rfl]
    simp only [List.set_cons_zero, List.set_cons_succ]
    rw [hy]
  by_cases w13 : 13 < u % 16
  · refine go (.link r1 r2 r3) ⟨hK _ n1, hK _ n2, hK _ n3⟩ (run _ ?_)
    simp -implicitDefEqProofs (disch := omega) only [evSeq, evSet, evVar, evC, evRet, evRetN, evDrop, evNx, evIf, evBrk, evCnt, evAsg, evFor, evTrue, noX, gN, gT, gAll, q_bin, q_un, q_test, q_and, q_or, q_not, q_andV, q_orV, q_notV, q_ifE, q_args0, q_args1, q_tup, q_lst, q_newL, q_part0, q_part1, q_sl, q_call0, q_call, q_b, q_str1, q_isi, q_src, q_rng, opRng_1, opRng_2, Res.bind, resS, List.map_cons, List.map_nil, List.cons_append, List.nil_append, List.append_nil, List.replicate_succ, List.replicate_zero, List.getElem?_cons_zero, List.getElem?_cons_succ, List.set_cons_zero, List.set_cons_succ, wipeE, opMul_l, opMul_r, opMod_i, opDiv_i, opAdd_i, opSub_i, opNeg_i, opIx_t0, opIx_t1, opIx_t2, opIx_t3, opIx_l0, opMax_i, opMin_i, ofStr_inj, List.length_map, opLen_l, opLen_t, opLen_scr, opIx_l1, opIx_l2, q_L1, q_L0, String.reduceEq, decide_false, decide_true, Bool.not_true, Bool.not_false, opLt_i, opLe_i, opGt_i, opGe_i, opEq_i, opNe_i, opEq_s, opNe_s, opEq_b, opNe_b, dn_bl, dn_int, dn_str, dn_non, Src.items, if_true, if_false, Bool.false_eq_true, decide_eq_true_eq, eq_self, reduceIte, w13, Sy.enc]
  by_cases w11 : 11 < u % 16
  · refine go (.thing r1 one) ⟨hK _ n1, p1⟩ (run _ ?_)
    simp -implicitDefEqProofs (disch := omega) only [evSeq, evSet, evVar, evC, evRet, evRetN, evDrop, evNx, evIf, evBrk, evCnt, evAsg, evFor, evTrue, noX, gN, gT, gAll, q_bin, q_un, q_test, q_and, q_or, q_not, q_andV, q_orV, q_notV, q_ifE, q_args0, q_args1, q_tup, q_lst, q_newL, q_part0, q_part1, q_sl, q_call0, q_call, q_b, q_str1, q_isi, q_src, q_rng, opRng_1, opRng_2, Res.bind, resS, List.map_cons, List.map_nil, List.cons_append, List.nil_append, List.append_nil, List.replicate_succ, List.replicate_zero, List.getElem?_cons_zero, List.getElem?_cons_succ, List.set_cons_zero, List.set_cons_succ, wipeE, opMul_l, opMul_r, opMod_i, opDiv_i, opAdd_i, opSub_i, opNeg_i, opIx_t0, opIx_t1, opIx_t2, opIx_t3, opIx_l0, opMax_i, opMin_i, ofStr_inj, List.length_map, opLen_l, opLen_t, opLen_scr, opIx_l1, opIx_l2, q_L1, q_L0, String.reduceEq, decide_false, decide_true, Bool.not_true, Bool.not_false, opLt_i, opLe_i, opGt_i, opGe_i, opEq_i, opNe_i, opEq_s, opNe_s, opEq_b, opNe_b, dn_bl, dn_int, dn_str, dn_non, Src.items, if_true, if_false, Bool.false_eq_true, decide_eq_true_eq, eq_self, reduceIte, w13, w11, Sy.enc]
  by_cases w8 : 8 < u % 16
  · by_cases k0 : u % 16 = 9
    · refine go (.tie r1 r2) ⟨hK _ n1, hK _ n2⟩ (run _ ?_)
      simp -implicitDefEqProofs (disch := omega) only [evSeq, evSet, evVar, evC, evRet, evRetN, evDrop, evNx, evIf, evBrk, evCnt, evAsg, evFor, evTrue, noX, gN, gT, gAll, q_bin, q_un, q_test, q_and, q_or, q_not, q_andV, q_orV, q_notV, q_ifE, q_args0, q_args1, q_tup, q_lst, q_newL, q_part0, q_part1, q_sl, q_call0, q_call, q_b, q_str1, q_isi, q_src, q_rng, opRng_1, opRng_2, Res.bind, resS, List.map_cons, List.map_nil, List.cons_append, List.nil_append, List.append_nil, List.replicate_succ, List.replicate_zero, List.getElem?_cons_zero, List.getElem?_cons_succ, List.set_cons_zero, List.set_cons_succ, wipeE, opMul_l, opMul_r, opMod_i, opDiv_i, opAdd_i, opSub_i, opNeg_i, opIx_t0, opIx_t1, opIx_t2, opIx_t3, opIx_l0, opMax_i, opMin_i, ofStr_inj, List.length_map, opLen_l, opLen_t, opLen_scr, opIx_l1, opIx_l2, q_L1, q_L0, String.reduceEq, decide_false, decide_true, Bool.not_true, Bool.not_false, opLt_i, opLe_i, opGt_i, opGe_i, opEq_i, opNe_i, opEq_s, opNe_s, opEq_b, opNe_b, dn_bl, dn_int, dn_str, dn_non, Src.items, if_true, if_false, Bool.false_eq_true, decide_eq_true_eq, eq_self, reduceIte, k0, Int.reduceLT, Int.reduceSub, Sy.enc]
    by_cases k1 : u % 16 = 10
    · refine go (.chain r1 r2 r3) ⟨hK _ n1, hK _ n2, hK _ n3⟩ (run _ ?_)
      simp -implicitDefEqProofs (disch := omega) only [evSeq, evSet, evVar, evC, evRet, evRetN, evDrop, evNx, evIf, evBrk, evCnt, evAsg, evFor, evTrue, noX, gN, gT, gAll, q_bin, q_un, q_test, q_and, q_or, q_not, q_andV, q_orV, q_notV, q_ifE, q_args0, q_args1, q_tup, q_lst, q_newL, q_part0, q_part1, q_sl, q_call0, q_call, q_b, q_str1, q_isi, q_src, q_rng, opRng_1, opRng_2, Res.bind, resS, List.map_cons, List.map_nil, List.cons_append, List.nil_append, List.append_nil, List.replicate_succ, List.replicate_zero, List.getElem?_cons_zero, List.getElem?_cons_succ, List.set_cons_zero, List.set_cons_succ, wipeE, opMul_l, opMul_r, opMod_i, opDiv_i, opAdd_i, opSub_i, opNeg_i, opIx_t0, opIx_t1, opIx_t2, opIx_t3, opIx_l0, opMax_i, opMin_i, ofStr_inj, List.length_map, opLen_l, opLen_t, opLen_scr, opIx_l1, opIx_l2, q_L1, q_L0, String.reduceEq, decide_false, decide_true, Bool.not_true, Bool.not_false, opLt_i, opLe_i, opGt_i, opGe_i, opEq_i, opNe_i, opEq_s, opNe_s, opEq_b, opNe_b, dn_bl, dn_int, dn_str, dn_non, Src.items, if_true, if_false, Bool.false_eq_true, decide_eq_true_eq, eq_self, reduceIte, k1, Int.reduceLT, Int.reduceSub, Sy.enc]
    · have k2 : u % 16 = 11 := by omega
      refine go (.runs r1) (hK _ n1) (run _ ?_)
      simp -implicitDefEqProofs (disch := omega) only [evSeq, evSet, evVar, evC, evRet, evRetN, evDrop, evNx, evIf, evBrk, evCnt, evAsg, evFor, evTrue, noX, gN, gT, gAll, q_bin, q_un, q_test, q_and, q_or, q_not, q_andV, q_orV, q_notV, q_ifE, q_args0, q_args1, q_tup, q_lst, q_newL, q_part0, q_part1, q_sl, q_call0, q_call, q_b, q_str1, q_isi, q_src, q_rng, opRng_1, opRng_2, Res.bind, resS, List.map_cons, List.map_nil, List.cons_append, List.nil_append, List.append_nil, List.replicate_succ, List.replicate_zero, List.getElem?_cons_zero, List.getElem?_cons_succ, List.set_cons_zero, List.set_cons_succ, wipeE, opMul_l, opMul_r, opMod_i, opDiv_i, opAdd_i, opSub_i, opNeg_i, opIx_t0, opIx_t1, opIx_t2, opIx_t3, opIx_l0, opMax_i, opMin_i, ofStr_inj, List.length_map, opLen_l, opLen_t, opLen_scr, opIx_l1, opIx_l2, q_L1, q_L0, String.reduceEq, decide_false, decide_true, Bool.not_true, Bool.not_false, opLt_i, opLe_i, opGt_i, opGe_i, opEq_i, opNe_i, opEq_s, opNe_s, opEq_b, opNe_b, dn_bl, dn_int, dn_str, dn_non, Src.items, if_true, if_false, Bool.false_eq_true, decide_eq_true_eq, eq_self, reduceIte, k2, Int.reduceLT, Int.reduceSub, Sy.enc]
  by_cases w7 : u % 16 = 8
  · refine go (.same one oth) ⟨p1, p2⟩ (run _ ?_)
    simp -implicitDefEqProofs (disch := omega) only [evSeq, evSet, evVar, evC, evRet, evRetN, evDrop, evNx, evIf, evBrk, evCnt, evAsg, evFor, evTrue, noX, gN, gT, gAll, q_bin, q_un, q_test, q_and, q_or, q_not, q_andV, q_orV, q_notV, q_ifE, q_args0, q_args1, q_tup, q_lst, q_newL, q_part0, q_part1, q_sl, q_call0, q_call, q_b, q_str1, q_isi, q_src, q_rng, opRng_1, opRng_2, Res.bind, resS, List.map_cons, List.map_nil, List.cons_append, List.nil_append, List.append_nil, List.replicate_succ, List.replicate_zero, List.getElem?_cons_zero, List.getElem?_cons_succ, List.set_cons_zero, List.set_cons_succ, wipeE, opMul_l, opMul_r, opMod_i, opDiv_i, opAdd_i, opSub_i, opNeg_i, opIx_t0, opIx_t1, opIx_t2, opIx_t3, opIx_l0, opMax_i, opMin_i, ofStr_inj, List.length_map, opLen_l, opLen_t, opLen_scr, opIx_l1, opIx_l2, q_L1, q_L0, String.reduceEq, decide_false, decide_true, Bool.not_true, Bool.not_false, opLt_i, opLe_i, opGt_i, opGe_i, opEq_i, opNe_i, opEq_s, opNe_s, opEq_b, opNe_b, dn_bl, dn_int, dn_str, dn_non, Src.items, if_true, if_false, Bool.false_eq_true, decide_eq_true_eq, eq_self, reduceIte, w7, Int.reduceLT, Int.reduceEq, Sy.enc]
  by_cases w5 : 5 < u % 16
  · refine go (.no one oth) ⟨p1, p2⟩ (run _ ?_)
    simp -implicitDefEqProofs (disch := omega) only [evSeq, evSet, evVar, evC, evRet, evRetN, evDrop, evNx, evIf, evBrk, evCnt, evAsg, evFor, evTrue, noX, gN, gT, gAll, q_bin, q_un, q_test, q_and, q_or, q_not, q_andV, q_orV, q_notV, q_ifE, q_args0, q_args1, q_tup, q_lst, q_newL, q_part0, q_part1, q_sl, q_call0, q_call, q_b, q_str1, q_isi, q_src, q_rng, opRng_1, opRng_2, Res.bind, resS, List.map_cons, List.map_nil, List.cons_append, List.nil_append, List.append_nil, List.replicate_succ, List.replicate_zero, List.getElem?_cons_zero, List.getElem?_cons_succ, List.set_cons_zero, List.set_cons_succ, wipeE, opMul_l, opMul_r, opMod_i, opDiv_i, opAdd_i, opSub_i, opNeg_i, opIx_t0, opIx_t1, opIx_t2, opIx_t3, opIx_l0, opMax_i, opMin_i, ofStr_inj, List.length_map, opLen_l, opLen_t, opLen_scr, opIx_l1, opIx_l2, q_L1, q_L0, String.reduceEq, decide_false, decide_true, Bool.not_true, Bool.not_false, opLt_i, opLe_i, opGt_i, opGe_i, opEq_i, opNe_i, opEq_s, opNe_s, opEq_b, opNe_b, dn_bl, dn_int, dn_str, dn_non, Src.items, if_true, if_false, Bool.false_eq_true, decide_eq_true_eq, eq_self, reduceIte, w13, w11, w8, w7, w5, Sy.enc]
  · refine go (.every one oth) ⟨p1, p2⟩ (run _ ?_)
    simp -implicitDefEqProofs (disch := omega) only [evSeq, evSet, evVar, evC, evRet, evRetN, evDrop, evNx, evIf, evBrk, evCnt, evAsg, evFor, evTrue, noX, gN, gT, gAll, q_bin, q_un, q_test, q_and, q_or, q_not, q_andV, q_orV, q_notV, q_ifE, q_args0, q_args1, q_tup, q_lst, q_newL, q_part0, q_part1, q_sl, q_call0, q_call, q_b, q_str1, q_isi, q_src, q_rng, opRng_1, opRng_2, Res.bind, resS, List.map_cons, List.map_nil, List.cons_append, List.nil_append, List.append_nil, List.replicate_succ, List.replicate_zero, List.getElem?_cons_zero, List.getElem?_cons_succ, List.set_cons_zero, List.set_cons_succ, wipeE, opMul_l, opMul_r, opMod_i, opDiv_i, opAdd_i, opSub_i, opNeg_i, opIx_t0, opIx_t1, opIx_t2, opIx_t3, opIx_l0, opMax_i, opMin_i, ofStr_inj, List.length_map, opLen_l, opLen_t, opLen_scr, opIx_l1, opIx_l2, q_L1, q_L0, String.reduceEq, decide_false, decide_true, Bool.not_true, Bool.not_false, opLt_i, opLe_i, opGt_i, opGe_i, opEq_i, opNe_i, opEq_s, opNe_s, opEq_b, opNe_b, dn_bl, dn_int, dn_str, dn_non, Src.items, if_true, if_false, Bool.false_eq_true, decide_eq_true_eq, eq_self, reduceIte, w13, w11, w8, w7, w5, Sy.enc]
end Kd

namespace Kd
open PySem PySem.Spec L2 Ev
/-! # k45 -/
theorem rows_refs (y : Sy) : refsB 0 (.lst (y.rows.map Rw.enc)) = true := by
  simp only [refsB]
  exact refsL_map fun w _ => by cases w <;> simp only [Rw.enc, refsB, refsL, Th.refs, Bool.and_self]
theorem E_rows {y : Sy} {S : Store} : E__law_rows [y.enc] S = .ok (.lst (y.rows.map Rw.enc)) S := by
  rw [x__law_rows, ← dn_pure (S := S) (rows_refs y)]; unfold runDef
  cases y <;> simp -implicitDefEqProofs only [evSeq, evSet, evVar, evC, evRet, evRetN, evDrop, evNx, evIf, evBrk, evCnt, evAsg, evFor, evTrue, noX, gN, gT, gAll, q_bin, q_un, q_test, q_and, q_or, q_not, q_andV, q_orV, q_notV, q_ifE, q_args0, q_args1, q_tup, q_lst, q_newL, q_part0, q_part1, q_sl, q_call0, q_call, q_b, q_str1, q_isi, q_src, q_rng, opRng_1, opRng_2, Res.bind, resS, List.map_cons, List.map_nil, List.cons_append, List.nil_append, List.append_nil, List.replicate_succ, List.replicate_zero, List.getElem?_cons_zero, List.getElem?_cons_succ, List.set_cons_zero, List.set_cons_succ, wipeE, opMul_l, opMul_r, opMod_i, opDiv_i, opAdd_i, opSub_i, opNeg_i, opIx_t0, opIx_t1, opIx_t2, opIx_t3, opIx_l0, opMax_i, opMin_i, ofStr_inj, List.length_map, opLen_l, opLen_t, opLen_scr, opIx_l1, opIx_l2, q_L1, q_L0, String.reduceEq, decide_false, decide_true, Bool.not_true, Bool.not_false, opLt_i, opLe_i, opGt_i, opGe_i, opEq_i, opNe_i, opEq_s, opNe_s, opEq_b, opNe_b, dn_bl, dn_int, dn_str, dn_non, Src.items, if_true, if_false, Bool.false_eq_true, decide_eq_true_eq, eq_self, reduceIte, Sy.enc, Sy.rows, Rw.enc, Th.enc]
def Rw.gr : Rw → List D
  | .sub r s => [.tup [.int 0, .tup [.str "link", .str "X", .str r, .str "Y"]]]
  | .chain r s t => [.tup [.int (-1), .tup [.str "link", .str "X", .str r, .str "Y"]], .tup [.int 0, .tup [.str "link", .str "Y", .str s, .str "Z"]]]
  | _ => []
def Rw.goal : Rw → D
  | .under a b => .tup [.str "is", a.enc, b.enc]
  | .mark a x => .tup [.str "is", .tup [.str "thing", .str a], x.enc]
  | .link a r b => .tup [.str "tied", .tup [.str "thing", .str a], .str r, .tup [.str "thing", .str b]]
  | .sub r s => .tup [.str "tied", .tup [.str "thing", .str "X"], .str s, .tup [.str "thing", .str "Y"]]
  | .chain r s t => .tup [.str "tied", .tup [.str "thing", .str "X"], .str t, .tup [.str "thing", .str "Z"]]
theorem E_gr {w : Rw} {S : Store} : E__law_granted [w.enc] S = .ok (.lst w.gr) S := by
  have h : refsB 0 (.lst w.gr) = true := by cases w <;> simp only [Rw.gr, refsB, refsL, Bool.and_self]
  rw [x__law_granted, ← dn_pure (S := S) h]; unfold runDef
  cases w <;> simp -implicitDefEqProofs only [evSeq, evSet, evVar, evC, evRet, evRetN, evDrop, evNx, evIf, evBrk, evCnt, evAsg, evFor, evTrue, noX, gN, gT, gAll, q_bin, q_un, q_test, q_and, q_or, q_not, q_andV, q_orV, q_notV, q_ifE, q_args0, q_args1, q_tup, q_lst, q_newL, q_part0, q_part1, q_sl, q_call0, q_call, q_b, q_str1, q_isi, q_src, q_rng, opRng_1, opRng_2, Res.bind, resS, List.map_cons, List.map_nil, List.cons_append, List.nil_append, List.append_nil, List.replicate_succ, List.replicate_zero, List.getElem?_cons_zero, List.getElem?_cons_succ, List.set_cons_zero, List.set_cons_succ, wipeE, opMul_l, opMul_r, opMod_i, opDiv_i, opAdd_i, opSub_i, opNeg_i, opIx_t0, opIx_t1, opIx_t2, opIx_t3, opIx_l0, opMax_i, opMin_i, ofStr_inj, List.length_map, opLen_l, opLen_t, opLen_scr, opIx_l1, opIx_l2, q_L1, q_L0, String.reduceEq, decide_false, decide_true, Bool.not_true, Bool.not_false, opLt_i, opLe_i, opGt_i, opGe_i, opEq_i, opNe_i, opEq_s, opNe_s, opEq_b, opNe_b, dn_bl, dn_int, dn_str, dn_non, Src.items, if_true, if_false, Bool.false_eq_true, decide_eq_true_eq, eq_self, reduceIte, Rw.enc, Rw.gr]
theorem E_gr2 {w : Rw} {S : Store} : E_granted [w.enc] S = .ok (.ref S.length) (S ++ [some (.lst w.gr)]) := by
  rw [x_granted]; unfold runKeep
  cases w <;> simp -implicitDefEqProofs only [evSeq, evSet, evVar, evC, evRet, evRetN, evDrop, evNx, evIf, evBrk, evCnt, evAsg, evFor, evTrue, noX, gN, gT, gAll, q_bin, q_un, q_test, q_and, q_or, q_not, q_andV, q_orV, q_notV, q_ifE, q_args0, q_args1, q_tup, q_lst, q_newL, q_part0, q_part1, q_sl, q_call0, q_call, q_b, q_str1, q_isi, q_src, q_rng, opRng_1, opRng_2, Res.bind, resS, List.map_cons, List.map_nil, List.cons_append, List.nil_append, List.append_nil, List.replicate_succ, List.replicate_zero, List.getElem?_cons_zero, List.getElem?_cons_succ, List.set_cons_zero, List.set_cons_succ, wipeE, opMul_l, opMul_r, opMod_i, opDiv_i, opAdd_i, opSub_i, opNeg_i, opIx_t0, opIx_t1, opIx_t2, opIx_t3, opIx_l0, opMax_i, opMin_i, ofStr_inj, List.length_map, opLen_l, opLen_t, opLen_scr, opIx_l1, opIx_l2, q_L1, q_L0, String.reduceEq, decide_false, decide_true, Bool.not_true, Bool.not_false, opLt_i, opLe_i, opGt_i, opGe_i, opEq_i, opNe_i, opEq_s, opNe_s, opEq_b, opNe_b, dn_bl, dn_int, dn_str, dn_non, Src.items, if_true, if_false, Bool.false_eq_true, decide_eq_true_eq, eq_self, reduceIte, Rw.enc, Rw.gr]
theorem E_go {w : Rw} {S : Store} : E__law_goal [w.enc] S = .ok w.goal S ∧ E_goal [w.enc] S = .ok w.goal S := by
  have h : refsB 0 w.goal = true := by cases w <;> simp only [Rw.goal, refsB, refsL, Th.refs, Bool.and_self]
  rw [x__law_goal, x_goal, ← dn_pure (S := S) h]; unfold runDef
  cases w <;> constructor <;> simp -implicitDefEqProofs only [evSeq, evSet, evVar, evC, evRet, evRetN, evDrop, evNx, evIf, evBrk, evCnt, evAsg, evFor, evTrue, noX, gN, gT, gAll, q_bin, q_un, q_test, q_and, q_or, q_not, q_andV, q_orV, q_notV, q_ifE, q_args0, q_args1, q_tup, q_lst, q_newL, q_part0, q_part1, q_sl, q_call0, q_call, q_b, q_str1, q_isi, q_src, q_rng, opRng_1, opRng_2, Res.bind, resS, List.map_cons, List.map_nil, List.cons_append, List.nil_append, List.append_nil, List.replicate_succ, List.replicate_zero, List.getElem?_cons_zero, List.getElem?_cons_succ, List.set_cons_zero, List.set_cons_succ, wipeE, opMul_l, opMul_r, opMod_i, opDiv_i, opAdd_i, opSub_i, opNeg_i, opIx_t0, opIx_t1, opIx_t2, opIx_t3, opIx_l0, opMax_i, opMin_i, ofStr_inj, List.length_map, opLen_l, opLen_t, opLen_scr, opIx_l1, opIx_l2, q_L1, q_L0, String.reduceEq, decide_false, decide_true, Bool.not_true, Bool.not_false, opLt_i, opLe_i, opGt_i, opGe_i, opEq_i, opNe_i, opEq_s, opNe_s, opEq_b, opNe_b, dn_bl, dn_int, dn_str, dn_non, Src.items, if_true, if_false, Bool.false_eq_true, decide_eq_true_eq, eq_self, reduceIte, Rw.enc, Rw.goal]
theorem sk_lit2 : Sk "X" ∧ Sk "Y" ∧ Sk "Z" ∧ Sk "is" ∧ Sk "tied" ∧ Sk "thing" := by decide +kernel
theorem gr_good {w : Rw} {n : Nat} (h : w.Ok (fun t => t.Ok Sk Sk ∧ t.hi ≤ n) Sk Sk) : Good 3 (.lst w.gr) := by
  obtain ⟨l1, l2, l3, l4, l5, l6, l7, l8, l9, l10⟩ := sk_lit
  obtain ⟨X, Y, Z, l11, l12, l13⟩ := sk_lit2
  have gi : ∀ {k : Nat} {i : Int}, Good k (.int i) := fun {k i} => (Good.int (i := i)).mono (Nat.zero_le _)
  cases w with
  | sub r s => exact Good.lst (mem1 (Good.tup (mem2 gi (Good.tup (mem4 (Gs l10) (Gs X) (Gs h.1) (Gs Y))))))
  | chain r s t => exact Good.lst (mem2 (Good.tup (mem2 gi (Good.tup (mem4 (Gs l10) (Gs X) (Gs h.1) (Gs Y))))) (Good.tup (mem2 gi (Good.tup (mem4 (Gs l10) (Gs Y) (Gs h.2.1) (Gs Z))))))
  | _ => exact Good.lst fun _ h => absurd h List.not_mem_nil
theorem goal_good {w : Rw} {n : Nat} (h : w.Ok (fun t => t.Ok Sk Sk ∧ t.hi ≤ n) Sk Sk) : Good (n + 3) w.goal := by
  obtain ⟨X, Y, Z, l11, l12, l13⟩ := sk_lit2
  have gt : ∀ {k : Nat} {s : Str}, Sk s → Good (k + 1) (.tup [.str "thing", .str s]) := fun {k s} hs => (Good.tup (n := 0) (mem2 (Gs l13) (Gs hs))).mono (by omega)
  cases w with
  | under a b => exact Good.tup (mem3 (Gs l11) ((Th.good h.1.1).mono (by have := h.1.2; omega)) ((Th.good h.2.1).mono (by have := h.2.2; omega)))
  | mark a x => exact Good.tup (mem3 (Gs l11) (gt h.1) ((Th.good h.2.1).mono (by have := h.2.2; omega)))
  | link a r b => exact Good.tup (mem4 (Gs l12) (gt h.1) (Gs h.2.1) (gt h.2.2))
  | sub r s => exact Good.tup (mem4 (Gs l12) (gt X) (Gs h.2) (gt Y))
  | chain r s t => exact Good.tup (mem4 (Gs l12) (gt X) (Gs h.2.2) (gt Z))
theorem kit_3 : kitB "list" "list" = some true ∧ kitB "int" "int" = some true ∧ kitB "int" "bool" = some false := by decide +kernel
theorem pairs_loop {w : Rw} {S : Store} {a b c d : Option D} : ∀ e5 : Option D, ∃ d5, forL (.own S.length w.gr) (gN 5) B_law_1 w.gr [a, b, c, d, some (.ref S.length), e5] (S ++ [some (.lst w.gr)]) = .nx [a, b, c, d, some (.ref S.length), d5] (S ++ [some (.lst w.gr)]) := by
  have step : ∀ (i : Int) (x : D), B_law_1 [a, b, c, d, some (.ref S.length), some (.tup [.int i, x])] (S ++ [some (.lst w.gr)]) = .nx [a, b, c, d, some (.ref S.length), some (.tup [.int i, x])] (S ++ [some (.lst w.gr)]) := fun i x => by
    unfold B_law_1
    simp -implicitDefEqProofs only [evSeq, evSet, evVar, evC, evRet, evRetN, evDrop, evNx, evIf, evBrk, evCnt, evAsg, evFor, evTrue, noX, gN, gT, gAll, q_bin, q_un, q_test, q_and, q_or, q_not, q_andV, q_orV, q_notV, q_ifE, q_args0, q_args1, q_tup, q_lst, q_newL, q_part0, q_part1, q_sl, q_call0, q_call, q_b, q_str1, q_isi, q_src, q_rng, opRng_1, opRng_2, Res.bind, resS, List.map_cons, List.map_nil, List.cons_append, List.nil_append, List.append_nil, List.replicate_succ, List.replicate_zero, List.getElem?_cons_zero, List.getElem?_cons_succ, List.set_cons_zero, List.set_cons_succ, wipeE, opMul_l, opMul_r, opMod_i, opDiv_i, opAdd_i, opSub_i, opNeg_i, opIx_t0, opIx_t1, opIx_t2, opIx_t3, opIx_l0, opMax_i, opMin_i, ofStr_inj, List.length_map, opLen_l, opLen_t, opLen_scr, opIx_l1, opIx_l2, q_L1, q_L0, String.reduceEq, decide_false, decide_true, Bool.not_true, Bool.not_false, opLt_i, opLe_i, opGt_i, opGe_i, opEq_i, opNe_i, opEq_s, opNe_s, opEq_b, opNe_b, dn_bl, dn_int, dn_str, dn_non, Src.items, if_true, if_false, Bool.false_eq_true, decide_eq_true_eq, eq_self, reduceIte, tyName, kit_3]
  have lv : (Src.own S.length w.gr).live (S ++ [some (.lst w.gr)]) := get_last
  intro e5
  have g5 : ∀ (x : D) (e5 : Option D), gN 5 x [a, b, c, d, some (.ref S.length), e5] = some [a, b, c, d, some (.ref S.length), some x] := fun _ _ => rfl
  cases w with
  | sub r s =>
    refine ⟨some (.tup [.int 0, .tup [.str "link", .str "X", .str r, .str "Y"]]), ?_⟩
    simp only [Rw.gr] at lv step ⊢
    simp only [forL]
    rw [if_pos lv, g5]
    simp only [step]
    rw [if_pos lv]
  | chain r s t =>
    refine ⟨some (.tup [.int 0, .tup [.str "link", .str "Y", .str s, .str "Z"]]), ?_⟩
    simp only [Rw.gr] at lv step ⊢
    simp only [forL]
    rw [if_pos lv, g5]
    simp only [step]
    rw [if_pos lv, g5]
    simp only [step]
    rw [if_pos lv]
  | _ =>
    refine ⟨e5, ?_⟩
    simp only [Rw.gr] at lv ⊢
    simp only [forL]
    rw [if_pos lv]
theorem row_step {w : Rw} {n : Nat} {S : Store} {a c d4 d5 : Option D} {y : Str} {ys : List Str} (hy : ys[0]? = some y) (h : w.Ok (fun t => t.Ok Sk Sk ∧ t.hi ≤ n) Sk Sk) (hn : n ≤ 20) :
    ∃ e4 e5 G, B_law_2 [a, some (.lst (ys.map D.str)), c, some w.enc, d4, d5] S = .nx [a, some (.lst (ys.map D.str)), c, some w.enc, e4, e5] (S ++ G) := by
  obtain ⟨e5, lp⟩ := pairs_loop (w := w) (S := S) (a := a) (b := some (.lst (ys.map D.str))) (c := c) (d := some w.enc) d5
  have n1 : opNe (.ref S.length) (.lst w.gr) (S ++ [some (.lst w.gr)]) = .ok (.bl false) _ := opEqN_ref get_last (gr_good h) (by decide)
  have n2 : ∀ S, opNe w.goal w.goal S = .ok (.bl false) S := fun S => opNe_same (goal_good h) (by omega)
  have e0 : ∀ S, opIx (.lst (ys.map D.str)) (.int 0) S = .ok (.str y) S := fun S => opIx_l (by decide) (map_at hy)
  have gl : w.gr.length ≤ 2 := by cases w <;> simp [Rw.gr]
  have ap := app_last (S := S) (xs := w.gr) (d := .tup [.int 7, .tup [.str "runs", .str y]]) (by omega)
  have n3 : opNe (.ref (S ++ [some (Ob.lst (w.gr ++ [.tup [.int 7, .tup [.str "runs", .str y]]]))]).length) (.lst w.gr) (S ++ [some (Ob.lst (w.gr ++ [.tup [.int 7, .tup [.str "runs", .str y]]]))] ++ [some (Ob.lst w.gr)]) = .ok (.bl false) _ := opEqN_ref get_last (gr_good h) (by decide)
  have sr : evSrc (evVar 4) [a, some (.lst (ys.map D.str)), c, some w.enc, some (.ref S.length), d5] (S ++ [some (.lst w.gr)]) = .ok (.own S.length w.gr) (S ++ [some (.lst w.gr)]) := src_last rfl
  refine ⟨some (.ref S.length), e5, [some (Ob.lst (w.gr ++ [.tup [.int 7, .tup [.str "runs", .str y]]])), some (Ob.lst w.gr)], ?_⟩
  simp only [List.append_assoc, List.cons_append, List.nil_append] at n3
  unfold B_law_2
  simp only [evSeq, evSet, evVar, evC, evDrop, evIf, evNx, evFor, noX, q_call0, q_args0, q_args1, q_tup, q_or, q_not, q_test, q_isi, q_bin, q_L1, Res.bind, resS, List.append_nil, List.getElem?_cons_zero, List.getElem?_cons_succ, List.set_cons_zero, List.set_cons_succ, E_gr, E_gr2, E_go, n1, n2, tyName, get_last, kit_3, Bool.not_true, Bool.not_false, if_true, if_false, Bool.false_eq_true, reduceIte, evRet, sr, Src.items, lp, e0, lst_last, ap, n3, List.append_assoc, List.cons_append, List.nil_append]
theorem cell_step {c : Int} {S : Store} {a d3 d4 d5 : Option D} {ys : List Str} (y0 : 3 ≤ ys.length) (y1 : ys.length ≤ 6) (hK : ∀ y ∈ ys, Sk y) :
    ∃ e3 e4 e5 G, B_law_3 [a, some (.lst (ys.map D.str)), some (.int c), d3, d4, d5] S = .nx [a, some (.lst (ys.map D.str)), some (.int c), e3, e4, e5] (S ++ G) := by
  obtain ⟨y, o, ey⟩ := E_sayingB (c := c) (d := 2) (S := S) y0 y1 hK (by decide)
  have ey : E__law_saying [.lst (ys.map D.str), .int c, .int 2] S = .ok y.enc S := ey
  obtain ⟨k0, _, i0⟩ := pick_at (xs := ys) (i := 0) (by decide) (by omega)
  have i0 : ys[0]? = some k0 := i0
  have ro := Sy.rows_ok o
  obtain ⟨ρ', S', f, G, rfl, e3, e4, e5, rfl⟩ := forL_inv (s := Src.frz (y.rows.map Rw.enc)) (g := gN 3) (body := B_law_2) Rw.enc
    (fun _ ρ S' => ∃ G, S' = S ++ G ∧ ∃ e3 e4 e5, ρ = [a, some (.lst (ys.map D.str)), some (.int c), e3, e4, e5]) y.rows
    (fun pre w post ρ S' e ⟨G, hS, e3, e4, e5, hρ⟩ => by
      subst hρ
      obtain ⟨f4, f5, G', st⟩ := row_step (S := S') (a := a) (c := some (.int c)) (d4 := e4) (d5 := e5) i0 (ro w (by rw [← e]; simp)) (by decide)
      exact ⟨trivial, _, rfl, _, _, .inl st, G ++ G', by rw [hS, List.append_assoc], _, _, _, rfl⟩)
    (fun _ _ _ => trivial) y.rows [] [a, some (.lst (ys.map D.str)), some (.int c), d3, d4, d5] S rfl ⟨[], by simp, _, _, _, rfl⟩
  refine ⟨e3, e4, e5, G, ?_⟩
  unfold B_law_3
  simp -implicitDefEqProofs only [evSeq, evSet, evVar, evC, evRet, evRetN, evDrop, evNx, evIf, evBrk, evCnt, evAsg, evFor, evTrue, noX, gN, gT, gAll, q_bin, q_un, q_test, q_and, q_or, q_not, q_andV, q_orV, q_notV, q_ifE, q_args0, q_args1, q_tup, q_lst, q_newL, q_part0, q_part1, q_sl, q_call0, q_call, q_b, q_str1, q_isi, q_src, q_rng, opRng_1, opRng_2, Res.bind, resS, List.map_cons, List.map_nil, List.cons_append, List.nil_append, List.append_nil, List.replicate_succ, List.replicate_zero, List.getElem?_cons_zero, List.getElem?_cons_succ, List.set_cons_zero, List.set_cons_succ, wipeE, opMul_l, opMul_r, opMod_i, opDiv_i, opAdd_i, opSub_i, opNeg_i, opIx_t0, opIx_t1, opIx_t2, opIx_t3, opIx_l0, opMax_i, opMin_i, ofStr_inj, List.length_map, opLen_l, opLen_t, opLen_scr, opIx_l1, opIx_l2, q_L1, q_L0, String.reduceEq, decide_false, decide_true, Bool.not_true, Bool.not_false, opLt_i, opLe_i, opGt_i, opGe_i, opEq_i, opNe_i, opEq_s, opNe_s, opEq_b, opNe_b, dn_bl, dn_int, dn_str, dn_non, Src.items, if_true, if_false, Bool.false_eq_true, decide_eq_true_eq, eq_self, reduceIte, ey, E_rows, f]
theorem law_run (ns : List Int) (h63 : ns.length ≤ 63) (S : Store) : ∃ S', E_law [.scr ns] S = .ok (.bl true) S' := by
  obtain ⟨c0, x0, _⟩ := E_cell (ns := ns) (k := 0) (S := S) (by decide)
  obtain ⟨ys, y0, y1, y2, y3⟩ := E_namesB (c := c0) (S := S)
  have hK : ∀ y ∈ ys, Sk y := fun y h => wd_sk (y2 y h)
  have hl : (cutL ns (some 1) (some 41)).length ≤ 63 := Nat.le_trans cutL_len h63
  obtain ⟨ρ', S', f, G, rfl, e2, e3, e4, e5, rfl⟩ := forL_inv (s := Src.frz ((cutL ns (some 1) (some 41) ++ [5]).map D.int)) (g := gN 2) (body := B_law_3) D.int
    (fun _ ρ S' => ∃ G, S' = S ++ G ∧ ∃ e2 e3 e4 e5, ρ = [some (.scr ns), some (.lst (ys.map D.str)), e2, e3, e4, e5]) (cutL ns (some 1) (some 41) ++ [5])
    (fun pre c post ρ S' e ⟨G, hS, e2, e3, e4, e5, hρ⟩ => by
      subst hρ
      obtain ⟨f3, f4, f5, G', st⟩ := cell_step (c := c) (S := S') (a := some (.scr ns)) (d3 := e3) (d4 := e4) (d5 := e5) y0 y1 hK
      exact ⟨trivial, _, rfl, _, _, .inl st, G ++ G', by rw [hS, List.append_assoc], _, _, _, _, rfl⟩)
    (fun _ _ _ => trivial) (cutL ns (some 1) (some 41) ++ [5]) [] [some (.scr ns), some (.lst (ys.map D.str)), none, none, none, none] S rfl ⟨[], by simp, _, _, _, _, rfl⟩
  refine ⟨S, ?_⟩
  have o1 := opAdd_l (S := S) (x := (cutL ns (some 1) (some 41)).map D.int) (y := [D.int 5]) (by simp; omega)
  rw [show (cutL ns (some 1) (some 41)).map D.int ++ [D.int 5] = (cutL ns (some 1) (some 41) ++ [5]).map D.int by simp] at o1
  rw [x_law]; unfold runDef
  simp -implicitDefEqProofs only [evSeq, evSet, evVar, evC, evRet, evRetN, evDrop, evNx, evIf, evBrk, evCnt, evAsg, evFor, evTrue, noX, gN, gT, gAll, q_bin, q_un, q_test, q_and, q_or, q_not, q_andV, q_orV, q_notV, q_ifE, q_args0, q_args1, q_tup, q_lst, q_newL, q_part0, q_part1, q_sl, q_call0, q_call, q_b, q_str1, q_isi, q_src, q_rng, opRng_1, opRng_2, Res.bind, resS, List.map_cons, List.map_nil, List.cons_append, List.nil_append, List.append_nil, List.replicate_succ, List.replicate_zero, List.getElem?_cons_zero, List.getElem?_cons_succ, List.set_cons_zero, List.set_cons_succ, wipeE, opMul_l, opMul_r, opMod_i, opDiv_i, opAdd_i, opSub_i, opNeg_i, opIx_t0, opIx_t1, opIx_t2, opIx_t3, opIx_l0, opMax_i, opMin_i, ofStr_inj, List.length_map, opLen_l, opLen_t, opLen_scr, opIx_l1, opIx_l2, q_L1, q_L0, String.reduceEq, decide_false, decide_true, Bool.not_true, Bool.not_false, opLt_i, opLe_i, opGt_i, opGe_i, opEq_i, opNe_i, opEq_s, opNe_s, opEq_b, opNe_b, dn_bl, dn_int, dn_str, dn_non, Src.items, if_true, if_false, Bool.false_eq_true, decide_eq_true_eq, eq_self, reduceIte, x0, y3, opSl, o1, f, dn_blA]
theorem law_true (ns : List Int) (h63 : ns.length ≤ 63) : ∃ S', E_law [.scr ns] [] = .ok (.bl true) S' := law_run ns h63 []
end Kd

open PySem PySem.W PyProof.Rows in
set_option maxRecDepth 100000 in
set_option maxHeartbeats 0 in
theorem PySem.Challenge.cw_kindhall_k45_granted_and_goal_holds : PySem.Challenge.rw_kindhall_k45_granted_and_goal.Holds := by
  w_on; o_law; k_head; (case hw => w_witness2)
  k_fill
  refine L2.walk_of (l := PySem.Challenge.rw_kindhall_k45_granted_and_goal) (n := 63) (k := 22) (x := "_law_script") (CX := fun _ => L2.CX0) (sp := fun w => Ev.sp0 _ (fun _ => none) 1 Kd.E_law) rfl (by decide) rfl ⟨rfl, by decide, by decide⟩ (fun w h Y => PySem.W.kIn_of Y) ?F (Ev.law_end Kd.law_true) (fun _ _ _ _ _ h => h)
  case F =>
    intro w mg fa h KX G hmg
    refine' Kd.all_mk KX G hmg ?a0 ?l0 ?c0 ?k0 ?a1 ?l1 ?c1 ?k1 ?a2 ?l2 ?c2 ?k2 ?a3 ?l3 ?c3 ?k3 ?a4 ?l4 ?c4 ?k4 ?a5 ?l5 ?c5 ?k5 ?a6 ?l6 ?c6 ?k6 ?a7 ?l7 ?c7 ?k7 ?a8 ?l8 ?c8 ?k8 ?a9 ?l9 ?c9 ?k9 ?a10 ?l10 ?c10 ?k10 ?a11 ?l11 ?c11 ?k11 ?z_bool ?z_int ?z_isinstance ?z_len ?z_list ?z_range
    (case a0 => k_is)
    (case l0 => k_is)
    (case c0 => k_is)
    (case k0 => k_is)
    (case a1 => k_is)
    (case l1 => k_is)
    (case c1 => k_is)
    (case k1 => k_is)
    (case a2 => k_is)
    (case l2 => k_is)
    (case c2 => k_is)
    (case k2 => k_is)
    (case a3 => k_is)
    (case l3 => k_is)
    (case c3 => k_is)
    (case k3 => k_is)
    (case a4 => k_is)
    (case l4 => k_is)
    (case c4 => k_is)
    (case k4 => k_is)
    (case a5 => k_is)
    (case l5 => k_is)
    (case c5 => k_is)
    (case k5 => k_is)
    (case a6 => k_is)
    (case l6 => k_is)
    (case c6 => k_is)
    (case k6 => k_is)
    (case a7 => k_is)
    (case l7 => k_is)
    (case c7 => k_is)
    (case k7 => k_is)
    (case a8 => k_is)
    (case l8 => k_is)
    (case c8 => k_is)
    (case k8 => k_is)
    (case a9 => k_is)
    (case l9 => k_is)
    (case c9 => k_is)
    (case k9 => k_is)
    (case a10 => k_is)
    (case l10 => k_is)
    (case c10 => k_is)
    (case k10 => k_is)
    (case a11 => k_is)
    (case l11 => k_is)
    (case c11 => k_is)
    (case k11 => k_is)
    (case z_bool => k_is)
    (case z_int => k_is)
    (case z_isinstance => k_is)
    (case z_len => k_is)
    (case z_list => k_is)
    (case z_range => k_is)
